import PyProof.Rows.All
import Wide.All
import OpenK.AllK
import Wide.FinOn
import HandS.ForExc
import HandS.ForMost
import HandS.IsInst
import HandS.TupAny
import HandS.Wide
import HandS.Flow
import HandS.Deep
import HandS.Text
import HandS.TupLe
import KE.DatumOrd
import HandS.Walk
import HandS.ExcOwn
import HandS.TryOnly
import HandS.WordsExc
import HandS.ExcInit
import HandS.ExcField
import HandS.ExcIs
import KE.KExcIs
import HandS.OwnEq
import HandS.More
import KE.GoesMore
import KE.GoesEnum
import PySem.Challenge.RW_whosetomorrow_k05_whole_tongues_and_situ
set_option Elab.async false
set_option linter.all false
set_option maxRecDepth 100000
/-! Rf: Python's values as plain data; frozen and owned objects; readings by denotations -/
namespace Rf
open PySem L2

/-- a value as plain data -/
inductive D where
  | non | bl (b : Bool) | int (i : Int) | str (x : Str) | tup (ds : List D) | lst (ds : List D) | scr (ds : List D)
  | ins (c : Nat) (fs : List (Str × D)) | dic (ks : List (Key × D))
/-- what an owned object holds -/
inductive M where
  | lst (ds : List D) | ins (c : Nat) (fs : List (Str × D)) | dic (ks : List (Key × D))
def M.toD : M → D
  | .lst ds => .lst ds
  | .ins c fs => .ins c fs
  | .dic ks => .dic ks
inductive DV where
  | sh (d : D) | ow (m : M)
abbrev ENV := List (Option DV)
structure EX where
  c : Nat
  fs : List (Str × D)
inductive R (α : Type) where
  | ok (a : α) (ρ : ENV) | exc (e : EX) (ρ : ENV) | bot
def R.bind {α β : Type} (r : R α) (f : α → ENV → R β) : R β := match r with
  | .ok a ρ => f a ρ
  | .exc e ρ => .exc e ρ
  | .bot => .bot
def R.of {α : Type} (o : Option α) (ρ : ENV) : R α := match o with
  | some a => .ok a ρ
  | none => .bot

mutual
inductive Rp (K : PySem.W.Frag) (C : Nat → Addr) (G : Hp) : V → D → Prop
  | non : Rp K C G .non .non
  | bl (b : Bool) : Rp K C G (.bl b) (.bl b)
  | int (i : Int) : Rp K C G (.int i) (.int i)
  | str (x : Str) (h : x.length ≤ sizeLine) : Rp K C G (.str x) (.str x)
  | tup {a : Addr} {xs : List V} {ds : List D} (h : SqT K G a xs) (r : RpL K C G xs ds) : Rp K C G (.ref a) (.tup ds)
  | lst {a : Addr} {xs : List V} {ds : List D} (h : G a = some (.lst xs)) (r : RpL K C G xs ds) : Rp K C G (.ref a) (.lst ds)
  | scr {a : Addr} {xs : List V} {ds : List D} (h : SqL K G a xs) (r : RpL K C G xs ds) : Rp K C G (.ref a) (.scr ds)
  | ins {a dx : Addr} {c : Nat} {fl : List (Str × V)} {fs : List (Str × D)} (h : G a = some (.ins (C c) dx fl)) (r : RpF K C G fl fs) : Rp K C G (.ref a) (.ins c fs)
  | dic {a : Addr} {kv : List (Key × V)} {ks : List (Key × D)} (h : G a = some (.dK kv)) (r : RpK K C G kv ks) : Rp K C G (.ref a) (.dic ks)
inductive RpL (K : PySem.W.Frag) (C : Nat → Addr) (G : Hp) : List V → List D → Prop
  | nil : RpL K C G [] []
  | cons {v : V} {d : D} {vs : List V} {ds : List D} (h : Rp K C G v d) (r : RpL K C G vs ds) : RpL K C G (v :: vs) (d :: ds)
inductive RpF (K : PySem.W.Frag) (C : Nat → Addr) (G : Hp) : List (Str × V) → List (Str × D) → Prop
  | nil : RpF K C G [] []
  | cons {n : Str} {v : V} {d : D} {vs : List (Str × V)} {ds : List (Str × D)} (h : Rp K C G v d) (r : RpF K C G vs ds) : RpF K C G ((n, v) :: vs) ((n, d) :: ds)
inductive RpK (K : PySem.W.Frag) (C : Nat → Addr) (G : Hp) : List (Key × V) → List (Key × D) → Prop
  | nil : RpK K C G [] []
  | cons {n : Key} {v : V} {d : D} {vs : List (Key × V)} {ds : List (Key × D)} (h : Rp K C G v d) (r : RpK K C G vs ds) : RpK K C G ((n, v) :: vs) ((n, d) :: ds)
end

theorem same_seqT {K : PySem.W.Frag} {H H' : Hp} {a : Addr} {xs : List V} (e : Same H H') (h : SqT K H a xs) : SqT K H' a xs := by
  rcases h with (h | ⟨o, h⟩) | h
  · exact .inl (.inl (e _ _ h))
  · exact .inl (.inr ⟨o, e _ _ h⟩)
  · exact .inr h

mutual
theorem Rp.mono {K : PySem.W.Frag} {C : Nat → Addr} {G G' : Hp} (s : Same G G') {v : V} {d : D} : Rp K C G v d → Rp K C G' v d
  | .non => .non
  | .bl b => .bl b
  | .int i => .int i
  | .str x h => .str x h
  | .tup h r => .tup (same_seqT s h) (r.mono s)
  | .lst h r => .lst (s _ _ h) (r.mono s)
  | .scr h r => .scr (Same.seq s h) (r.mono s)
  | .ins h r => .ins (s _ _ h) (r.mono s)
  | .dic h r => .dic (s _ _ h) (r.mono s)
theorem RpL.mono {K : PySem.W.Frag} {C : Nat → Addr} {G G' : Hp} (s : Same G G') {v : List V} {d : List D} : RpL K C G v d → RpL K C G' v d
  | .nil => .nil
  | .cons h r => .cons (h.mono s) (r.mono s)
theorem RpF.mono {K : PySem.W.Frag} {C : Nat → Addr} {G G' : Hp} (s : Same G G') {v : List (Str × V)} {d : List (Str × D)} : RpF K C G v d → RpF K C G' v d
  | .nil => .nil
  | .cons h r => .cons (h.mono s) (r.mono s)
theorem RpK.mono {K : PySem.W.Frag} {C : Nat → Addr} {G G' : Hp} (s : Same G G') {v : List (Key × V)} {d : List (Key × D)} : RpK K C G v d → RpK K C G' v d
  | .nil => .nil
  | .cons h r => .cons (h.mono s) (r.mono s)
end

theorem RpL.length {K : PySem.W.Frag} {C : Nat → Addr} {G : Hp} : ∀ {v : List V} {d : List D}, RpL K C G v d → v.length = d.length
  | _, _, .nil => rfl
  | _, _, .cons _ r => congrArg (· + 1) r.length
theorem RpL.append {K : PySem.W.Frag} {C : Nat → Addr} {G : Hp} : ∀ {v w : List V} {d e : List D}, RpL K C G v d → RpL K C G w e → RpL K C G (v ++ w) (d ++ e)
  | _, _, _, _, .nil, s => s
  | _, _, _, _, .cons h r, s => .cons h (r.append s)
theorem RpL.get {K : PySem.W.Frag} {C : Nat → Addr} {G : Hp} : ∀ {v : List V} {d : List D} {i : Nat} {x : D}, RpL K C G v d → d[i]? = some x → ∃ y, v[i]? = some y ∧ Rp K C G y x
  | _, _, i, _, .nil, e => by simp at e
  | _, _, 0, _, .cons h _, e => by simp at e; subst e; exact ⟨_, rfl, h⟩
  | _, _, i + 1, x, .cons _ r, e => by
    obtain ⟨u, h1, h2⟩ := RpL.get (i := i) (x := x) r (by simpa using e)
    exact ⟨u, by simpa using h1, h2⟩
theorem RpL.getV {K : PySem.W.Frag} {C : Nat → Addr} {G : Hp} : ∀ {v : List V} {d : List D} {i : Nat} {y : V}, RpL K C G v d → v[i]? = some y → ∃ x, d[i]? = some x ∧ Rp K C G y x
  | _, _, i, _, .nil, e => by simp at e
  | _, _, 0, _, .cons h _, e => by simp at e; subst e; exact ⟨_, rfl, h⟩
  | _, _, i + 1, y, .cons _ r, e => by
    obtain ⟨u, h1, h2⟩ := RpL.getV (i := i) (y := y) r (by simpa using e)
    exact ⟨u, by simpa using h1, h2⟩
theorem RpL.set {K : PySem.W.Frag} {C : Nat → Addr} {G : Hp} {x : V} {y : D} (q : Rp K C G x y) : ∀ {v : List V} {d : List D} (i : Nat), RpL K C G v d → RpL K C G (v.set i x) (d.set i y)
  | _, _, _, .nil => .nil
  | _, _, 0, .cons _ r => .cons q r
  | _, _, i + 1, .cons h r => .cons h (RpL.set q i r)
theorem RpL.take {K : PySem.W.Frag} {C : Nat → Addr} {G : Hp} : ∀ {v : List V} {d : List D} (n : Nat), RpL K C G v d → RpL K C G (v.take n) (d.take n)
  | _, _, 0, _ => by simp; exact .nil
  | _, _, _ + 1, .nil => .nil
  | _, _, n + 1, .cons h r => .cons h (RpL.take n r)
theorem RpL.drop {K : PySem.W.Frag} {C : Nat → Addr} {G : Hp} : ∀ {v : List V} {d : List D} (n : Nat), RpL K C G v d → RpL K C G (v.drop n) (d.drop n)
  | _, _, 0, r => r
  | _, _, _ + 1, .nil => .nil
  | _, _, n + 1, .cons _ r => RpL.drop n r

/-- what a frozen or owned object of that content is -/
def HoldsM (K : PySem.W.Frag) (C : Nat → Addr) (G : Hp) (o : HO) : M → Prop
  | .lst ds => ∃ xs, o = .lst xs ∧ RpL K C G xs ds
  | .ins c fs => ∃ dx fl, o = .ins (C c) dx fl ∧ RpF K C G fl fs
  | .dic ks => ∃ kv, o = .dK kv ∧ RpK K C G kv ks
theorem HoldsM.mono {K : PySem.W.Frag} {C : Nat → Addr} {G G' : Hp} (s : Same G G') {o : HO} {m : M} (h : HoldsM K C G o m) : HoldsM K C G' o m := by
  cases m with
  | lst ds => obtain ⟨xs, e, r⟩ := h; exact ⟨xs, e, r.mono s⟩
  | ins c fs => obtain ⟨dx, fl, e, r⟩ := h; exact ⟨dx, fl, e, r.mono s⟩
  | dic ks => obtain ⟨kv, e, r⟩ := h; exact ⟨kv, e, r.mono s⟩
/-- the owned object at p -/
structure Own (K : PySem.W.Frag) (C : Nat → Addr) (B G H : Hp) (p : Addr) (m : M) : Prop where
  nb : B p = none
  ng : G p = none
  at_ : ∃ o, H p = some o ∧ HoldsM K C G o m
/-- the def's own data: the classes' places, what is wished of an exception, the protected slots and their places -/
structure Cc where
  C : Nat → Addr
  W : WX
  pr : List Nat
  ad : Nat → Addr
  kb : Hp
structure Rl (K : PySem.W.Frag) (cc : Cc) (B : Hp) (ρ : ENV) (σ : St) (G H : Hp) : Prop where
  bk : Same B H
  gk : Same G H
  ln : σ.length = ρ.length
  sh : ∀ (i : Nat) (d : D), ρ[i]? = some (some (.sh d)) → ∃ v, σ[i]? = some (some v) ∧ Rp K cc.C G v d
  ow : ∀ (i : Nat) (m : M), ρ[i]? = some (some (.ow m)) → ∃ p, σ[i]? = some (some (.ref p)) ∧ Own K cc.C B G H p m
  df : ∀ (i j : Nat) (m m' : M) (p : Addr), ρ[i]? = some (some (.ow m)) → ρ[j]? = some (some (.ow m')) → σ[i]? = some (some (.ref p)) → σ[j]? = some (some (.ref p)) → i = j
  pa : ∀ (i : Nat), i ∈ cc.pr → σ[i]? = some (some (.ref (cc.ad i)))
  kg : Same cc.kb G
/-- what is frozen grows, outside B -/
structure Ext (B G G' : Hp) : Prop where
  gg : Same G G'
  nb : ∀ a o, G' a = some o → G a = some o ∨ B a = none
theorem Ext.refl (B G : Hp) : Ext B G G := ⟨Same.refl G, fun _ _ h => .inl h⟩
theorem Ext.trans {B G G1 G2 : Hp} (a : Ext B G G1) (b : Ext B G1 G2) : Ext B G G2 := ⟨a.gg.trans b.gg, fun c o h => by
  rcases b.nb c o h with h | h
  · exact a.nb c o h
  · exact .inr h⟩
/-- new objects alone, frozen or not -/
structure Grow (G H G' H' : Hp) : Prop where
  gg : Same G G'
  hh : Same H H'
  gh : Same G' H'
  nw : ∀ a o, G' a = some o → G a = some o ∨ H a = none
theorem Grow.refl {G H : Hp} (s : Same G H) : Grow G H G H := ⟨Same.refl G, Same.refl H, s, fun _ _ h => .inl h⟩
theorem Grow.trans {G H G1 H1 G2 H2 : Hp} (a : Grow G H G1 H1) (b : Grow G1 H1 G2 H2) : Grow G H G2 H2 := ⟨a.gg.trans b.gg, a.hh.trans b.hh, b.gh, fun c o h => by
  rcases b.nw c o h with h | h
  · exact a.nw c o h
  · exact .inr (a.hh.free h)⟩
theorem same_upd {H : Hp} {p : Addr} {o : HO} (h : H p = none) : Same H (upd H p o) := fun b u e => by rw [upd_ne (ne_of_none e h)]; exact e
theorem same_upd2 {G H : Hp} {p : Addr} {o : HO} (s : Same G H) : Same (upd G p o) (upd H p o) := fun b u e => by
  by_cases q : b = p
  · subst q; rw [upd_same] at e ⊢; exact e
  · rw [upd_ne q] at e ⊢; exact s _ _ e
/-- a new object that is frozen at once -/
theorem Grow.new {G H : Hp} {p : Addr} {o : HO} (s : Same G H) (h : H p = none) : Grow G H (upd G p o) (upd H p o) :=
  ⟨same_upd (s.free h), same_upd h, same_upd2 s, fun a u e => by
    by_cases q : a = p
    · subst q; exact .inr h
    · rw [upd_ne q] at e; exact .inl e⟩
/-- a new object that is not frozen -/
theorem Grow.newO {G H : Hp} {p : Addr} {o : HO} (s : Same G H) (h : H p = none) : Grow G H G (upd H p o) :=
  ⟨Same.refl G, same_upd h, s.trans (same_upd h), fun a u e => .inl e⟩
section
variable {K : PySem.W.Frag} {cc : Cc} {B : Hp} {ρ : ENV} {σ : St} {G H G' H' : Hp}
theorem Own.grow {p : Addr} {m : M} (o : Own K cc.C B G H p m) (g : Grow G H G' H') : Own K cc.C B G' H' p m := by
  obtain ⟨x, hx, hm⟩ := o.at_
  refine ⟨o.nb, ?_, x, g.hh _ _ hx, hm.mono g.gg⟩
  cases q : G' p with
  | none => rfl
  | some u =>
    rcases g.nw p u q with h | h
    · rw [o.ng] at h; cases h
    · rw [hx] at h; cases h
theorem Rl.grow (r : Rl K cc B ρ σ G H) (g : Grow G H G' H') : Rl K cc B ρ σ G' H' where
  bk := r.bk.trans g.hh
  gk := g.gh
  ln := r.ln
  sh := fun i d e => let ⟨v, h, p⟩ := r.sh i d e; ⟨v, h, p.mono g.gg⟩
  ow := fun i m e => let ⟨p, h, o⟩ := r.ow i m e; ⟨p, h, o.grow g⟩
  df := r.df
  pa := r.pa
  kg := r.kg.trans g.gg
theorem Grow.ext (g : Grow G H G' H') (bk : Same B H) : Ext B G G' := ⟨g.gg, fun a o e => by
  rcases g.nw a o e with h | h
  · exact .inl h
  · exact .inr (bk.free h)⟩
end

/-- an exception -/
def ERp (K : PySem.W.Frag) (C : Nat → Addr) (G : Hp) (e : EX) (cl : Value) (dd : Option Addr) : Prop :=
  cl = .ref (C e.c) ∧ ((e.fs = [] ∧ dd = none) ∨ ∃ dx fl, dd = some dx ∧ G dx = some (.xd fl) ∧ RpF K C G fl e.fs)

/-- behind an expression -/
def Post {α β : Type} (K : PySem.W.Frag) (cc : Cc) (Vr : Hp → β → α → Prop) (B G : Hp) (σ : St) (Q : β → Hp → Prop) (r : R α) : Prop := match r with
  | .ok d ρ' => ∀ v G' H', Ext B G G' → Rl K cc B ρ' σ G' H' → Vr G' v d → Q v H'
  | .exc e ρ' => ∀ cl dd G' H', Ext B G G' → Rl K cc B ρ' σ G' H' → ERp K cc.C G' e cl dd → cc.W cl dd σ H'
  | .bot => False
theorem Post.bind {α β γ δ : Type} {K : PySem.W.Frag} {cc : Cc} {V1 : Hp → β → α → Prop} {V2 : Hp → δ → γ → Prop} {B G : Hp} {σ : St} {Q : δ → Hp → Prop} {Q' : β → Hp → Prop} {r : R α} {f : α → ENV → R γ}
    (h : Post K cc V2 B G σ Q (r.bind f))
    (k : ∀ d ρ1 G1 H1 x, Ext B G G1 → Rl K cc B ρ1 σ G1 H1 → V1 G1 x d → Post K cc V2 B G1 σ Q (f d ρ1) → Q' x H1) : Post K cc V1 B G σ Q' r := by
  cases r with
  | ok d ρ1 =>
    intro v G1 H1 e1 R1 p1
    refine k d ρ1 G1 H1 v e1 R1 p1 ?_
    have h : Post K cc V2 B G σ Q (f d ρ1) := h
    revert h
    cases f d ρ1 with
    | ok c ρ2 => exact fun h v G' H' e R' p => h v G' H' (e1.trans e) R' p
    | exc c ρ2 => exact fun h cl dd G' H' e R' p => h cl dd G' H' (e1.trans e) R' p
    | bot => exact id
  | exc e ρ1 => exact h
  | bot => exact h
theorem Post.mono {α β : Type} {K : PySem.W.Frag} {cc : Cc} {V1 : Hp → β → α → Prop} {B G : Hp} {σ : St} {Q Q' : β → Hp → Prop} {r : R α}
    (h : Post K cc V1 B G σ Q r) (k : ∀ v H, Q v H → Q' v H) : Post K cc V1 B G σ Q' r := by
  cases r with
  | ok d ρ1 => exact fun v G1 H1 e1 R1 p1 => k _ _ (h v G1 H1 e1 R1 p1)
  | exc e ρ1 => exact h
  | bot => exact h
/-- the end: the value is there -/
theorem Post.fin {α β : Type} {K : PySem.W.Frag} {cc : Cc} {V1 : Hp → β → α → Prop} {B G : Hp} {σ : St} {Q : β → Hp → Prop} {d : α} {ρ1 : ENV} {G1 H1 G2 H2 : Hp} {v : β}
    (h : Post K cc V1 B G σ Q (.ok d ρ1)) (R1 : Rl K cc B ρ1 σ G1 H1) (e : Ext B G G1) (g : Grow G1 H1 G2 H2) (p : V1 G2 v d) : Q v H2 :=
  h v G2 H2 (e.trans (g.ext R1.bk)) (R1.grow g) p

def rE (K : PySem.W.Frag) (cc : Cc) (den : ENV → R D) : TE := fun σ H Q => ∃ B ρ G, Rl K cc B ρ σ G H ∧ Post K cc (Rp K cc.C) B G σ Q (den ρ)
def rT (K : PySem.W.Frag) (cc : Cc) (den : ENV → R Bool) : TT := fun σ H Q => ∃ B ρ G, Rl K cc B ρ σ G H ∧ Post K cc (fun _ b c => b = c) B G σ Q (den ρ)
def rA (K : PySem.W.Frag) (cc : Cc) (den : ENV → R (List D)) : TA := fun σ H Q => ∃ B ρ G, Rl K cc B ρ σ G H ∧ Post K cc (RpL K cc.C) B G σ Q (den ρ)
theorem PE.imp {X : Cx} {e : Expr} {t t' : TE} (h : PE X e t) (k : ∀ σ H Q, t' σ H Q → t σ H Q) : PE X e t' := ⟨fun pins s σ H Q I q => h.run pins s σ H Q I (k _ _ _ q)⟩
theorem PT.imp {X : Cx} {e : Expr} {t t' : TT} (h : PT X e t) (k : ∀ σ H Q, t' σ H Q → t σ H Q) : PT X e t' := ⟨fun pins s σ H Q I q => h.run pins s σ H Q I (k _ _ _ q)⟩
theorem PW.imp {X : Cx} {e : Expr} {t t' : TT} (h : PW X e t) (k : ∀ σ H Q, t' σ H Q → t σ H Q) : PW X e t' := ⟨fun wh pins s σ H Q I q => h.run wh pins s σ H Q I (k _ _ _ q)⟩
theorem PA.imp {X : Cx} {e : List Expr} {t t' : TA} (h : PA X e t) (k : ∀ σ H Q, t' σ H Q → t σ H Q) : PA X e t' := ⟨fun pos pins s σ H Q I q => h.run pos pins s σ H Q I (k _ _ _ q)⟩
theorem PS.imp {X : Cx} {e : Stmt} {t t' : TS} (h : PS X e t) (k : ∀ Dn σ H, t' Dn σ H → t Dn σ H) : PS X e t' := ⟨fun pins s σ H Dn I q => h.run pins s σ H Dn I (k _ _ _ q)⟩
theorem PSs.imp {X : Cx} {e : List Stmt} {t t' : TS} (h : PSs X e t) (k : ∀ Dn σ H, t' Dn σ H → t Dn σ H) : PSs X e t' := ⟨fun pins s σ H Dn I q => h.run pins s σ H Dn I (k _ _ _ q)⟩
def DE (X : Cx) (cc : Cc) (e : Expr) (den : ENV → R D) : Prop := PE X e (rE X.K cc den)
def DT (X : Cx) (cc : Cc) (e : Expr) (den : ENV → R Bool) : Prop := PT X e (rT X.K cc den)
def DW (X : Cx) (cc : Cc) (e : Expr) (den : ENV → R Bool) : Prop := PW X e (rT X.K cc den)
def DA (X : Cx) (cc : Cc) (e : List Expr) (den : ENV → R (List D)) : Prop := PA X e (rA X.K cc den)
end Rf
set_option Elab.async false
set_option linter.all false
set_option maxRecDepth 100000
/-! Rf: expressions -/
namespace Rf
open PySem L2
/-! ### names, constants -/
def dVar (i : Nat) : ENV → R D := fun ρ => match ρ[i]? with
  | some (some (.sh d)) => .ok d ρ
  | some (some (.ow m)) => .ok m.toD (ρ.set i (some (.sh m.toD)))
  | _ => .bot
def dC (d : D) : ENV → R D := fun ρ => .ok d ρ
theorem HoldsM.rp {K : PySem.W.Frag} {C : Nat → Addr} {G : Hp} {p : Addr} {o : HO} {m : M} (e : G p = some o) (h : HoldsM K C G o m) : Rp K C G (.ref p) m.toD := by
  cases m with
  | lst ds => obtain ⟨xs, rfl, r⟩ := h; exact .lst e r
  | ins c fs => obtain ⟨dx, fl, rfl, r⟩ := h; exact .ins e r
  | dic ks => obtain ⟨kv, rfl, r⟩ := h; exact .dic e r
/-- an owned slot is frozen -/
theorem Rl.freeze {K : PySem.W.Frag} {cc : Cc} {B : Hp} {ρ : ENV} {σ : St} {G H : Hp} {i : Nat} {m : M} (r : Rl K cc B ρ σ G H) (e : ρ[i]? = some (some (.ow m))) :
    ∃ p G', σ[i]? = some (some (.ref p)) ∧ Ext B G G' ∧ Rl K cc B (ρ.set i (some (.sh m.toD))) σ G' H ∧ Rp K cc.C G' (.ref p) m.toD := by
  obtain ⟨p, hp, o⟩ := r.ow i m e
  obtain ⟨x, hx, hm⟩ := o.at_
  have sG : Same G (upd G p x) := same_upd o.ng
  have rp : Rp K cc.C (upd G p x) (.ref p) m.toD := HoldsM.rp upd_same (hm.mono sG)
  have il : i < ρ.length := (List.getElem?_eq_some_iff.mp e).1
  refine ⟨p, upd G p x, hp, ⟨sG, fun a u q => ?_⟩, ⟨r.bk, fun b u q => ?_, by rw [List.length_set]; exact r.ln, fun j d q => ?_, fun j m' q => ?_, fun j k m1 m2 p' q1 q2 => ?_, r.pa, r.kg.trans sG⟩, rp⟩
  · by_cases h : a = p
    · subst h; exact .inr o.nb
    · rw [upd_ne h] at q; exact .inl q
  · by_cases h : b = p
    · subst h; rw [upd_same] at q; cases q; exact hx
    · rw [upd_ne h] at q; exact r.gk b u q
  · by_cases h : j = i
    · subst h
      rw [List.getElem?_set_self il] at q; cases q
      exact ⟨_, hp, rp⟩
    · rw [List.getElem?_set_ne (Ne.symm h)] at q
      obtain ⟨v, h1, h2⟩ := r.sh j d q
      exact ⟨v, h1, h2.mono sG⟩
  · by_cases h : j = i
    · subst h
      rw [List.getElem?_set_self il] at q; cases q
    · rw [List.getElem?_set_ne (Ne.symm h)] at q
      obtain ⟨p', h1, o'⟩ := r.ow j m' q
      have ne : p' ≠ p := fun z => by subst z; exact h (r.df j i m' m p' q e h1 hp)
      obtain ⟨x', hx', hm'⟩ := o'.at_
      exact ⟨p', h1, o'.nb, by rw [upd_ne ne]; exact o'.ng, x', hx', hm'.mono sG⟩
  · have g1 : ρ[j]? = some (some (.ow m1)) := by
      by_cases h : j = i
      · subst h; rw [List.getElem?_set_self il] at q1; cases q1
      · rw [List.getElem?_set_ne (Ne.symm h)] at q1; exact q1
    have g2 : ρ[k]? = some (some (.ow m2)) := by
      by_cases h : k = i
      · subst h; rw [List.getElem?_set_self il] at q2; cases q2
      · rw [List.getElem?_set_ne (Ne.symm h)] at q2; exact q2
    exact r.df j k m1 m2 p' g1 g2
section
variable {X : Cx} {cc : Cc} {a b c e : Expr} {da db dc : ENV → R D} {pos : Pos}
theorem de_var (i : Nat) {x : Str} (hN : X.N[i]? = some x := by rfl) (hv : Vis X.env.scope x := by first | exact Or.inl rfl | exact Or.inr (Or.inl rfl) | exact Or.inr (Or.inr rfl)) (hd : (x == ("__debug__" : Str)) = false := by decide)
    (hcd : (x == ("__classdict__" : Str)) = false := by decide) : DE X cc (.Name x pos) (dVar i) := by
  refine PE.imp (pe_var hN hv hd hcd) fun σ H Q h => ?_
  obtain ⟨B, ρ, G, R1, h⟩ := h
  unfold dVar at h
  split at h
  · rename_i d e
    obtain ⟨v, h1, h2⟩ := R1.sh i d e
    exact ⟨v, h1, h v G H (Ext.refl B G) R1 h2⟩
  · rename_i m e
    obtain ⟨p, G', h1, h2, h3, h4⟩ := R1.freeze e
    exact ⟨_, h1, h _ G' H h2 h3 h4⟩
  · exact h.elim
/-- a constant -/
theorem de_k {v : V} {d : D} (h : PE X e (tC v)) (hr : ∀ G, Rp X.K cc.C G v d) : DE X cc e (dC d) := PE.imp h fun σ H Q ⟨B, ρ, G, R1, h⟩ => h v G H (Ext.refl B G) R1 (hr G)
theorem de_int {i : Int} {j : Nat} : DE X cc (.Constant (.int i) j pos) (dC (.int i)) := de_k pe_int fun _ => .int i
theorem de_bl {i : Bool} {j : Nat} : DE X cc (.Constant (.bool i) j pos) (dC (.bl i)) := de_k pe_bl fun _ => .bl i
theorem de_non {j : Nat} : DE X cc (.Constant .none j pos) (dC .non) := de_k pe_non fun _ => .non
theorem de_str {x : Str} {j : Nat} (h : x.length ≤ sizeLine := by decide +kernel) : DE X cc (.Constant (.str x) j pos) (dC (.str x)) := de_k pe_str fun _ => .str x h

/-! ### operations by values -/
def dOp (f : D → D → Option D) (da db : ENV → R D) : ENV → R D := fun ρ => (da ρ).bind fun x ρ1 => (db ρ1).bind fun y ρ2 => R.of (f x y) ρ2
def dUn (f : D → Option D) (da : ENV → R D) : ENV → R D := fun ρ => (da ρ).bind fun x ρ1 => R.of (f x) ρ1
/-- the rule r does f -/
def V2 (K : PySem.W.Frag) (C : Nat → Addr) (f : D → D → Option D) (r : R2) : Prop :=
  ∀ {G H : Hp} {x y : V} {dx dy d : D} {Q : VK}, Same G H → Rp K C G x dx → Rp K C G y dy → f dx dy = some d → (∀ v G' H', Grow G H G' H' → Rp K C G' v d → Q v H') → r x y H Q
def V1 (K : PySem.W.Frag) (C : Nat → Addr) (f : D → Option D) (r : V → Hp → VK → Prop) : Prop :=
  ∀ {G H : Hp} {x : V} {dx d : D} {Q : VK}, Same G H → Rp K C G x dx → f dx = some d → (∀ v G' H', Grow G H G' H' → Rp K C G' v d → Q v H') → r x H Q
theorem V2.or {K : PySem.W.Frag} {C : Nat → Addr} {f g : D → D → Option D} {r r' : R2} (h : V2 K C f r) (h' : V2 K C g r') : V2 K C (fun x y => (f x y).orElse fun _ => g x y) (fun x y H Q => r x y H Q ∨ r' x y H Q) := by
  intro G H x y dx dy d Q s px py e k
  cases hf : f dx dy with
  | some z => simp only [hf, Option.orElse_some, Option.some.injEq] at e; subst e; exact .inl (h s px py hf k)
  | none => simp only [hf, Option.orElse_none] at e; exact .inr (h' s px py e k)
theorem V2.imp {K : PySem.W.Frag} {C : Nat → Addr} {f g : D → D → Option D} {r : R2} (h : V2 K C f r) (hg : ∀ x y d, g x y = some d → f x y = some d) : V2 K C g r :=
  fun s px py e k => h s px py (hg _ _ _ e) k
theorem op_core {r : R2} {f : D → D → Option D} (hv : V2 X.K cc.C f r) : ∀ σ H Q, rE X.K cc (dOp f da db) σ H Q → tOp r (rE X.K cc da) (rE X.K cc db) σ H Q := by
  intro σ H Q ⟨B, ρ, G, R0, h⟩
  refine ⟨B, ρ, G, R0, h.bind fun d1 ρ1 G1 H1 x e1 R1 p1 h1 => ⟨B, ρ1, G1, R1, h1.bind fun d2 ρ2 G2 H2 y e2 R2 p2 h2 => ?_⟩⟩
  cases hf : f d1 d2 with
  | none => rw [hf] at h2; exact h2.elim
  | some d =>
    rw [hf] at h2
    exact hv R2.gk (p1.mono e2.gg) p2 hf fun v G' H' g p => Post.fin h2 R2 (Ext.refl _ _) g p
theorem de_op {op : Operator} {r : R2} {f : D → D → Option D} (ho : OpR X (binaryOp op) r) (hv : V2 X.K cc.C f r) (ha : DE X cc a da) (hb : DE X cc b db) : DE X cc (.BinOp a op b pos) (dOp f da db) :=
  PE.imp (pe_op ho ha hb) (op_core hv)
theorem de_cmp {op : CmpOp} {r : R2} {f : D → D → Option D} (ho : OpR X (compareOp op) r) (hv : V2 X.K cc.C f r) (hm : behindInMarks op b = false) (ha : DE X cc a da) (hb : DE X cc b db) : DE X cc (.Compare a [op] [b] pos) (dOp f da db) :=
  PE.imp (pe_cmpR ho ha hb hm) (op_core hv)
theorem de_un {op : UnaryOp} {r : V → Hp → VK → Prop} {f : D → Option D} (ho : UnR X (unaryOp op) r) (hv : V1 X.K cc.C f r) (ha : DE X cc a da) : DE X cc (.UnaryOp op a pos) (dUn f da) := by
  refine PE.imp (pe_un ho ha) fun σ H Q ⟨B, ρ, G, R0, h⟩ => ⟨B, ρ, G, R0, h.bind fun d1 ρ1 G1 H1 x e1 R1 p1 h1 => ?_⟩
  cases hf : f d1 with
  | none => rw [hf] at h1; exact h1.elim
  | some d =>
    rw [hf] at h1
    exact hv R1.gk p1 hf fun v G' H' g p => Post.fin h1 R1 (Ext.refl _ _) g p
/-- a value that is a truth, as a test -/
def asT (r : R D) : R Bool := r.bind fun d ρ => match d with
  | .bl b => .ok b ρ
  | _ => .bot
def dT (den : ENV → R D) : ENV → R Bool := fun ρ => asT (den ρ)
theorem test_core {t : TE} {den : ENV → R D} (k : ∀ σ H Q, rE X.K cc den σ H Q → t σ H Q) : ∀ σ H Q, rT X.K cc (dT den) σ H Q → tTest t σ H Q := by
  intro σ H Q ⟨B, ρ, G, R0, h⟩
  refine k _ _ _ ⟨B, ρ, G, R0, Post.bind (V2 := fun _ b c => b = c) h fun d1 ρ1 G1 H1 x e1 R1 p1 h1 => ?_⟩
  cases p1 with
  | bl b => exact ⟨b, rfl, h1 b G1 H1 (Ext.refl _ _) R1 rfl⟩
  | _ => exact h1.elim
theorem dt_cmp {op : CmpOp} {r : R2} {f : D → D → Option D} (ho : OpR X (compareOp op) r) (hv : V2 X.K cc.C f r) (hm : behindInMarks op b = false) (ha : DE X cc a da) (hb : DE X cc b db) : DT X cc (.Compare a [op] [b] pos) (dT (dOp f da db)) :=
  PT.imp (pt_cmpR ho ha hb hm) (test_core (op_core hv))

/-! ### truth, and, or, not -/
def tru : D → Option Bool
  | .non => some false
  | .bl b => some b
  | .int i => some (i != 0)
  | .str x => some ((x.length : Int) != 0)
  | .tup ds => some (!ds.isEmpty)
  | .lst ds => some (!ds.isEmpty)
  | .scr ds => some (!ds.isEmpty)
  | .dic ks => some (!ks.isEmpty)
  | .ins _ _ => none
theorem RpL.empty {K : PySem.W.Frag} {C : Nat → Addr} {G : Hp} {v : List V} {d : List D} (r : RpL K C G v d) : v.isEmpty = d.isEmpty := by cases r <;> rfl
theorem RpK.empty {K : PySem.W.Frag} {C : Nat → Addr} {G : Hp} {v : List (Key × V)} {d : List (Key × D)} (r : RpK K C G v d) : v.isEmpty = d.isEmpty := by cases r <;> rfl
theorem tru_of {K : PySem.W.Frag} {C : Nat → Addr} {G H : Hp} {v : V} {d : D} {k : Bool} (s : Same G H) (p : Rp K C G v d) (e : tru d = some k) : TruV K v H k := by
  cases p with
  | non => cases e; rfl
  | bl b => cases e; rfl
  | int i => cases e; rfl
  | str x h => cases e; exact ⟨h, rfl⟩
  | tup h r => cases e; exact .inr (.inl ⟨_, same_seqT s h, by rw [r.empty]⟩)
  | lst h r => cases e; exact .inl ⟨_, .inl (.inl (s _ _ h)), by rw [r.empty]⟩
  | scr h r => cases e; exact .inl ⟨_, Same.seq s h, by rw [r.empty]⟩
  | ins h r => cases e
  | dic h r => cases e; exact .inr (.inr ⟨_, s _ _ h, by rw [r.empty]⟩)
def dTru (den : ENV → R D) : ENV → R Bool := fun ρ => (den ρ).bind fun d ρ1 => R.of (tru d) ρ1
theorem dt_tru (ha : DE X cc a da) (he : ∀ whole, isTrue a X.env whole = (do let v ← whole; standAt a.pos; holding [v] (truthy v)) := by intro _; rfl) : DT X cc a (dTru da) := by
  refine PT.imp (pt_truth ha he) fun σ H Q ⟨B, ρ, G, R0, h⟩ => ⟨B, ρ, G, R0, Post.bind (V2 := fun _ b c => b = c) h fun d1 ρ1 G1 H1 x e1 R1 p1 h1 => ?_⟩
  cases hf : tru d1 with
  | none => rw [hf] at h1; exact h1.elim
  | some k =>
    rw [hf] at h1
    exact ⟨k, tru_of R1.gk p1 hf, h1 k G1 H1 (Ext.refl _ _) R1 rfl⟩
def dAnd (da db : ENV → R Bool) : ENV → R Bool := fun ρ => (da ρ).bind fun x ρ1 => if x = true then db ρ1 else .ok false ρ1
def dOr (da db : ENV → R Bool) : ENV → R Bool := fun ρ => (da ρ).bind fun x ρ1 => if x = true then .ok true ρ1 else db ρ1
def dNot (da : ENV → R Bool) : ENV → R Bool := fun ρ => (da ρ).bind fun x ρ1 => .ok (!x) ρ1
variable {ta tb : ENV → R Bool} {rest : List Expr}
theorem dw_and1 (ha : DT X cc a ta) : DW X cc (.BoolOp .And [a] pos) ta := pw_and1 ha
theorem dw_or1 (ha : DT X cc a ta) : DW X cc (.BoolOp .Or [a] pos) ta := pw_or1 ha
theorem dw_and (ha : DT X cc a ta) (hb : DW X cc (.BoolOp .And (b :: rest) pos) tb) : DW X cc (.BoolOp .And (a :: b :: rest) pos) (dAnd ta tb) := by
  refine PW.imp (pw_and ha hb) fun σ H Q ⟨B, ρ, G, R0, h⟩ => ⟨B, ρ, G, R0, Post.bind (V2 := fun _ b c => b = c) h fun d1 ρ1 G1 H1 x e1 R1 p1 h1 => ?_⟩
  subst p1
  cases x with
  | true => exact iteT ⟨B, ρ1, G1, R1, h1⟩
  | false => exact iteF (h1 false G1 H1 (Ext.refl _ _) R1 rfl)
theorem dw_or (ha : DT X cc a ta) (hb : DW X cc (.BoolOp .Or (b :: rest) pos) tb) : DW X cc (.BoolOp .Or (a :: b :: rest) pos) (dOr ta tb) := by
  refine PW.imp (pw_or ha hb) fun σ H Q ⟨B, ρ, G, R0, h⟩ => ⟨B, ρ, G, R0, Post.bind (V2 := fun _ b c => b = c) h fun d1 ρ1 G1 H1 x e1 R1 p1 h1 => ?_⟩
  subst p1
  cases x with
  | true => exact iteT (h1 true G1 H1 (Ext.refl _ _) R1 rfl)
  | false => exact iteF ⟨B, ρ1, G1, R1, h1⟩
theorem dt_w (h : DW X cc a ta) : DT X cc a ta := PW.pt h
theorem dt_not (ha : DT X cc a ta) : DT X cc (.UnaryOp .Not a pos) (dNot ta) := by
  refine PT.imp (pt_not ha) fun σ H Q ⟨B, ρ, G, R0, h⟩ => ⟨B, ρ, G, R0, Post.bind (V2 := fun _ b c => b = c) h fun d1 ρ1 G1 H1 x e1 R1 p1 h1 => ?_⟩
  subst p1
  exact h1 (!x) G1 H1 (Ext.refl _ _) R1 rfl
/-- .. as values -/
def dAndV (da db : ENV → R D) : ENV → R D := fun ρ => (da ρ).bind fun x ρ1 => match tru x with
  | some true => db ρ1
  | some false => .ok x ρ1
  | none => .bot
def dOrV (da db : ENV → R D) : ENV → R D := fun ρ => (da ρ).bind fun x ρ1 => match tru x with
  | some true => .ok x ρ1
  | some false => db ρ1
  | none => .bot
def dNotV (da : ENV → R D) : ENV → R D := fun ρ => (da ρ).bind fun x ρ1 => R.of ((tru x).map fun k => .bl (!k)) ρ1
theorem de_one {op : BoolOp} (h : DE X cc a da) : DE X cc (.BoolOp op [a] pos) da := pe_one h
theorem de_and (ha : DE X cc a da) (hb : DE X cc (.BoolOp .And (b :: rest) pos) db) : DE X cc (.BoolOp .And (a :: b :: rest) pos) (dAndV da db) := by
  refine PE.imp (pe_andT ha hb) fun σ H Q ⟨B, ρ, G, R0, h⟩ => ⟨B, ρ, G, R0, h.bind fun d1 ρ1 G1 H1 x e1 R1 p1 h1 => ?_⟩
  cases hf : tru d1 with
  | none => simp only [hf] at h1; exact h1.elim
  | some k =>
    simp only [hf] at h1
    refine ⟨k, tru_of R1.gk p1 hf, ?_⟩
    cases k with
    | true => exact iteT ⟨B, ρ1, G1, R1, h1⟩
    | false => exact iteF (h1 x G1 H1 (Ext.refl _ _) R1 p1)
theorem de_or (ha : DE X cc a da) (hb : DE X cc (.BoolOp .Or (b :: rest) pos) db) : DE X cc (.BoolOp .Or (a :: b :: rest) pos) (dOrV da db) := by
  refine PE.imp (pe_orT ha hb) fun σ H Q ⟨B, ρ, G, R0, h⟩ => ⟨B, ρ, G, R0, h.bind fun d1 ρ1 G1 H1 x e1 R1 p1 h1 => ?_⟩
  cases hf : tru d1 with
  | none => simp only [hf] at h1; exact h1.elim
  | some k =>
    simp only [hf] at h1
    refine ⟨k, tru_of R1.gk p1 hf, ?_⟩
    cases k with
    | true => exact iteT (h1 x G1 H1 (Ext.refl _ _) R1 p1)
    | false => exact iteF ⟨B, ρ1, G1, R1, h1⟩
theorem de_not (ha : DE X cc a da) : DE X cc (.UnaryOp .Not a pos) (dNotV da) := by
  refine PE.imp (pe_notT ha) fun σ H Q ⟨B, ρ, G, R0, h⟩ => ⟨B, ρ, G, R0, h.bind fun d1 ρ1 G1 H1 x e1 R1 p1 h1 => ?_⟩
  cases hf : tru d1 with
  | none => simp only [hf, Option.map_none] at h1; exact h1.elim
  | some k =>
    simp only [hf, Option.map_some] at h1
    exact ⟨k, tru_of R1.gk p1 hf, h1 (.bl (!k)) G1 H1 (Ext.refl _ _) R1 (.bl _)⟩
def dIf (t : ENV → R Bool) (da db : ENV → R D) : ENV → R D := fun ρ => (t ρ).bind fun x ρ1 => if x = true then da ρ1 else db ρ1
theorem de_if (hc : DT X cc c ta) (ha : DE X cc a da) (hb : DE X cc b db) : DE X cc (.IfExp c a b pos) (dIf ta da db) := by
  refine PE.imp (pe_ifExp hc ha hb) fun σ H Q ⟨B, ρ, G, R0, h⟩ => ⟨B, ρ, G, R0, h.bind fun d1 ρ1 G1 H1 x e1 R1 p1 h1 => ?_⟩
  subst p1
  cases x with
  | true => exact iteT ⟨B, ρ1, G1, R1, h1⟩
  | false => exact iteF ⟨B, ρ1, G1, R1, h1⟩

/-! ### displays -/
def dNil : ENV → R (List D) := fun ρ => .ok [] ρ
def dCons (da : ENV → R D) (dr : ENV → R (List D)) : ENV → R (List D) := fun ρ => (da ρ).bind fun x ρ1 => (dr ρ1).bind fun xs ρ2 => .ok (x :: xs) ρ2
variable {dr : ENV → R (List D)} {es : List Expr}
theorem da_nil : DA X cc [] dNil := PA.imp pa_nil fun σ H Q ⟨B, ρ, G, R0, h⟩ => h [] G H (Ext.refl _ _) R0 .nil
theorem da_cons (ha : DE X cc e da) (hr : DA X cc es dr) (hs : starEach (e :: es) X.env = (false, eval e X.env) :: starEach es X.env := by rfl) : DA X cc (e :: es) (dCons da dr) := by
  refine PA.imp (pa_cons ha hr hs) fun σ H Q ⟨B, ρ, G, R0, h⟩ => ⟨B, ρ, G, R0, h.bind fun d1 ρ1 G1 H1 x e1 R1 p1 h1 => ⟨B, ρ1, G1, R1, h1.bind fun d2 ρ2 G2 H2 y e2 R2 p2 h2 => ?_⟩⟩
  exact h2 (x :: y) G2 H2 (Ext.refl _ _) R2 (.cons (p1.mono e2.gg) p2)
def dTup (dr : ENV → R (List D)) : ENV → R D := fun ρ => (dr ρ).bind fun xs ρ1 => if xs.length ≤ sizeLine then .ok (.tup xs) ρ1 else .bot
def dLst (dr : ENV → R (List D)) : ENV → R D := fun ρ => (dr ρ).bind fun xs ρ1 => if xs.length ≤ sizeLine then .ok (.lst xs) ρ1 else .bot
theorem ite_post {α β : Type} {K : PySem.W.Frag} {Vr : Hp → β → α → Prop} {B G : Hp} {σ : St} {Q : β → Hp → Prop} {p : Prop} [Decidable p] {r : R α} (h : Post K cc Vr B G σ Q (if p then r else .bot)) : p ∧ Post K cc Vr B G σ Q r := by
  by_cases q : p
  · rw [if_pos q] at h; exact ⟨q, h⟩
  · rw [if_neg q] at h; exact h.elim
theorem de_tuple {x1 : Nat} (h : DA X cc es dr) : DE X cc (.Tuple es x1 pos) (dTup dr) := by
  refine PE.imp (pe_tup h) fun σ H Q ⟨B, ρ, G, R0, h⟩ => ⟨B, ρ, G, R0, h.bind fun ds ρ1 G1 H1 xs e1 R1 p1 h1 => ?_⟩
  obtain ⟨hz, h1⟩ := ite_post h1
  refine ⟨by rw [p1.length]; exact hz, fun p hp => ?_⟩
  have g := Grow.new (o := .tup xs) R1.gk hp
  exact Post.fin h1 R1 (Ext.refl _ _) g (.tup (.inl (.inl upd_same)) (p1.mono g.gg))
theorem de_list (h : DA X cc es dr) : DE X cc (.List es pos) (dLst dr) := by
  refine PE.imp (pe_lst h) fun σ H Q ⟨B, ρ, G, R0, h⟩ => ⟨B, ρ, G, R0, h.bind fun ds ρ1 G1 H1 xs e1 R1 p1 h1 => ?_⟩
  obtain ⟨hz, h1⟩ := ite_post h1
  refine ⟨by rw [p1.length]; exact hz, fun p hp => ?_⟩
  have g := Grow.new (o := .lst xs) R1.gk hp
  exact Post.fin h1 R1 (Ext.refl _ _) g (.lst upd_same (p1.mono g.gg))
end
end Rf
set_option Elab.async false
set_option linter.all false
set_option maxRecDepth 100000
/-! Rf: operations on values -/
namespace Rf
open PySem L2
/-! ### data of the library -/
mutual
def D.toPy : D → PyData
  | .non => .none
  | .bl b => .bool b
  | .int i => .int i
  | .str x => .str x
  | .tup ds => .tuple (toPyL ds)
  | .lst ds => .list (toPyL ds)
  | .scr ds => .list (toPyL ds)
  | .ins _ _ => .dict []
  | .dic _ => .dict []
def toPyL : List D → List PyData
  | [] => []
  | d :: ds => d.toPy :: toPyL ds
end
mutual
theorem Rp.dp {K : PySem.W.Frag} {C : Nat → Addr} {G H : Hp} (s : Same G H) {v : V} {d : D} : Rp K C G v d → d.toPy.canLay0 = true → Dp K H v d.toPy
  | .non, _ => .non
  | .bl b, _ => .bl b
  | .int i, _ => .int i
  | .str x _, _ => .str x
  | .tup h r, c => .tup (same_seqT s h) (r.dp s (by simpa [D.toPy, PyData.canLay0] using c))
  | .lst h r, c => .lst (.inl (.inl (s _ _ h))) (r.dp s (by simpa [D.toPy, PyData.canLay0] using c))
  | .scr h r, c => .lst (Same.seq s h) (r.dp s (by simpa [D.toPy, PyData.canLay0] using c))
  | .ins _ _, c => by simp [D.toPy, PyData.canLay0] at c
  | .dic _ _, c => by simp [D.toPy, PyData.canLay0] at c
theorem RpL.dp {K : PySem.W.Frag} {C : Nat → Addr} {G H : Hp} (s : Same G H) {v : List V} {d : List D} : RpL K C G v d → PyData.canLayAll0 (toPyL d) = true → DpAll K H v (toPyL d)
  | .nil, _ => .nil
  | .cons h r, c => by
    have c' := Bool.and_eq_true_iff.mp (show (PyData.canLay0 _ && PyData.canLayAll0 _) = true by simpa [toPyL, PyData.canLayAll0] using c)
    exact .cons (h.dp s c'.1) (r.dp s c'.2)
end
def vEq (neg : Bool) (x y : D) : Option D := if SeqAt.shaped x.toPy = true ∧ SeqAt.shaped y.toPy = true then some (.bl (if neg then !PyData.eqv x.toPy y.toPy else PyData.eqv x.toPy y.toPy)) else none
section
variable {K : PySem.W.Frag} {C : Nat → Addr}
theorem Grow.here {G H : Hp} {Q : VK} {d : D} {v : V} (s : Same G H) (k : ∀ v G' H', Grow G H G' H' → Rp K C G' v d → Q v H') (p : Rp K C G v d) : Q v H := k v G H (Grow.refl s) p
theorem v2_eq : V2 K C (vEq false) (rEqD K) := by
  intro G H x y dx dy d Q s px py e k
  unfold vEq at e
  split at e
  · rename_i h
    cases e
    exact ⟨_, _, px.dp s (SeqAt.canLay_of_shaped h.1), py.dp s (SeqAt.canLay_of_shaped h.2), h.1, h.2, Grow.here s k (.bl _)⟩
  · cases e
theorem v2_ne : V2 K C (vEq true) (rNeD K) := by
  intro G H x y dx dy d Q s px py e k
  unfold vEq at e
  split at e
  · rename_i h
    cases e
    exact ⟨_, _, px.dp s (SeqAt.canLay_of_shaped h.1), py.dp s (SeqAt.canLay_of_shaped h.2), h.1, h.2, Grow.here s k (.bl _)⟩
  · cases e
/-- ints -/
def vI (f : Int → Int → Int) : D → D → Option D
  | .int i, .int j => some (.int (f i j))
  | _, _ => none
def vIc (c : Int → Int → Bool) (f : Int → Int → Int) : D → D → Option D
  | .int i, .int j => if c i j = true then some (.int (f i j)) else none
  | _, _ => none
def vB (f : Int → Int → Bool) : D → D → Option D
  | .int i, .int j => some (.bl (f i j))
  | _, _ => none
theorem v2_I {f : Int → Int → Int} : V2 K C (vI f) (rI0 fun i j => .int (f i j)) := by
  intro G H x y dx dy d Q s px py e k
  cases px with
  | int i =>
    cases py with
    | int j => cases e; exact ⟨i, j, rfl, rfl, Grow.here s k (.int _)⟩
    | _ => cases e
  | _ => cases e
theorem v2_Ic {c : Int → Int → Bool} {P : Int → Int → Prop} {f : Int → Int → Int} (hc : ∀ i j, c i j = true → P i j) : V2 K C (vIc c f) (rI P fun i j => .int (f i j)) := by
  intro G H x y dx dy d Q s px py e k
  cases px with
  | int i =>
    cases py with
    | int j =>
      dsimp only [vIc] at e
      split at e
      · rename_i h; cases e; exact ⟨i, j, rfl, rfl, hc i j h, Grow.here s k (.int _)⟩
      · cases e
    | _ => cases e
  | _ => cases e
theorem v2_B {f : Int → Int → Bool} : V2 K C (vB f) (rI0 fun i j => .bl (f i j)) := by
  intro G H x y dx dy d Q s px py e k
  cases px with
  | int i =>
    cases py with
    | int j => cases e; exact ⟨i, j, rfl, rfl, Grow.here s k (.bl _)⟩
    | _ => cases e
  | _ => cases e
/-- + -/
def vAddS : D → D → Option D
  | .str a, .str b => if a.length + b.length ≤ sizeLine then some (.str (a ++ b)) else none
  | _, _ => none
def vAddT : D → D → Option D
  | .tup a, .tup b => if a.length + b.length ≤ sizeLine then some (.tup (a ++ b)) else none
  | _, _ => none
def vAddL : D → D → Option D
  | .lst a, .lst b => if a.length + b.length ≤ sizeLine then some (.lst (a ++ b)) else none
  | _, _ => none
theorem v2_addS : V2 K C vAddS (fun x y H Q => ∃ i j, x = .str i ∧ y = .str j ∧ i.length + j.length ≤ sizeLine ∧ Q (.str (i ++ j)) H) := by
  intro G H x y dx dy d Q s px py e k
  cases px with
  | str i h1 =>
    cases py with
    | str j h2 =>
      dsimp only [vAddS] at e
      split at e
      · rename_i h; cases e; exact ⟨i, j, rfl, rfl, h, Grow.here s k (.str _ (by rw [Str.length_append]; exact h))⟩
      · cases e
    | _ => cases e
  | _ => cases e
theorem v2_addT : V2 K C vAddT (rCatA K) := by
  intro G H x y dx dy d Q s px py e k
  cases px with
  | @tup a xs ds h1 r1 =>
    cases py with
    | @tup b ys es h2 r2 =>
      dsimp only [vAddT] at e
      split at e
      · rename_i h
        cases e
        refine ⟨a, b, xs, ys, rfl, rfl, same_seqT s h1, same_seqT s h2, by rw [r1.length, r2.length]; exact h, fun q => ?_, fun q1 q2 => ?_, fun q1 q2 p hp => ?_⟩
        · subst q; cases r1; exact Grow.here s k (.tup h2 r2)
        · subst q2; cases r2; rw [List.append_nil] at k; exact Grow.here s k (.tup h1 r1)
        · have g := Grow.new (o := .tup (xs ++ ys)) s hp
          exact k _ _ _ g (.tup (.inl (.inl upd_same)) ((r1.mono g.gg).append (r2.mono g.gg)))
      · cases e
    | _ => cases e
  | _ => cases e
theorem v2_addL : V2 K C vAddL rCat := by
  intro G H x y dx dy d Q s px py e k
  cases px with
  | @lst a xs ds h1 r1 =>
    cases py with
    | @lst b ys es h2 r2 =>
      dsimp only [vAddL] at e
      split at e
      · rename_i h
        cases e
        refine ⟨a, b, xs, ys, rfl, rfl, s _ _ h1, s _ _ h2, by rw [r1.length, r2.length]; exact h, fun p hp => ?_⟩
        have g := Grow.new (o := .lst (xs ++ ys)) s hp
        exact k _ _ _ g (.lst upd_same ((r1.mono g.gg).append (r2.mono g.gg)))
      · cases e
    | _ => cases e
  | _ => cases e
def vAdd (x y : D) : Option D := match x with
  | .int _ => vI (fun i j => i + j) x y
  | .str _ => vAddS x y
  | .tup _ => vAddT x y
  | .lst _ => vAddL x y
  | _ => none
def rAddA (K : PySem.W.Frag) : R2 := fun x y H Q => rI0 (fun i j => V.int (i + j)) x y H Q ∨ (∃ i j, x = .str i ∧ y = .str j ∧ i.length + j.length ≤ sizeLine ∧ Q (.str (i ++ j)) H) ∨ rCatA K x y H Q ∨ rCat x y H Q
theorem v2_add : V2 K C vAdd (rAddA K) := by
  intro G H x y dx dy d Q s px py e k
  cases dx with
  | int i => exact .inl (v2_I s px py e k)
  | str i => exact .inr (.inl (v2_addS s px py e k))
  | tup i => exact .inr (.inr (.inl (v2_addT s px py e k)))
  | lst i => exact .inr (.inr (.inr (v2_addL s px py e k)))
  | _ => cases e
/-- x * k -/
def cMul (i j : Int) : Bool := decide (i.natAbs < 2 ^ 64) || decide (j.natAbs < 2 ^ 64) || decide (i.natAbs.log2 + j.natAbs.log2 < 1000000)
def cDiv (_ j : Int) : Bool := decide (0 < j) && decide (j.natAbs.log2 < 9000)
def cMod (_ j : Int) : Bool := decide (0 < j)
def cPow (i j : Int) : Bool := decide (0 ≤ j) && decide (j ≤ 1000000) && decide (i.natAbs < 2 ^ 64)
end
section
variable {X : Cx}
theorem op_addA : OpR X (binaryOp .Add) (rAddA X.K) := op_add.or (op_add_str.or (op_catA.or op_cat))
def PMul (i j : Int) : Prop := CMul i j ∨ CMulW i j
theorem op_mulA : OpR X (binaryOp .Mult) (rI PMul fun i j => .int (i * j)) := by
  intro pins s σ H x y v u Q I rx ry ⟨i, j, e1, e2, hc, q⟩
  rcases hc with h | h
  · exact op_mul pins s σ H x y v u Q I rx ry ⟨i, j, e1, e2, h, q⟩
  · exact op_mulW pins s σ H x y v u Q I rx ry ⟨i, j, e1, e2, h, q⟩
theorem cMul_ok (i j : Int) (h : cMul i j = true) : PMul i j := by
  unfold cMul at h
  simp only [Bool.or_eq_true, decide_eq_true_eq] at h
  rcases h with (h | h) | h
  · exact .inl (.inl (by omega))
  · exact .inl (.inr (by omega))
  · exact .inr h
theorem cDiv_ok (i j : Int) (h : cDiv i j = true) : CDivW i j := by
  unfold cDiv at h
  simp only [Bool.and_eq_true, decide_eq_true_eq] at h
  exact h
theorem cMod_ok (i j : Int) (h : cMod i j = true) : 0 < j := of_decide_eq_true h
theorem cPow_ok (i j : Int) (h : cPow i j = true) : CPow i j := by
  unfold cPow at h
  simp only [Bool.and_eq_true, decide_eq_true_eq] at h
  exact ⟨h.1.1, h.1.2, h.2⟩
end
section
variable {X : Cx} {cc : Cc} {a b e : Expr} {da db : ENV → R D} {pos : Pos}
abbrev dAdd := dOp vAdd
abbrev dSub := dOp (vI fun i j => i - j)
abbrev dMul := dOp (vIc cMul fun i j => i * j)
abbrev dDiv := dOp (vIc cDiv fun i j => i / j)
abbrev dMod := dOp (vIc cMod fun i j => i % j)
abbrev dPow := dOp (vIc cPow fun i j => i ^ j.toNat)
theorem de_add (ha : DE X cc a da) (hb : DE X cc b db) : DE X cc (.BinOp a .Add b pos) (dAdd da db) := de_op op_addA v2_add ha hb
theorem de_sub (ha : DE X cc a da) (hb : DE X cc b db) : DE X cc (.BinOp a .Sub b pos) (dSub da db) := de_op op_sub v2_I ha hb
theorem de_mul (ha : DE X cc a da) (hb : DE X cc b db) : DE X cc (.BinOp a .Mult b pos) (dMul da db) := de_op op_mulA (v2_Ic cMul_ok) ha hb
theorem de_div (ha : DE X cc a da) (hb : DE X cc b db) : DE X cc (.BinOp a .FloorDiv b pos) (dDiv da db) := de_op op_fdivW (v2_Ic cDiv_ok) ha hb
theorem de_mod (ha : DE X cc a da) (hb : DE X cc b db) : DE X cc (.BinOp a .Mod b pos) (dMod da db) := de_op op_mod (v2_Ic cMod_ok) ha hb
theorem de_pow (ha : DE X cc a da) (hb : DE X cc b db) : DE X cc (.BinOp a .Pow b pos) (dPow da db) := de_op op_pow (v2_Ic cPow_ok) ha hb
def vNeg : D → Option D
  | .int i => some (.int (-i))
  | _ => none
abbrev dNeg := dUn vNeg
theorem v1_neg {K : PySem.W.Frag} {C : Nat → Addr} : V1 K C vNeg (rU fun i => .int (-i)) := by
  intro G H x dx d Q s px e k
  cases px with
  | int i => cases e; exact ⟨i, rfl, Grow.here s k (.int _)⟩
  | _ => cases e
theorem de_neg (ha : DE X cc a da) : DE X cc (.UnaryOp .USub a pos) (dNeg da) := de_un un_neg v1_neg ha

/-! ### comparisons: by a kind -/
inductive CK where
  | lt | le | gt | ge | eq | ne | isN | notN | in_ | notIn | isB | notB
/-- x is True, x is False, of truths -/
def vIsB (neg : Bool) (x y : D) : Option D := match x, y with
  | .bl a, .bl b => some (.bl (if neg then !decide (a = b) else decide (a = b)))
  | _, _ => none
def vIs (neg : Bool) (x y : D) : Option D := match y with
  | .non => some (.bl (match x with | .non => !neg | _ => neg))
  | _ => none
/-- in a list, in a tuple, a text in a text -/
def vIn (neg : Bool) (x y : D) : Option D :=
  let fin (ds : List D) : Option D := if SeqAt.shaped x.toPy = true ∧ PyData.canLayAll0 (toPyL ds) = true then some (.bl (if neg then !((toPyL ds).any fun z => PyData.eqv z x.toPy) else (toPyL ds).any fun z => PyData.eqv z x.toPy)) else none
  match y with
  | .lst ds => fin ds
  | .scr ds => fin ds
  | .tup ds => fin ds
  | .str z => match x with
    | .str c => some (.bl (if neg then !(!(Builtin.Str.occurrences z c 0 z.length 1).isEmpty) else !(Builtin.Str.occurrences z c 0 z.length 1).isEmpty))
    | _ => none
  | _ => none
def rInA (K : PySem.W.Frag) (neg : Bool) : R2 := fun x y H Q => (∃ d e ds, Dp K H x d ∧ Dp K H y e ∧ (e = .list ds ∨ e = .tuple ds) ∧ SeqAt.shaped d = true ∧ PyData.canLayAll0 ds = true ∧ Q (.bl (if neg then !(ds.any fun z => PyData.eqv z d) else ds.any fun z => PyData.eqv z d)) H) ∨
  ∃ i j, x = .str i ∧ y = .str j ∧ Q (.bl (if neg then !(!(Builtin.Str.occurrences j i 0 j.length 1).isEmpty) else !(Builtin.Str.occurrences j i 0 j.length 1).isEmpty)) H
theorem op_inA (hu : X.A.units + 65 < cLine) : OpR X (compareOp .In) (rInA X.K false) := by
  intro pins s σ H x y v u Q I rx ry h
  rcases h with ⟨d, e, ds, hd, he, hk, sd, se, q⟩ | ⟨i, j, e1, e2, q⟩
  · obtain ⟨as, r1⟩ := Dp.reads I d x v hd rx
    obtain ⟨bs, r2⟩ := Dp.reads I e y u he ry
    rcases hk with rfl | rfl
    · exact SeqAt.in_list_reads r2 r1 se (SeqAt.canLay_of_shaped sd) (PyProof.Rows.room_in_shaped sd hu) ⟨.bl _, H, I, rfl, q⟩
    · exact SeqAt.in_tuple_reads r2 r1 se (SeqAt.canLay_of_shaped sd) (PyProof.Rows.room_in_shaped sd hu) ⟨.bl _, H, I, rfl, q⟩
  · exact op_in_str pins s σ H x y v u Q I rx ry ⟨i, j, e1, e2, q⟩
theorem op_notInA (hu : X.A.units + 65 < cLine) : OpR X (compareOp .NotIn) (rInA X.K true) := by
  intro pins s σ H x y v u Q I rx ry h
  rcases h with ⟨d, e, ds, hd, he, hk, sd, se, q⟩ | ⟨i, j, e1, e2, q⟩
  · obtain ⟨as, r1⟩ := Dp.reads I d x v hd rx
    obtain ⟨bs, r2⟩ := Dp.reads I e y u he ry
    rcases hk with rfl | rfl
    · exact SeqAt.notIn_list_reads r2 r1 se (SeqAt.canLay_of_shaped sd) (PyProof.Rows.room_in_shaped sd hu) ⟨.bl _, H, I, rfl, q⟩
    · exact SeqAt.notIn_tuple_reads r2 r1 se (SeqAt.canLay_of_shaped sd) (PyProof.Rows.room_in_shaped sd hu) ⟨.bl _, H, I, rfl, q⟩
  · exact L2.op_notIn_str pins s σ H x y v u Q I rx ry ⟨i, j, e1, e2, q⟩
theorem v2_in {K : PySem.W.Frag} {C : Nat → Addr} {neg : Bool} : V2 K C (vIn neg) (rInA K neg) := by
  intro G H x y dx dy d Q s px py e k
  have go : ∀ (ds : List D) (w : PyData), (w = .list (toPyL ds) ∨ w = .tuple (toPyL ds)) → (PyData.canLayAll0 (toPyL ds) = true → Dp K H y w) →
      (if SeqAt.shaped dx.toPy = true ∧ PyData.canLayAll0 (toPyL ds) = true then some (D.bl (if neg then !((toPyL ds).any fun z => PyData.eqv z dx.toPy) else (toPyL ds).any fun z => PyData.eqv z dx.toPy)) else none) = some d → rInA K neg x y H Q := by
    intro ds w hw hd e
    split at e
    · rename_i h
      cases e
      exact .inl ⟨_, w, _, px.dp s (SeqAt.canLay_of_shaped h.1), hd h.2, hw, h.1, h.2, Grow.here s k (.bl _)⟩
    · cases e
  cases py with
  | @lst a xs ds h r => exact go ds _ (.inl rfl) (fun c => .lst (.inl (.inl (s _ _ h))) (r.dp s c)) e
  | @scr a xs ds h r => exact go ds _ (.inl rfl) (fun c => .lst (Same.seq s h) (r.dp s c)) e
  | @tup a xs ds h r => exact go ds _ (.inr rfl) (fun c => .tup (same_seqT s h) (r.dp s c)) e
  | str z hz =>
    cases px with
    | str c hc => cases e; exact .inr ⟨c, z, rfl, rfl, Grow.here s k (.bl _)⟩
    | _ => cases e
  | _ => cases e
theorem v2_is {K : PySem.W.Frag} {C : Nat → Addr} : V2 K C (vIs false) (fun x y H Q => y = .non ∧ Q (.bl (decide (x = .non))) H) := by
  intro G H x y dx dy d Q s px py e k
  cases py with
  | non =>
    cases e
    refine ⟨rfl, ?_⟩
    cases px with
    | non => exact Grow.here s k (.bl _)
    | _ => exact Grow.here s k (.bl _)
  | _ => cases e
theorem v2_isNot {K : PySem.W.Frag} {C : Nat → Addr} : V2 K C (vIs true) (fun x y H Q => y = .non ∧ Q (.bl (!decide (x = .non))) H) := by
  intro G H x y dx dy d Q s px py e k
  cases py with
  | non =>
    cases e
    refine ⟨rfl, ?_⟩
    cases px with
    | non => exact Grow.here s k (.bl _)
    | _ => exact Grow.here s k (.bl _)
  | _ => cases e
theorem v2_isB {K : PySem.W.Frag} {C : Nat → Addr} : V2 K C (vIsB false) (fun x y H Q => ∃ a b, x = .bl a ∧ y = .bl b ∧ Q (.bl (decide (a = b))) H) := by
  intro G H x y dx dy d Q s px py e k
  cases px with
  | bl a =>
    cases py with
    | bl b => cases e; exact ⟨a, b, rfl, rfl, Grow.here s k (.bl _)⟩
    | _ => cases e
  | _ => cases e
theorem v2_notB {K : PySem.W.Frag} {C : Nat → Addr} : V2 K C (vIsB true) (fun x y H Q => ∃ a b, x = .bl a ∧ y = .bl b ∧ Q (.bl (!decide (a = b))) H) := by
  intro G H x y dx dy d Q s px py e k
  cases px with
  | bl a =>
    cases py with
    | bl b => cases e; exact ⟨a, b, rfl, rfl, Grow.here s k (.bl _)⟩
    | _ => cases e
  | _ => cases e
def CK.op : CK → CmpOp
  | .lt => .Lt | .le => .LtE | .gt => .Gt | .ge => .GtE | .eq => .Eq | .ne => .NotEq | .isN => .Is | .notN => .IsNot | .in_ => .In | .notIn => .NotIn | .isB => .Is | .notB => .IsNot
def CK.f : CK → D → D → Option D
  | .lt => vB fun i j => decide (i < j)
  | .le => vB fun i j => decide (i ≤ j)
  | .gt => vB fun i j => decide (j < i)
  | .ge => vB fun i j => decide (j ≤ i)
  | .eq => vEq false | .ne => vEq true | .isN => vIs false | .notN => vIs true | .in_ => vIn false | .notIn => vIn true | .isB => vIsB false | .notB => vIsB true
def CK.r (K : PySem.W.Frag) : CK → R2
  | .lt => rI0 fun i j => .bl (decide (i < j))
  | .le => rI0 fun i j => .bl (decide (i ≤ j))
  | .gt => rI0 fun i j => .bl (decide (j < i))
  | .ge => rI0 fun i j => .bl (decide (j ≤ i))
  | .eq => rEqD K | .ne => rNeD K
  | .isN => fun x y H Q => y = .non ∧ Q (.bl (decide (x = .non))) H
  | .notN => fun x y H Q => y = .non ∧ Q (.bl (!decide (x = .non))) H
  | .in_ => rInA K false | .notIn => rInA K true
  | .isB => fun x y H Q => ∃ a b, x = .bl a ∧ y = .bl b ∧ Q (.bl (decide (a = b))) H
  | .notB => fun x y H Q => ∃ a b, x = .bl a ∧ y = .bl b ∧ Q (.bl (!decide (a = b))) H
theorem CK.ok (k : CK) (hu : X.A.units + 65 < cLine) : OpR X (compareOp k.op) (k.r X.K) := by
  cases k with
  | lt => exact op_lt
  | le => exact op_le
  | gt => exact op_gt
  | ge => exact op_ge
  | eq => exact op_eqD (by omega)
  | ne => exact op_neD (by omega)
  | isN => exact op_isN
  | notN => exact op_notN
  | in_ => exact op_inA hu
  | notIn => exact op_notInA hu
  | isB => exact op_is_bl
  | notB => exact op_isnot_bl
theorem CK.v (k : CK) {K : PySem.W.Frag} {C : Nat → Addr} : V2 K C k.f (k.r K) := by
  cases k with
  | lt => exact v2_B
  | le => exact v2_B
  | gt => exact v2_B
  | ge => exact v2_B
  | eq => exact v2_eq
  | ne => exact v2_ne
  | isN => exact v2_is
  | notN => exact v2_isNot
  | in_ => exact v2_in
  | notIn => exact v2_in
  | isB => exact v2_isB
  | notB => exact v2_notB
abbrev dCmp (k : CK) := dOp k.f
theorem de_c (k : CK) (hu : X.A.units + 65 < cLine) (ha : DE X cc a da) (hb : DE X cc b db) (hm : behindInMarks k.op b = false := by rfl) : DE X cc (.Compare a [k.op] [b] pos) (dCmp k da db) := de_cmp (k.ok hu) k.v hm ha hb
theorem dt_c (k : CK) (hu : X.A.units + 65 < cLine) (ha : DE X cc a da) (hb : DE X cc b db) (hm : behindInMarks k.op b = false := by rfl) : DT X cc (.Compare a [k.op] [b] pos) (dT (dCmp k da db)) := dt_cmp (k.ok hu) k.v hm ha hb
/-- a k1 b k2 c -/
def dChain (f g : D → D → Option D) (da db dc : ENV → R D) : ENV → R D := fun ρ => (da ρ).bind fun x ρ1 => (db ρ1).bind fun y ρ2 => match f x y with
  | some (.bl true) => (dc ρ2).bind fun z ρ3 => R.of (g y z) ρ3
  | some (.bl false) => .ok (.bl false) ρ2
  | _ => .bot
variable {c : Expr} {dc : ENV → R D}
theorem chain_core {f g : D → D → Option D} {r r' : R2} (h1 : V2 X.K cc.C f r) (h2 : V2 X.K cc.C g r') : ∀ σ H Q, rE X.K cc (dChain f g da db dc) σ H Q → tChain r r' (rE X.K cc da) (rE X.K cc db) (rE X.K cc dc) σ H Q := by
  intro σ H Q ⟨B, ρ, G, R0, h⟩
  refine ⟨B, ρ, G, R0, h.bind fun d1 ρ1 G1 H1 x e1 R1 p1 q1 => ⟨B, ρ1, G1, R1, q1.bind fun d2 ρ2 G2 H2 y e2 R2 p2 q2 => ?_⟩⟩
  cases hf : f d1 d2 with
  | none => simp only [hf] at q2; exact q2.elim
  | some d =>
    cases d with
    | bl k =>
      refine h1 R2.gk (p1.mono e2.gg) p2 hf fun v G' H' gr p => ?_
      cases p
      refine ⟨k, rfl, ?_⟩
      have R3 := R2.grow gr
      cases k with
      | false =>
        simp only [hf] at q2
        exact iteF (Post.fin q2 R2 (Ext.refl _ _) gr (.bl false))
      | true =>
        simp only [hf] at q2
        refine iteT ⟨B, ρ2, G', R3, ?_⟩
        have q3 : Post X.K cc (Rp X.K cc.C) B G' σ Q ((dc ρ2).bind fun z ρ3 => R.of (g d2 z) ρ3) := by
          revert q2
          cases ((dc ρ2).bind fun z ρ3 => R.of (g d2 z) ρ3) with
          | ok a ρ => exact fun q v G' H' e R p => q v G' H' ((gr.ext R2.bk).trans e) R p
          | exc a ρ => exact fun q cl dd G' H' e R p => q cl dd G' H' ((gr.ext R2.bk).trans e) R p
          | bot => exact id
        refine q3.bind fun d3 ρ3 G3 H3 z e3 R3' p3 q3 => ?_
        cases hg : g d2 d3 with
        | none => rw [hg] at q3; exact q3.elim
        | some d =>
          rw [hg] at q3
          exact h2 R3'.gk (p2.mono (gr.gg.trans e3.gg)) p3 hg fun v G' H' g p => Post.fin q3 R3' (Ext.refl _ _) g p
    | _ => simp only [hf] at q2; exact q2.elim
theorem de_chain (k k' : CK) (hu : X.A.units + 65 < cLine) (ha : DE X cc a da) (hb : DE X cc b db) (hc : DE X cc c dc) (hm : lastMarks [k.op, k'.op] [b, c] = false := by with_unfolding_all rfl) : DE X cc (.Compare a [k.op, k'.op] [b, c] pos) (dChain k.f k'.f da db dc) :=
  PE.imp (pe_chain (k.ok hu) (k'.ok hu) ha hb hc hm) (chain_core k.v k'.v)
theorem dt_chain (k k' : CK) (hu : X.A.units + 65 < cLine) (ha : DE X cc a da) (hb : DE X cc b db) (hc : DE X cc c dc) (hm : lastMarks [k.op, k'.op] [b, c] = false := by with_unfolding_all rfl) : DT X cc (.Compare a [k.op, k'.op] [b, c] pos) (dT (dChain k.f k'.f da db dc)) :=
  PT.imp (pt_chain (k.ok hu) (k'.ok hu) ha hb hc hm) (test_core (chain_core k.v k'.v))

/-! ### items, slices -/
def vIx : D → D → Option D
  | .tup ds, .int i => atI ds i
  | .tup ds, .bl b => atI ds (if b then 1 else 0)
  | .lst ds, .int i => atI ds i
  | .scr ds, .int i => atI ds i
  | .str z, .int i => (atI z.cps.toList i).map fun c => .str ⟨#[c]⟩
  | _, _ => none
theorem RpL.atI {K : PySem.W.Frag} {C : Nat → Addr} {G : Hp} {v : List V} {d : List D} {i : Int} {x : D} (r : RpL K C G v d) (e : L2.atI d i = some x) : ∃ y, L2.atI v i = some y ∧ Rp K C G y x := by
  unfold L2.atI at e ⊢
  rw [r.length]
  cases h : ixN d.length i with
  | none => rw [h] at e; cases e
  | some j => rw [h] at e; exact r.get e
theorem sign_len (c : Nat) : (⟨#[c]⟩ : Str).length ≤ sizeLine := by rw [sizeLine_eq]; show 1 ≤ _; decide
def vIxI : D → D → Option D
  | .tup ds, .int i => atI ds i
  | .lst ds, .int i => atI ds i
  | .scr ds, .int i => atI ds i
  | .str z, .int i => (atI z.cps.toList i).map fun c => .str ⟨#[c]⟩
  | _, _ => none
theorem v2_ix {K : PySem.W.Frag} {C : Nat → Addr} : V2 K C vIxI (rIx K) := by
  intro G H x y dx dy d Q s px py e k
  cases py with
  | int i =>
    cases px with
    | tup h r =>
      obtain ⟨z, h1, h2⟩ := r.atI (show L2.atI _ i = some d from e)
      exact .inr (.inl ⟨_, _, i, z, rfl, rfl, same_seqT s h, h1, Grow.here s k h2⟩)
    | lst h r =>
      obtain ⟨z, h1, h2⟩ := r.atI (show L2.atI _ i = some d from e)
      exact .inl ⟨_, _, i, z, rfl, rfl, .inl (.inl (s _ _ h)), h1, Grow.here s k h2⟩
    | scr h r =>
      obtain ⟨z, h1, h2⟩ := r.atI (show L2.atI _ i = some d from e)
      exact .inl ⟨_, _, i, z, rfl, rfl, Same.seq s h, h1, Grow.here s k h2⟩
    | str z hz =>
      have e : (L2.atI z.cps.toList i).map (fun c => D.str ⟨#[c]⟩) = some d := e
      cases hc : L2.atI z.cps.toList i with
      | none => rw [hc] at e; cases e
      | some c =>
        rw [hc] at e; cases e
        exact .inr (.inr ⟨z, i, c, rfl, rfl, hz, hc, Grow.here s k (.str _ (sign_len c))⟩)
    | _ => cases e
  | _ => cases px <;> cases e
abbrev dIx := dOp vIxI
theorem de_ix (ha : DE X cc a da) (hb : DE X cc b db) (hs : PlainIx b := by intro _ _; rfl) : DE X cc (.Subscript a b pos) (dIx da db) := PE.imp (pe_ix ix_seq ha hb hs) (op_core v2_ix)
end
end Rf
set_option Elab.async false
set_option linter.all false
set_option maxRecDepth 100000
/-! Rf: slices, built-ins, walks, comprehensions, fresh objects -/
namespace Rf
open PySem L2
section
variable {X : Cx} {cc : Cc} {a b c e : Expr} {da db dc : ENV → R D} {pos : Pos} {es : List Expr} {dr : ENV → R (List D)}
/-! ### slices -/
def dNoPart : ENV → R (Option Int) := fun ρ => .ok none ρ
def dPart (da : ENV → R D) : ENV → R (Option Int) := fun ρ => (da ρ).bind fun x ρ1 => match x with
  | .int i => .ok (some i) ρ1
  | _ => .bot
def rO (K : PySem.W.Frag) (cc : Cc) (den : ENV → R (Option Int)) : TO := fun σ H Q => ∃ B ρ G, Rl K cc B ρ σ G H ∧ Post K cc (fun _ b c => b = c) B G σ Q (den ρ)
def DO (X : Cx) (cc : Cc) (e : Option Expr) (den : ENV → R (Option Int)) : Prop := PO X e (rO X.K cc den)
theorem PO.imp {e : Option Expr} {t t' : TO} (h : PO X e t) (k : ∀ σ H Q, t' σ H Q → t σ H Q) : PO X e t' := ⟨fun pins s σ H Q I q => h.run pins s σ H Q I (k _ _ _ q)⟩
theorem do_none : DO X cc none dNoPart := PO.imp po_none fun σ H Q ⟨B, ρ, G, R0, h⟩ => h none G H (Ext.refl _ _) R0 rfl
theorem do_some (ha : DE X cc a da) : DO X cc (some a) (dPart da) := by
  refine PO.imp (po_some ha) fun σ H Q ⟨B, ρ, G, R0, h⟩ => ⟨B, ρ, G, R0, Post.bind (V2 := fun _ b c => b = c) h fun d1 ρ1 G1 H1 x e1 R1 p1 h1 => ?_⟩
  cases p1 with
  | int i => exact ⟨i, rfl, h1 (some i) G1 H1 (Ext.refl _ _) R1 rfl⟩
  | _ => exact h1.elim
def cutD (xs : List D) (lo hi : Option Int) : List D := (xs.drop (HT.sIx xs.length 0 lo)).take (HT.sIx xs.length xs.length hi - HT.sIx xs.length 0 lo)
def vSl (x : D) (lo hi : Option Int) : Option D := match x with
  | .tup ds => some (.tup (cutD ds lo hi))
  | .lst ds => some (.lst (cutD ds lo hi))
  | .str z => some (.str (cutS z lo hi))
  | _ => none
def rSlA2 (K : PySem.W.Frag) : V → Option Int → Option Int → Hp → VK → Prop := fun x lo hi H Q => rSlA K x lo hi H Q ∨ rSlL K x lo hi H Q ∨ rSlS x lo hi H Q
theorem RpL.cut {K : PySem.W.Frag} {C : Nat → Addr} {G : Hp} {v : List V} {d : List D} (r : RpL K C G v d) (lo hi : Option Int) : RpL K C G (cutV v lo hi) (cutD d lo hi) := by
  unfold cutV cutD
  rw [r.length]
  exact (r.drop _).take _
theorem cutD_whole (ds : List D) (lo hi : Option Int) (h : HT.sIx ds.length 0 lo = 0 ∧ HT.sIx ds.length ds.length hi = ds.length) : cutD ds lo hi = ds := by
  unfold cutD
  rw [h.1, h.2]
  simp
def dSl (da : ENV → R D) (dl dh : ENV → R (Option Int)) : ENV → R D := fun ρ => (da ρ).bind fun x ρ1 => (dl ρ1).bind fun l ρ2 => (dh ρ2).bind fun h ρ3 => R.of (vSl x l h) ρ3
theorem de_sl {lo hi : Option Expr} {dl dh : ENV → R (Option Int)} {p2 : Pos} (ha : DE X cc a da) (hl : DO X cc lo dl) (hh : DO X cc hi dh) : DE X cc (.Subscript a (.Slice lo hi none p2) pos) (dSl da dl dh) := by
  refine PE.imp (pe_slice (sl_tupA.or (sl_list.or sl_str)) ha hl hh) fun σ H Q ⟨B, ρ, G, R0, h⟩ => ⟨B, ρ, G, R0, h.bind fun d1 ρ1 G1 H1 x e1 R1 p1 h1 => ⟨B, ρ1, G1, R1, Post.bind (V1 := fun _ b c => b = c) h1 fun l ρ2 G2 H2 l' e2 R2 p2 h2 =>
    ⟨B, ρ2, G2, R2, Post.bind (V1 := fun _ b c => b = c) h2 fun u ρ3 G3 H3 u' e3 R3 p3 h3 => ?_⟩⟩⟩
  subst p2 p3
  have p1 := p1.mono (e2.gg.trans e3.gg)
  cases p1 with
  | @tup a xs ds h r =>
    refine .inl ⟨a, xs, rfl, same_seqT R3.gk h, fun q => ?_, fun q p hp => ?_⟩
    · refine Post.fin h3 R3 (Ext.refl _ _) (Grow.refl R3.gk) ?_
      rw [cutD_whole ds _ _ (by rw [← r.length]; exact q)]
      exact .tup h r
    · have g := Grow.new (o := .tup (cutV xs l' u')) R3.gk hp
      exact Post.fin h3 R3 (Ext.refl _ _) g (.tup (.inl (.inl upd_same)) ((r.cut _ _).mono g.gg))
  | @lst a xs ds h r =>
    refine .inr (.inl ⟨a, xs, rfl, .inl (.inl (R3.gk _ _ h)), fun p hp => ?_⟩)
    have g := Grow.new (o := .lst (cutV xs l' u')) R3.gk hp
    exact Post.fin h3 R3 (Ext.refl _ _) g (.lst upd_same ((r.cut _ _).mono g.gg))
  | str z hz => exact .inr (.inr ⟨z, rfl, hz, Post.fin h3 R3 (Ext.refl _ _) (Grow.refl R3.gk) (.str _ (Nat.le_trans (cutS_length z _ _) hz))⟩)
  | _ => exact h3.elim

/-! ### built-ins by values -/
def dB (f : List D → Option D) (dr : ENV → R (List D)) : ENV → R D := fun ρ => (dr ρ).bind fun xs ρ1 => R.of (f xs) ρ1
def VB (K : PySem.W.Frag) (C : Nat → Addr) (f : List D → Option D) (r : List V → Hp → VK → Prop) : Prop :=
  ∀ {G H : Hp} {xs : List V} {ds : List D} {d : D} {Q : VK}, Same G H → RpL K C G xs ds → f ds = some d → (∀ v G' H', Grow G H G' H' → Rp K C G' v d → Q v H') → r xs H Q
theorem cb_core {r : List V → Hp → VK → Prop} {f : List D → Option D} (hv : VB X.K cc.C f r) : ∀ σ H Q, rE X.K cc (dB f dr) σ H Q → tCB r (rA X.K cc dr) σ H Q := by
  intro σ H Q ⟨B, ρ, G, R0, h⟩
  refine ⟨B, ρ, G, R0, h.bind fun d1 ρ1 G1 H1 x e1 R1 p1 h1 => ?_⟩
  cases hf : f d1 with
  | none => rw [hf] at h1; exact h1.elim
  | some d =>
    rw [hf] at h1
    exact hv R1.gk p1 hf fun v G' H' g p => Post.fin h1 R1 (Ext.refl _ _) g p
theorem de_B {id : String} {x : Str} {p : Pos} {r : List V → Hp → VK → Prop} {f : List D → Option D} (hc : CallR X (.builtin id) r) (hf : VB X.K cc.C f r) (hg : Gl X x) (hm : X.mg x = none) (hv : bootBuiltins x = some (.builtin id)) (ha : DA X cc (e :: es) dr)
    (hn : x ≠ "__name__" := by decide) (hdb : (x == ("__debug__" : Str)) = false := by decide) (he : starEach (e :: es) X.env = (false, eval e X.env) :: starEach es X.env := by rfl) (hpl : (backTo pos (starEach es X.env)).any (·.1) = false := by rfl) :
    DE X cc (.Call (.Name x p) (e :: es) [] pos) (dB f dr) := PE.imp (pe_callB hc hg hm hv ha hn hdb he hpl) (cb_core hf)
theorem de_T {T : String} {x : Str} {p : Pos} {r : List V → Hp → VK → Prop} {f : List D → Option D} (hc : CallR X (.type T) r) (hf : VB X.K cc.C f r) (hg : Gl X x) (hm : X.mg x = none) (hv : bootBuiltins x = some (.type T)) (ha : DA X cc (e :: es) dr)
    (hn : x ≠ "__name__" := by decide) (hdb : (x == ("__debug__" : Str)) = false := by decide) (he : starEach (e :: es) X.env = (false, eval e X.env) :: starEach es X.env := by rfl) (hpl : (backTo pos (starEach es X.env)).any (·.1) = false := by rfl) :
    DE X cc (.Call (.Name x p) (e :: es) [] pos) (dB f dr) := PE.imp (pe_callTy hc hg hm hv ha hn hdb he hpl) (cb_core hf)
variable {K : PySem.W.Frag} {C : Nat → Addr}
def fLen : List D → Option D
  | [.str z] => some (.int z.length)
  | [.tup ds] => some (.int ds.length)
  | [.lst ds] => some (.int ds.length)
  | [.scr ds] => some (.int ds.length)
  | _ => none
def rLen (K : PySem.W.Frag) : List V → Hp → VK → Prop := fun xs H Q => (∃ p ys, xs = [.ref p] ∧ (SqL K H p ys ∨ SqT K H p ys) ∧ Q (.int ys.length) H) ∨ ∃ z, xs = [.str z] ∧ z.length ≤ sizeLine ∧ Q (.int z.length) H
theorem vb_len : VB K C fLen (rLen K) := by
  intro G H xs ds d Q s r e k
  cases r with
  | nil => cases e
  | cons h t =>
    cases t with
    | cons _ _ => cases h <;> cases e
    | nil =>
      cases h with
      | str z hz => cases e; exact .inr ⟨z, rfl, hz, Grow.here s k (.int _)⟩
      | tup h r => cases e; exact .inl ⟨_, _, rfl, .inr (same_seqT s h), by rw [r.length]; exact Grow.here s k (.int _)⟩
      | lst h r => cases e; exact .inl ⟨_, _, rfl, .inl (.inl (.inl (s _ _ h))), by rw [r.length]; exact Grow.here s k (.int _)⟩
      | scr h r => cases e; exact .inl ⟨_, _, rfl, .inl (Same.seq s h), by rw [r.length]; exact Grow.here s k (.int _)⟩
      | _ => cases e
def fInt : List D → Option D
  | [.int i] => some (.int i)
  | [.bl b] => some (.int (if b then 1 else 0))
  | _ => none
theorem vb_int : VB K C fInt (fun xs H Q => (∃ i, xs = [.int i] ∧ Q (.int i) H) ∨ ∃ k, xs = [.bl k] ∧ Q (.int (if k then 1 else 0)) H) := by
  intro G H xs ds d Q s r e k
  cases r with
  | nil => cases e
  | cons h t =>
    cases t with
    | cons _ _ => cases h <;> cases e
    | nil =>
      cases h with
      | int i => cases e; exact .inl ⟨i, rfl, Grow.here s k (.int _)⟩
      | bl i => cases e; exact .inr ⟨i, rfl, Grow.here s k (.int _)⟩
      | _ => cases e
def fAbs : List D → Option D
  | [.int i] => some (.int (if i < 0 then -i else i))
  | _ => none
theorem vb_abs : VB K C fAbs (fun xs H Q => ∃ i, xs = [.int i] ∧ Q (.int (if i < 0 then -i else i)) H) := by
  intro G H xs ds d Q s r e k
  cases r with
  | nil => cases e
  | cons h t =>
    cases t with
    | cons _ _ => cases h <;> cases e
    | nil =>
      cases h with
      | int i => cases e; exact ⟨i, rfl, Grow.here s k (.int _)⟩
      | _ => cases e
def fTuple : List D → Option D
  | [.lst ds] => some (.tup ds)
  | [.scr ds] => some (.tup ds)
  | [.tup ds] => some (.tup ds)
  | _ => none
theorem vb_tuple : VB K C fTuple (fun xs H Q => ∃ p ys, xs = [.ref p] ∧ ((SqL K H p ys ∧ ∀ l, H l = none → Q (.ref l) (upd H l (.tup ys))) ∨ (SqT K H p ys ∧ Q (.ref p) H))) := by
  intro G H xs ds d Q s r e k
  have go : ∀ {p : Addr} {ys : List V} {es : List D}, SqL K H p ys → RpL K C G ys es → d = .tup es → ∃ q zs, [V.ref p] = [V.ref q] ∧ ((SqL K H q zs ∧ ∀ l, H l = none → Q (.ref l) (upd H l (.tup zs))) ∨ (SqT K H q zs ∧ Q (.ref q) H)) := by
    intro p ys es h r e
    subst e
    refine ⟨p, ys, rfl, .inl ⟨h, fun l hl => ?_⟩⟩
    have g := Grow.new (o := .tup ys) s hl
    exact k _ _ _ g (.tup (.inl (.inl upd_same)) (r.mono g.gg))
  cases r with
  | nil => cases e
  | cons h t =>
    cases t with
    | cons _ _ => cases h <;> cases e
    | nil =>
      cases h with
      | lst h r => cases e; exact go (.inl (.inl (s _ _ h))) r rfl
      | scr h r => cases e; exact go (Same.seq s h) r rfl
      | tup h r => cases e; exact ⟨_, _, rfl, .inr ⟨same_seqT s h, Grow.here s k (.tup h r)⟩⟩
      | _ => cases e
def fList : List D → Option D
  | [.lst ds] => some (.lst ds)
  | [.scr ds] => some (.lst ds)
  | [.tup ds] => some (.lst ds)
  | _ => none
theorem vb_list : VB K C fList (fun xs H Q => ∃ p ys, xs = [.ref p] ∧ (SqL K H p ys ∨ SqT K H p ys) ∧ ∀ l, H l = none → Q (.ref l) (upd H l (.lst ys))) := by
  intro G H xs ds d Q s r e k
  have go : ∀ {p : Addr} {ys : List V} {es : List D}, (SqL K H p ys ∨ SqT K H p ys) → RpL K C G ys es → d = .lst es → ∃ q zs, [V.ref p] = [V.ref q] ∧ (SqL K H q zs ∨ SqT K H q zs) ∧ ∀ l, H l = none → Q (.ref l) (upd H l (.lst zs)) := by
    intro p ys es h r e
    subst e
    refine ⟨p, ys, rfl, h, fun l hl => ?_⟩
    have g := Grow.new (o := .lst ys) s hl
    exact k _ _ _ g (.lst upd_same (r.mono g.gg))
  cases r with
  | nil => cases e
  | cons h t =>
    cases t with
    | cons _ _ => cases h <;> cases e
    | nil =>
      cases h with
      | lst h r => cases e; exact go (.inl (.inl (.inl (s _ _ h)))) r rfl
      | scr h r => cases e; exact go (.inl (Same.seq s h)) r rfl
      | tup h r => cases e; exact go (.inr (same_seqT s h)) r rfl
      | _ => cases e
/-- the truths of a list -/
def bools : List D → Option (List Bool)
  | [] => some []
  | .bl b :: r => (bools r).map (b :: ·)
  | _ => none
theorem RpL.bools {G : Hp} : ∀ {vs : List V} {ds : List D} {bs : List Bool}, RpL K C G vs ds → Rf.bools ds = some bs → vs = bs.map V.bl
  | _, _, bs, .nil, e => by cases e; rfl
  | _, _, bs, .cons (d := d) h r, e => by
    cases h with
    | bl b =>
      unfold Rf.bools at e
      rename_i ds
      cases h2 : Rf.bools ds with
      | none => rw [h2] at e; cases e
      | some cs => rw [h2] at e; cases e; rw [r.bools h2]; rfl
    | _ => cases e
def fAll : List D → Option D
  | [.lst ds] => (bools ds).map fun bs => .bl (bs.all id)
  | _ => none
def fAny : List D → Option D
  | [.lst ds] => (bools ds).map fun bs => .bl (bs.any id)
  | _ => none
theorem vb_all : VB K C fAll (rAll K) := by
  intro G H xs ds d Q s r e k
  cases r with
  | nil => cases e
  | cons h t =>
    cases t with
    | cons _ _ => cases h <;> cases e
    | nil =>
      cases h with
      | @lst a xs ds h r =>
        have e : (bools ds).map (fun bs => D.bl (bs.all id)) = some d := e
        cases hb : bools ds with
        | none => rw [hb] at e; cases e
        | some bs => rw [hb] at e; cases e; exact ⟨a, bs, rfl, by rw [← r.bools hb]; exact .inl (.inl (s _ _ h)), Grow.here s k (.bl _)⟩
      | _ => cases e
theorem vb_any : VB K C fAny (rAny K) := by
  intro G H xs ds d Q s r e k
  cases r with
  | nil => cases e
  | cons h t =>
    cases t with
    | cons _ _ => cases h <;> cases e
    | nil =>
      cases h with
      | @lst a xs ds h r =>
        have e : (bools ds).map (fun bs => D.bl (bs.any id)) = some d := e
        cases hb : bools ds with
        | none => rw [hb] at e; cases e
        | some bs => rw [hb] at e; cases e; exact ⟨a, bs, rfl, by rw [← r.bools hb]; exact .inl (.inl (s _ _ h)), Grow.here s k (.bl _)⟩
      | _ => cases e
/-- the ints of a list -/
def intsOf : List D → Option (List Int)
  | [] => some []
  | .int b :: r => (intsOf r).map (b :: ·)
  | _ => none
theorem RpL.intsV {G : Hp} : ∀ {vs : List V} {ds : List D} {bs : List Int}, RpL K C G vs ds → Rf.intsOf ds = some bs → vs = bs.map V.int
  | _, _, bs, .nil, e => by cases e; rfl
  | _, _, bs, .cons (d := d) h r, e => by
    cases h with
    | int b =>
      unfold Rf.intsOf at e
      rename_i ds
      cases h2 : Rf.intsOf ds with
      | none => rw [h2] at e; cases e
      | some cs => rw [h2] at e; cases e; rw [r.intsV h2]; rfl
    | _ => cases e
def fSum : List D → Option D
  | [.lst ds] => (intsOf ds).map fun bs => .int bs.sum
  | [.scr ds] => (intsOf ds).map fun bs => .int bs.sum
  | _ => none
theorem vb_sum : VB K C fSum (rSum K) := by
  intro G H xs ds d Q s r e k
  have go : ∀ {a : Addr} {ys : List V} {es : List D}, SqL K H a ys → RpL K C G ys es → (intsOf es).map (fun bs => D.int bs.sum) = some d → rSum K [.ref a] H Q := by
    intro a ys es h r e
    cases hb : intsOf es with
    | none => rw [hb] at e; cases e
    | some bs => rw [hb] at e; cases e; exact ⟨a, bs, rfl, by rw [← r.intsV hb]; exact h, Grow.here s k (.int _)⟩
  cases r with
  | nil => cases e
  | cons h t =>
    cases t with
    | cons _ _ => cases h <;> cases e
    | nil =>
      cases h with
      | lst h r => exact go (.inl (.inl (s _ _ h))) r e
      | scr h r => exact go (Same.seq s h) r e
      | _ => cases e
def maxI : Int → List Int → Int
  | m, [] => m
  | m, x :: r => maxI (if x > m then x else m) r
def minI : Int → List Int → Int
  | m, [] => m
  | m, x :: r => minI (if x < m then x else m) r
theorem maxI_mem : ∀ (r : List Int) (m : Int), maxI m r ∈ m :: r ∧ ∀ y ∈ m :: r, y ≤ maxI m r
  | [], m => ⟨List.mem_cons_self, fun y h => by simp at h; subst h; exact Int.le_refl _⟩
  | x :: r, m => by
    obtain ⟨h1, h2⟩ := maxI_mem r (if x > m then x else m)
    refine ⟨?_, fun y hy => ?_⟩
    · show maxI (if x > m then x else m) r ∈ _
      rcases List.mem_cons.mp h1 with h | h
      · rw [h]; split <;> simp
      · exact List.mem_cons_of_mem _ (List.mem_cons_of_mem _ h)
    · have h3 := h2 (if x > m then x else m) List.mem_cons_self
      show y ≤ maxI (if x > m then x else m) r
      rcases List.mem_cons.mp hy with h | h
      · subst h; refine Int.le_trans ?_ h3; split <;> omega
      · rcases List.mem_cons.mp h with h | h
        · subst h; refine Int.le_trans ?_ h3; split <;> omega
        · exact h2 y (List.mem_cons_of_mem _ h)
theorem minI_mem : ∀ (r : List Int) (m : Int), minI m r ∈ m :: r ∧ ∀ y ∈ m :: r, minI m r ≤ y
  | [], m => ⟨List.mem_cons_self, fun y h => by simp at h; subst h; exact Int.le_refl _⟩
  | x :: r, m => by
    obtain ⟨h1, h2⟩ := minI_mem r (if x < m then x else m)
    refine ⟨?_, fun y hy => ?_⟩
    · show minI (if x < m then x else m) r ∈ _
      rcases List.mem_cons.mp h1 with h | h
      · rw [h]; split <;> simp
      · exact List.mem_cons_of_mem _ (List.mem_cons_of_mem _ h)
    · have h3 := h2 (if x < m then x else m) List.mem_cons_self
      show minI (if x < m then x else m) r ≤ y
      rcases List.mem_cons.mp hy with h | h
      · subst h; refine Int.le_trans h3 ?_; split <;> omega
      · rcases List.mem_cons.mp h with h | h
        · subst h; refine Int.le_trans h3 ?_; split <;> omega
        · exact h2 y (List.mem_cons_of_mem _ h)
def maxOf : List Int → Option D
  | [] => none
  | m :: r => some (.int (maxI m r))
def minOf : List Int → Option D
  | [] => none
  | m :: r => some (.int (minI m r))
def fMax : List D → Option D
  | [.int i, .int j] => some (.int (if j > i then j else i))
  | [.lst ds] => (intsOf ds).bind maxOf
  | [.tup ds] => (intsOf ds).bind maxOf
  | _ => none
def fMin : List D → Option D
  | [.int i, .int j] => some (.int (if j < i then j else i))
  | [.lst ds] => (intsOf ds).bind minOf
  | [.tup ds] => (intsOf ds).bind minOf
  | _ => none
def rMinS (K : PySem.W.Frag) : List V → Hp → VK → Prop := fun vs H Q => (∃ i j, vs = [.int i, .int j] ∧ Q (.int (if j < i then j else i)) H) ∨ ∃ (a : Addr) (n : Int) (ns : List Int), vs = [V.ref a] ∧ (SqL K H a ((n :: ns).map V.int) ∨ SqT K H a ((n :: ns).map V.int)) ∧ Q (.int (minI n ns)) H
def rMaxS (K : PySem.W.Frag) : List V → Hp → VK → Prop := fun vs H Q => (∃ i j, vs = [.int i, .int j] ∧ Q (.int (if j > i then j else i)) H) ∨ ∃ (a : Addr) (n : Int) (ns : List Int), vs = [V.ref a] ∧ (SqL K H a ((n :: ns).map V.int) ∨ SqT K H a ((n :: ns).map V.int)) ∧ Q (.int (maxI n ns)) H
theorem minOf_eq : ∀ (r : List Int) (m : Int), PySem.W.minOf m r = minI m r
  | [], m => rfl
  | x :: r, m => by
    have h := minOf_eq r (if x < m then x else m)
    show PySem.W.minOf (if (decide (x < m)) = true then x else m) r = _
    simp only [decide_eq_true_eq]
    exact h
theorem maxOf_eq : ∀ (r : List Int) (m : Int), PySem.W.maxOf m r = maxI m r
  | [], m => rfl
  | x :: r, m => by
    have h := maxOf_eq r (if x > m then x else m)
    show PySem.W.maxOf (if (decide (m < x)) = true then x else m) r = _
    simp only [decide_eq_true_eq]
    exact h
theorem holds_ints {h : Heap} : ∀ {ns : List Int} {us : List Value}, Vals (ns.map V.int) us → PySem.W.HoldAll h us ns
  | [], us, r => by cases r; exact ⟨[], .nil⟩
  | n :: ns, us, r => by
    cases r with
    | cons p q =>
      obtain ⟨t, rfl⟩ := p
      obtain ⟨as, z⟩ := holds_ints q
      exact ⟨_, .cons (.int n t) z⟩
theorem holds_int {h : Heap} {v : Value} {n : Int} (x : PySem.W.Holds h v n) : RelV (.int n) v := by
  obtain ⟨as, r⟩ := x
  cases (show Reads h v (.int n) as from r) with
  | int i t => exact ⟨t, rfl⟩
theorem cr_minS (hc : X.calm = true) (hu : X.A.units + 65 < cLine) : CallR X (.builtin "min") (rMinS X.K) := by
  intro pins s σ H xs us Q I r h
  rcases h with h | ⟨a, n, ns, rfl, h | h, q⟩
  · exact call_min2 hc pins s σ H xs us Q I r h
  · cases (Vals.ref1 r)
    obtain ⟨its, rv, hl, _⟩ := I.list h
    refine PySem.W.min_list_datum (I.ok.hd hc) hl.isList (x := n) (xs := ns) (by simpa using holds_ints rv) (by show X.A.units + 1 + 0 < _; omega) fun i v h' tk hi hv hk => ?_
    exact ⟨.int (minI n ns), H, I.kept hk, by rw [← minOf_eq]; exact holds_int hv, q⟩
  · cases (Vals.ref1 r)
    obtain ⟨its, rv, hl, _⟩ := I.tuple h
    refine PySem.W.min_tuple_datum (I.ok.hd hc) (show s.heap.IsTuple a its.toArray from hl) (x := n) (xs := ns) (by simpa using holds_ints rv) (by show X.A.units + 1 + 0 < _; omega) fun i v h' tk hi hv hk => ?_
    exact ⟨.int (minI n ns), H, I.kept hk, by rw [← minOf_eq]; exact holds_int hv, q⟩
theorem cr_maxS (hc : X.calm = true) (hu : X.A.units + 65 < cLine) : CallR X (.builtin "max") (rMaxS X.K) := by
  intro pins s σ H xs us Q I r h
  rcases h with h | ⟨a, n, ns, rfl, h | h, q⟩
  · exact call_max2 hc pins s σ H xs us Q I r h
  · cases (Vals.ref1 r)
    obtain ⟨its, rv, hl, _⟩ := I.list h
    refine PySem.W.max_list_datum (I.ok.hd hc) hl.isList (x := n) (xs := ns) (by simpa using holds_ints rv) (by show X.A.units + 1 + 0 < _; omega) fun i v h' tk hi hv hk => ?_
    exact ⟨.int (maxI n ns), H, I.kept hk, by rw [← maxOf_eq]; exact holds_int hv, q⟩
  · cases (Vals.ref1 r)
    obtain ⟨its, rv, hl, _⟩ := I.tuple h
    refine PySem.W.max_tuple_datum (I.ok.hd hc) (show s.heap.IsTuple a its.toArray from hl) (x := n) (xs := ns) (by simpa using holds_ints rv) (by show X.A.units + 1 + 0 < _; omega) fun i v h' tk hi hv hk => ?_
    exact ⟨.int (maxI n ns), H, I.kept hk, by rw [← maxOf_eq]; exact holds_int hv, q⟩
theorem vb_min : VB K C fMin (rMinS K) := by
  intro G H xs ds d Q s r e k
  have go : ∀ {a : Addr} {ys : List V} {es : List D}, (SqL K H a ys ∨ SqT K H a ys) → RpL K C G ys es → (intsOf es).bind minOf = some d → rMinS K [.ref a] H Q := by
    intro a ys es h r e
    cases hb : intsOf es with
    | none => rw [hb] at e; cases e
    | some bs =>
      rw [hb] at e
      cases bs with
      | nil => cases e
      | cons n ns => cases e; exact .inr ⟨a, n, ns, rfl, by rw [← r.intsV hb]; exact h, Grow.here s k (.int _)⟩
  cases r with
  | nil => cases e
  | cons h t =>
    cases t with
    | nil =>
      cases h with
      | lst h r => exact go (.inl (.inl (.inl (s _ _ h)))) r e
      | tup h r => exact go (.inr (same_seqT s h)) r e
      | _ => cases e
    | cons h2 t2 =>
      cases t2 with
      | cons _ _ => cases h <;> cases h2 <;> cases e
      | nil =>
        cases h with
        | int i =>
          cases h2 with
          | int j => cases e; exact .inl ⟨i, j, rfl, Grow.here s k (.int _)⟩
          | _ => cases e
        | _ => cases h2 <;> cases e
theorem vb_max : VB K C fMax (rMaxS K) := by
  intro G H xs ds d Q s r e k
  have go : ∀ {a : Addr} {ys : List V} {es : List D}, (SqL K H a ys ∨ SqT K H a ys) → RpL K C G ys es → (intsOf es).bind maxOf = some d → rMaxS K [.ref a] H Q := by
    intro a ys es h r e
    cases hb : intsOf es with
    | none => rw [hb] at e; cases e
    | some bs =>
      rw [hb] at e
      cases bs with
      | nil => cases e
      | cons n ns => cases e; exact .inr ⟨a, n, ns, rfl, by rw [← r.intsV hb]; exact h, Grow.here s k (.int _)⟩
  cases r with
  | nil => cases e
  | cons h t =>
    cases t with
    | nil =>
      cases h with
      | lst h r => exact go (.inl (.inl (.inl (s _ _ h)))) r e
      | tup h r => exact go (.inr (same_seqT s h)) r e
      | _ => cases e
    | cons h2 t2 =>
      cases t2 with
      | cons _ _ => cases h <;> cases h2 <;> cases e
      | nil =>
        cases h with
        | int i =>
          cases h2 with
          | int j => cases e; exact .inl ⟨i, j, rfl, Grow.here s k (.int _)⟩
          | _ => cases e
        | _ => cases h2 <;> cases e
/-- the lengths -/
theorem cr_lenS : CallR X (.builtin "len") (rLen X.K) := by
  intro pins s σ H xs us Q I r h
  rcases h with ⟨p, ys, e, hs, q⟩ | ⟨z, e, hz, q⟩
  · exact call_len_seq pins s σ H xs us Q I r ⟨p, ys, e, hs, q⟩
  · exact call_len_str pins s σ H xs us Q I r ⟨z, e, hz, q⟩
/-! ### isinstance -/
def isTy (T : String) : D → Option Bool
  | .non => kitB "NoneType" T
  | .bl _ => kitB "bool" T
  | .int _ => kitB "int" T
  | .str _ => kitB "str" T
  | .tup _ => kitB "tuple" T
  | .lst _ => kitB "list" T
  | .scr _ => kitB "list" T
  | .dic _ => kitB "dict" T
  | .ins _ _ => none
theorem sqT_ty {K : PySem.W.Frag} {H : Hp} {a : Addr} {xs : List V} (h : SqT K H a xs) : TyX K H (.ref a) (.type "tuple") := by
  rcases h with (h | ⟨o, h⟩) | ⟨o, its, n, h, c, _⟩
  · exact .base (.tup h)
  · exact .fTuple h
  · exact .kTuple h c
theorem sqL_ty {K : PySem.W.Frag} {H : Hp} {a : Addr} {xs : List V} (h : SqL K H a xs) : TyX K H (.ref a) (.type "list") := by
  rcases h with (h | ⟨o, h⟩) | ⟨o, its, n, h, c, _⟩
  · exact .base (.lst h)
  · exact .base (.frz h)
  · exact .kList h c
theorem isTy_ok {T : String} {G H : Hp} {v : V} {d : D} {b : Bool} (s : Same G H) (p : Rp K C G v d) (e : isTy T d = some b) : ∃ t, TyX K H v t ∧ PySem.W.kitOne K t (.type T) = some b := by
  cases p with
  | non => exact ⟨_, .base .non, kit_ty e⟩
  | bl b => exact ⟨_, .base (.bl b), kit_ty e⟩
  | int b => exact ⟨_, .base (.int b), kit_ty e⟩
  | str b _ => exact ⟨_, .base (.str b), kit_ty e⟩
  | tup h r => exact ⟨_, sqT_ty (same_seqT s h), kit_ty e⟩
  | lst h r => exact ⟨_, .base (.lst (s _ _ h)), kit_ty e⟩
  | scr h r => exact ⟨_, sqL_ty (Same.seq s h), kit_ty e⟩
  | dic h r => exact ⟨_, .base (.dK (s _ _ h)), kit_ty e⟩
  | ins h r => cases e
def dIs (f : D → Option Bool) (da : ENV → R D) : ENV → R D := dUn (fun d => (f d).map D.bl) da
/-- isinstance(a, T), T one class -/
theorem de_isA {x y : Str} {p p2 : Pos} {f : D → Option Bool} {cv : V} {cu : Value} (hf : ∀ {G H : Hp} {v : V} {d : D} {b : Bool}, Same G H → Rp X.K cc.C G v d → f d = some b → ∃ t, TyX X.K H v t ∧ PySem.W.kitOne X.K t cu = some b)
    (hc : PE X (.Name y p2) (tC cv)) (hk : ClsV cv cu) (hg : Gl X x) (hm : X.mg x = none) (hv : bootBuiltins x = some (.builtin "isinstance")) (ha : DE X cc a da)
    (hn : x ≠ "__name__" := by decide) (hdb : (x == ("__debug__" : Str)) = false := by decide) (he : starEach [a, .Name y p2] X.env = (false, eval a X.env) :: starEach [.Name y p2] X.env := by rfl)
    (hpl : (backTo pos (starEach [.Name y p2] X.env)).any (·.1) = false := by rfl) (hs2 : starEach [.Name y p2] X.env = (false, eval (.Name y p2) X.env) :: starEach [] X.env := by rfl) : DE X cc (.Call (.Name x p) [a, .Name y p2] [] pos) (dIs f da) := by
  refine PE.imp (pe_callB call_isi hg hm hv (pa_cons ha (pa_cons hc pa_nil hs2) he) hn hdb he hpl) fun σ H Q ⟨B, ρ, G, R0, h⟩ => ⟨B, ρ, G, R0, h.bind fun d1 ρ1 G1 H1 v e1 R1 p1 h1 => ?_⟩
  cases hb : f d1 with
  | none => simp only [hb, Option.map_none] at h1; exact h1.elim
  | some b =>
    simp only [hb, Option.map_some] at h1
    obtain ⟨t, ht, hko⟩ := hf R1.gk p1 hb
    exact ⟨v, cv, t, cu, b, rfl, hk, ht, hko, Post.fin h1 R1 (Ext.refl _ _) (Grow.refl R1.gk) (.bl b)⟩
theorem de_isT {T : String} {x y : Str} {p p2 : Pos} (hg : Gl X x) (hm : X.mg x = none) (hv : bootBuiltins x = some (.builtin "isinstance")) (hgy : Gl X y) (hmy : X.mg y = none) (hvy : bootBuiltins y = some (.type T)) (ha : DE X cc a da)
    (hn : x ≠ "__name__" := by decide) (hdb : (x == ("__debug__" : Str)) = false := by decide) (hn2 : y ≠ "__name__" := by decide) (hdb2 : (y == ("__debug__" : Str)) = false := by decide) (he : starEach [a, .Name y p2] X.env = (false, eval a X.env) :: starEach [.Name y p2] X.env := by rfl)
    (hpl : (backTo pos (starEach [.Name y p2] X.env)).any (·.1) = false := by rfl) (hs2 : starEach [.Name y p2] X.env = (false, eval (.Name y p2) X.env) :: starEach [] X.env := by rfl) : DE X cc (.Call (.Name x p) [a, .Name y p2] [] pos) (dIs (isTy T) da) :=
  de_isA (cv := .ty T) (cu := .type T) (fun s p e => isTy_ok s p e) (pe_bltn hgy hmy hvy rfl hn2 hdb2) (.ty T) hg hm hv ha hn hdb he hpl hs2
end
end Rf
set_option Elab.async false
set_option linter.all false
set_option maxRecDepth 100000
/-! Rf: fresh objects, targets, walks, comprehensions -/
namespace Rf
open PySem PySem.Spec L2
/-! ### fresh objects -/
def PostF (K : PySem.W.Frag) (cc : Cc) (B G : Hp) (σ : St) (Q : V → Hp → Prop) (r : R M) : Prop := match r with
  | .ok m ρ' => ∀ p G' H', Ext B G G' → Rl K cc B ρ' σ G' H' → Own K cc.C B G' H' p m → (∀ (i : Nat) (m' : M), ρ'[i]? = some (some (.ow m')) → σ[i]? ≠ some (some (.ref p))) → Q (.ref p) H'
  | .exc e ρ' => ∀ cl dd G' H', Ext B G G' → Rl K cc B ρ' σ G' H' → ERp K cc.C G' e cl dd → cc.W cl dd σ H'
  | .bot => False
theorem PostF.bind {α β : Type} {K : PySem.W.Frag} {cc : Cc} {V1 : Hp → β → α → Prop} {B G : Hp} {σ : St} {Q : V → Hp → Prop} {Q' : β → Hp → Prop} {r : R α} {f : α → ENV → R M}
    (h : PostF K cc B G σ Q (r.bind f))
    (k : ∀ d ρ1 G1 H1 x, Ext B G G1 → Rl K cc B ρ1 σ G1 H1 → V1 G1 x d → PostF K cc B G1 σ Q (f d ρ1) → Q' x H1) : Post K cc V1 B G σ Q' r := by
  cases r with
  | ok d ρ1 =>
    intro v G1 H1 e1 R1 p1
    refine k d ρ1 G1 H1 v e1 R1 p1 ?_
    have h : PostF K cc B G σ Q (f d ρ1) := h
    revert h
    cases f d ρ1 with
    | ok c ρ2 => exact fun h v G' H' e R' p => h v G' H' (e1.trans e) R' p
    | exc c ρ2 => exact fun h cl dd G' H' e R' p => h cl dd G' H' (e1.trans e) R' p
    | bot => exact id
  | exc e ρ1 => exact h
  | bot => exact h
theorem Rl.notAt {K : PySem.W.Frag} {cc : Cc} {B : Hp} {ρ : ENV} {σ : St} {G H : Hp} {p : Addr} (r : Rl K cc B ρ σ G H) (h : H p = none) (i : Nat) (m : M) (e : ρ[i]? = some (some (.ow m))) : σ[i]? ≠ some (some (.ref p)) := fun z => by
  obtain ⟨q, hq, o⟩ := r.ow i m e
  rw [z] at hq; cases hq
  obtain ⟨x, hx, _⟩ := o.at_
  rw [h] at hx; cases hx
/-- the new object is there -/
theorem PostF.fin {K : PySem.W.Frag} {cc : Cc} {B G : Hp} {σ : St} {Q : V → Hp → Prop} {m : M} {ρ1 : ENV} {G1 H1 : Hp} {p : Addr} {o : HO}
    (h : PostF K cc B G σ Q (.ok m ρ1)) (R1 : Rl K cc B ρ1 σ G1 H1) (e : Ext B G G1) (hp : H1 p = none) (hm : HoldsM K cc.C G1 o m) : Q (.ref p) (upd H1 p o) := by
  have g := Grow.newO (o := o) R1.gk hp
  exact h p G1 _ e (R1.grow g) ⟨R1.bk.free hp, R1.gk.free hp, o, upd_same, hm⟩ fun i m' q => R1.notAt hp i m' q
def rF (K : PySem.W.Frag) (cc : Cc) (den : ENV → R M) : TE := fun σ H Q => ∃ B ρ G, Rl K cc B ρ σ G H ∧ PostF K cc B G σ Q (den ρ)
def DF (X : Cx) (cc : Cc) (e : Expr) (den : ENV → R M) : Prop := PE X e (rF X.K cc den)
/-- frozen at once -/
def frz (r : R M) : R D := r.bind fun m ρ => .ok m.toD ρ
section
variable {X : Cx} {cc : Cc} {a b c e : Expr} {da db dc : ENV → R D} {pos : Pos} {es : List Expr} {dr : ENV → R (List D)} {fa fb : ENV → R M}
theorem de_of (h : DF X cc e fa) : DE X cc e (fun ρ => frz (fa ρ)) := by
  refine PE.imp h fun σ H Q ⟨B, ρ, G, R0, h⟩ => ⟨B, ρ, G, R0, ?_⟩
  dsimp only [frz] at h
  cases hf : fa ρ with
  | ok m ρ1 =>
    rw [hf] at h
    intro p G1 H1 e1 R1 o nf
    obtain ⟨x, hx, hm⟩ := o.at_
    have sG : Same G1 (upd G1 p x) := same_upd o.ng
    refine h (.ref p) (upd G1 p x) H1 (e1.trans ⟨sG, fun a u q => ?_⟩) ⟨R1.bk, fun b u q => ?_, R1.ln, fun i d q => ?_, fun i m' q => ?_, R1.df, R1.pa, R1.kg.trans sG⟩ (HoldsM.rp upd_same (hm.mono sG))
    · by_cases z : a = p
      · subst z; exact .inr o.nb
      · rw [upd_ne z] at q; exact .inl q
    · by_cases z : b = p
      · subst z; rw [upd_same] at q; cases q; exact hx
      · rw [upd_ne z] at q; exact R1.gk b u q
    · obtain ⟨v, h1, h2⟩ := R1.sh i d q
      exact ⟨v, h1, h2.mono sG⟩
    · obtain ⟨q', h1, o'⟩ := R1.ow i m' q
      have ne : q' ≠ p := fun z => by subst z; exact nf i m' q h1
      obtain ⟨y, hy, hm'⟩ := o'.at_
      exact ⟨q', h1, o'.nb, by rw [upd_ne ne]; exact o'.ng, y, hy, hm'.mono sG⟩
  | exc x ρ1 => rw [hf] at h; exact h
  | bot => rw [hf] at h; exact h.elim
def ite_postF {K : PySem.W.Frag} {B G : Hp} {σ : St} {Q : V → Hp → Prop} {p : Prop} [Decidable p] {r : R M} (h : PostF K cc B G σ Q (if p then r else .bot)) : p ∧ PostF K cc B G σ Q r := by
  by_cases q : p
  · rw [if_pos q] at h; exact ⟨q, h⟩
  · rw [if_neg q] at h; exact h.elim
def fLst (dr : ENV → R (List D)) : ENV → R M := fun ρ => (dr ρ).bind fun xs ρ1 => if xs.length ≤ sizeLine then .ok (.lst xs) ρ1 else .bot
theorem df_list (h : DA X cc es dr) : DF X cc (.List es pos) (fLst dr) := by
  refine PE.imp (pe_lst h) fun σ H Q ⟨B, ρ, G, R0, h⟩ => ⟨B, ρ, G, R0, h.bind fun ds ρ1 G1 H1 xs e1 R1 p1 h1 => ?_⟩
  obtain ⟨hz, h1⟩ := ite_postF h1
  exact ⟨by rw [p1.length]; exact hz, fun p hp => h1.fin R1 (Ext.refl _ _) hp ⟨xs, rfl, p1⟩⟩
/-- list(x), as a fresh one -/
def fListF (dr : ENV → R D) : ENV → R M := fun ρ => (dr ρ).bind fun x ρ1 => match x with
  | .lst ds => .ok (.lst ds) ρ1
  | .scr ds => .ok (.lst ds) ρ1
  | .tup ds => .ok (.lst ds) ρ1
  | _ => .bot
theorem df_listOf {x : Str} {p : Pos} (hg : Gl X x) (hm : X.mg x = none) (hv : bootBuiltins x = some (.type "list")) (ha : DE X cc e da)
    (hn : x ≠ "__name__" := by decide) (hdb : (x == ("__debug__" : Str)) = false := by decide) (he : starEach [e] X.env = (false, eval e X.env) :: starEach [] X.env := by rfl) (hpl : (backTo pos (starEach [] X.env)).any (·.1) = false := by rfl) :
    DF X cc (.Call (.Name x p) [e] [] pos) (fListF da) := by
  refine PE.imp (pe_callTy call_list_of hg hm hv (pa_cons ha pa_nil he) hn hdb he hpl) fun σ H Q ⟨B, ρ, G, R0, h⟩ => ⟨B, ρ, G, R0, h.bind fun d1 ρ1 G1 H1 x e1 R1 p1 h1 => ?_⟩
  cases p1 with
  | lst h r => exact ⟨_, _, rfl, .inl (.inl (.inl (R1.gk _ _ h))), fun l hl => h1.fin R1 (Ext.refl _ _) hl ⟨_, rfl, r⟩⟩
  | scr h r => exact ⟨_, _, rfl, .inl (Same.seq R1.gk h), fun l hl => h1.fin R1 (Ext.refl _ _) hl ⟨_, rfl, r⟩⟩
  | tup h r => exact ⟨_, _, rfl, .inr (same_seqT R1.gk h), fun l hl => h1.fin R1 (Ext.refl _ _) hl ⟨_, rfl, r⟩⟩
  | _ => exact h1.elim
/-- a + b of lists, as a fresh one -/
def fAddL (da db : ENV → R D) : ENV → R M := fun ρ => (da ρ).bind fun x ρ1 => (db ρ1).bind fun y ρ2 => match x, y with
  | .lst a, .lst b => if a.length + b.length ≤ sizeLine then .ok (.lst (a ++ b)) ρ2 else .bot
  | _, _ => .bot
theorem df_add (ha : DE X cc a da) (hb : DE X cc b db) : DF X cc (.BinOp a .Add b pos) (fAddL da db) := by
  refine PE.imp (pe_op op_cat ha hb) fun σ H Q ⟨B, ρ, G, R0, h⟩ => ⟨B, ρ, G, R0, h.bind fun d1 ρ1 G1 H1 x e1 R1 p1 h1 => ⟨B, ρ1, G1, R1, h1.bind fun d2 ρ2 G2 H2 y e2 R2 p2 h2 => ?_⟩⟩
  have p1 := p1.mono e2.gg
  cases p1 with
  | lst h r =>
    cases p2 with
    | lst h' r' =>
      obtain ⟨hz, h2⟩ := ite_postF h2
      exact ⟨_, _, _, _, rfl, rfl, R2.gk _ _ h, R2.gk _ _ h', by rw [r.length, r'.length]; exact hz, fun p hp => h2.fin R2 (Ext.refl _ _) hp ⟨_, rfl, r.append r'⟩⟩
    | _ => exact h2.elim
  | _ => cases d2 <;> exact h2.elim
end

/-! ### targets -/
/-- other slots are as they were -/
def Oth (sl : List Nat) (σ σ' : St) : Prop := σ'.length = σ.length ∧ ∀ j, j ∉ sl → σ'[j]? = σ[j]?
def rG (K : PySem.W.Frag) (cc : Cc) (sl : List Nat) (gd : D → ENV → Option ENV) : TG := fun v σ H Q => ∃ B ρ G d ρ', Rl K cc B ρ σ G H ∧ Rp K cc.C G v d ∧ gd d ρ = some ρ' ∧ ∀ σ', Rl K cc B ρ' σ' G H → Oth sl σ σ' → Q σ' H
def rGs (K : PySem.W.Frag) (cc : Cc) (sl : List Nat) (gd : List D → ENV → Option ENV) : TGs := fun vs σ H Q => ∃ B ρ G ds ρ', Rl K cc B ρ σ G H ∧ RpL K cc.C G vs ds ∧ gd ds ρ = some ρ' ∧ ∀ σ', Rl K cc B ρ' σ' G H → Oth sl σ σ' → Q σ' H
def DG (X : Cx) (cc : Cc) (tg : Expr) (sl : List Nat) (gd : D → ENV → Option ENV) : Prop := PG X tg (rG X.K cc sl gd)
def DGs (X : Cx) (cc : Cc) (tgs : List Expr) (sl : List Nat) (gd : List D → ENV → Option ENV) : Prop := PGs X tgs (rGs X.K cc sl gd)
theorem PG.imp {X : Cx} {e : Expr} {t t' : TG} (h : PG X e t) (k : ∀ v σ H Q, t' v σ H Q → t v σ H Q) : PG X e t' := ⟨fun pins s σ H v u Q I r q => h.run pins s σ H v u Q I r (k _ _ _ _ q)⟩
theorem PGs.imp {X : Cx} {e : List Expr} {t t' : TGs} (h : PGs X e t) (k : ∀ v σ H Q, t' v σ H Q → t v σ H Q) : PGs X e t' := ⟨fun pins s σ H v u Q I r q => h.run pins s σ H v u Q I r (k _ _ _ _ q)⟩
def gSet (i : Nat) : D → ENV → Option ENV := fun d ρ => if i < ρ.length then some (ρ.set i (some (.sh d))) else none
theorem Rl.store {K : PySem.W.Frag} {cc : Cc} {B : Hp} {ρ : ENV} {σ : St} {G H : Hp} {i : Nat} {v : V} {d : D} (r : Rl K cc B ρ σ G H) (hi : i < ρ.length) (hp : i ∉ cc.pr) (p : Rp K cc.C G v d) : Rl K cc B (ρ.set i (some (.sh d))) (σ.set i (some v)) G H := by
  have hi' : i < σ.length := by rw [r.ln]; exact hi
  have old : ∀ (j : Nat) (m : M), (ρ.set i (some (.sh d)))[j]? = some (some (.ow m)) → j ≠ i ∧ ρ[j]? = some (some (.ow m)) := fun j m q => by
    by_cases h : j = i
    · subst h; rw [List.getElem?_set_self hi] at q; cases q
    · rw [List.getElem?_set_ne (Ne.symm h)] at q; exact ⟨h, q⟩
  refine ⟨r.bk, r.gk, by rw [List.length_set, List.length_set]; exact r.ln, fun j e q => ?_, fun j m q => ?_, fun j k m m' q q1 q2 q3 q4 => ?_, fun j hj => ?_, r.kg⟩
  · by_cases h : j = i
    · subst h
      rw [List.getElem?_set_self hi] at q; cases q
      exact ⟨v, by rw [List.getElem?_set_self hi'], p⟩
    · rw [List.getElem?_set_ne (Ne.symm h)] at q
      obtain ⟨v', h1, h2⟩ := r.sh j e q
      exact ⟨v', by rw [List.getElem?_set_ne (Ne.symm h)]; exact h1, h2⟩
  · obtain ⟨h, q⟩ := old j m q
    obtain ⟨p', h1, o⟩ := r.ow j m q
    exact ⟨p', by rw [List.getElem?_set_ne (Ne.symm h)]; exact h1, o⟩
  · obtain ⟨h, q1⟩ := old j m q1
    obtain ⟨h', q2⟩ := old k m' q2
    rw [List.getElem?_set_ne (Ne.symm h)] at q3
    rw [List.getElem?_set_ne (Ne.symm h')] at q4
    exact r.df j k m m' q q1 q2 q3 q4
  · have h : j ≠ i := fun z => by subst z; exact hp hj
    rw [List.getElem?_set_ne (Ne.symm h)]
    exact r.pa j hj
theorem Rl.storeO {K : PySem.W.Frag} {cc : Cc} {B : Hp} {ρ : ENV} {σ : St} {G H : Hp} {i : Nat} {p : Addr} {m : M} (r : Rl K cc B ρ σ G H) (hi : i < ρ.length) (hp : i ∉ cc.pr) (o : Own K cc.C B G H p m)
    (nf : ∀ (i : Nat) (m' : M), ρ[i]? = some (some (.ow m')) → σ[i]? ≠ some (some (.ref p))) : Rl K cc B (ρ.set i (some (.ow m))) (σ.set i (some (.ref p))) G H := by
  have hi' : i < σ.length := by rw [r.ln]; exact hi
  refine ⟨r.bk, r.gk, by rw [List.length_set, List.length_set]; exact r.ln, fun j e q => ?_, fun j m' q => ?_, fun j k m1 m2 q q1 q2 q3 q4 => ?_, fun j hj => ?_, r.kg⟩
  · by_cases h : j = i
    · subst h; rw [List.getElem?_set_self hi] at q; cases q
    · rw [List.getElem?_set_ne (Ne.symm h)] at q
      obtain ⟨v', h1, h2⟩ := r.sh j e q
      exact ⟨v', by rw [List.getElem?_set_ne (Ne.symm h)]; exact h1, h2⟩
  · by_cases h : j = i
    · subst h
      rw [List.getElem?_set_self hi] at q; cases q
      exact ⟨p, by rw [List.getElem?_set_self hi'], o⟩
    · rw [List.getElem?_set_ne (Ne.symm h)] at q
      obtain ⟨p', h1, o'⟩ := r.ow j m' q
      exact ⟨p', by rw [List.getElem?_set_ne (Ne.symm h)]; exact h1, o'⟩
  · by_cases h : j = i
    · by_cases h' : k = i
      · exact h.trans h'.symm
      · subst h
        rw [List.getElem?_set_self hi'] at q3; cases q3
        rw [List.getElem?_set_ne (Ne.symm h')] at q2 q4
        exact absurd q4 (nf k m2 q2)
    · rw [List.getElem?_set_ne (Ne.symm h)] at q1 q3
      by_cases h' : k = i
      · subst h'
        rw [List.getElem?_set_self hi'] at q4; cases q4
        exact absurd q3 (nf j m1 q1)
      · rw [List.getElem?_set_ne (Ne.symm h')] at q2 q4
        exact r.df j k m1 m2 q q1 q2 q3 q4
  · have h : j ≠ i := fun z => by subst z; exact hp hj
    rw [List.getElem?_set_ne (Ne.symm h)]
    exact r.pa j hj
section
variable {X : Cx} {cc : Cc} {pos : Pos}
theorem np {cc : Cc} {i : Nat} (h : cc.pr.contains i = false) : i ∉ cc.pr := fun z => by
  have := List.contains_iff_mem.mpr z
  rw [h] at this; cases this
theorem dg_name {i : Nat} {x : Str} (hN : X.N.Nodup) (hi : X.N[i]? = some x) (hx : Loc X.env.scope x) (hp : cc.pr.contains i = false) (hf : X.fn x = true ∨ X.env.scope.names.lookup x = some .local := by first | exact .inl rfl | exact .inr rfl | assumption) : DG X cc (.Name x pos) [i] (gSet i) := by
  refine PG.imp (pg_name hN hi hx hf) fun v σ H Q ⟨B, ρ, G, d, ρ', R0, p, e, k⟩ => ?_
  unfold gSet at e
  split at e
  · rename_i h; cases e; exact k _ (R0.store h (np hp) p) ⟨by rw [List.length_set], fun j hj => List.getElem?_set_ne (fun z => hj (by simp [z]))⟩
  · cases e
def gsNil : List D → ENV → Option ENV := fun ds ρ => match ds with
  | [] => some ρ
  | _ => none
def gsCons (g : D → ENV → Option ENV) (gs : List D → ENV → Option ENV) : List D → ENV → Option ENV := fun ds ρ => match ds with
  | d :: r => (g d ρ).bind fun ρ1 => gs r ρ1
  | _ => none
theorem dgs_nil : DGs X cc [] [] gsNil := PGs.imp pgs_nil fun v σ H Q ⟨B, ρ, G, d, ρ', R0, p, e, k⟩ => by
  cases p with
  | nil => cases e; exact ⟨rfl, k σ R0 ⟨rfl, fun _ _ => rfl⟩⟩
  | cons _ _ => cases e
theorem dgs_cons {e : Expr} {es : List Expr} {s1 s2 : List Nat} {g : D → ENV → Option ENV} {gs : List D → ENV → Option ENV} (h1 : DG X cc e s1 g) (h2 : DGs X cc es s2 gs)
    (hs : (assignEach (e :: es) X.env).map (·.2) = assign e X.env :: (assignEach es X.env).map (·.2) := by rfl) : DGs X cc (e :: es) (s1 ++ s2) (gsCons g gs) := PGs.imp (pgs_cons h1 h2 hs) fun v σ H Q ⟨B, ρ, G, d, ρ', R0, p, e, k⟩ => by
  cases p with
  | nil => cases e
  | @cons v d vs ds p r =>
    cases hg : g d ρ with
    | none => simp only [gsCons, hg, Option.bind_none] at e; cases e
    | some ρ1 =>
      simp only [gsCons, hg, Option.bind_some] at e
      exact ⟨_, _, rfl, B, ρ, G, d, ρ1, R0, p, hg, fun σ' R1 o1 => ⟨B, ρ1, G, ds, ρ', R1, r, e, fun σ'' R2 o2 => k σ'' R2 ⟨o2.1.trans o1.1, fun j hj => (o2.2 j fun z => hj (List.mem_append_right _ z)).trans (o1.2 j fun z => hj (List.mem_append_left _ z))⟩⟩⟩
/-- (a, b, ..) = a tuple or a list of that length -/
def gSeq (n : Nat) (gs : List D → ENV → Option ENV) : D → ENV → Option ENV := fun d ρ => match d with
  | .tup ds => if ds.length = n then gs ds ρ else none
  | .lst ds => if ds.length = n then gs ds ρ else none
  | _ => none
def tSq (K : PySem.W.Frag) (n : Nat) (t : TGs) : TG := fun v σ H Q => ∃ a xs, v = .ref a ∧ (SqT K H a xs ∨ SqL K H a xs) ∧ xs.length = n ∧ t xs σ H Q
theorem pg_sq {es : List Expr} {k : Nat} {t : TGs} {n : Nat} (hc : X.calm = true) (h : PGs X es t)
    (hn : (assignEach es X.env).length = n := by rfl) (hst : (assignEach es X.env).findIdx? (·.1) = none := by rfl) : PG X (.Tuple es k pos) (tSq X.K n t) := by
  refine ⟨fun pins s σ H v u Q I r ⟨a, xs, e1, hq, hl, hw⟩ => ?_⟩
  rcases hq with hq | hq
  · exact (pg_tup hc h hn hst).run pins s σ H v u Q I r ⟨a, xs, e1, hq, hl, hw⟩
  · exact (pg_lst hc h hn hst).run pins s σ H v u Q I r ⟨a, xs, e1, hq, hl, hw⟩
theorem dg_seq {es : List Expr} {k n : Nat} {sl : List Nat} {gs : List D → ENV → Option ENV} (hc : X.calm = true) (h : DGs X cc es sl gs) (hn : (assignEach es X.env).length = n := by rfl) (hst : (assignEach es X.env).findIdx? (·.1) = none := by rfl) : DG X cc (.Tuple es k pos) sl (gSeq n gs) := by
  refine PG.imp (pg_sq hc h hn hst) fun v σ H Q ⟨B, ρ, G, d, ρ', R0, p, e, k⟩ => ?_
  cases p with
  | tup h r =>
    dsimp only [gSeq] at e
    split at e
    · rename_i hl; exact ⟨_, _, rfl, .inl (same_seqT R0.gk h), by rw [r.length]; exact hl, B, ρ, G, _, ρ', R0, r, e, k⟩
    · cases e
  | lst h r =>
    dsimp only [gSeq] at e
    split at e
    · rename_i hl; exact ⟨_, _, rfl, .inr (.inl (.inl (R0.gk _ _ h))), by rw [r.length]; exact hl, B, ρ, G, _, ρ', R0, r, e, k⟩
    · cases e
  | _ => cases e
end

/-! ### walks -/
structure Wk (K : PySem.W.Frag) (C : Nat → Addr) (G : Hp) (J : It) (ds : List D) : Prop where
  ex : ∃ (g : Hp → Prop) (Y : Nat → Hp → V → Hp → Prop), Walk J ds.length g Y ∧ (∀ G2 H2, Same G G2 → Same G2 H2 → g H2) ∧
    ∀ (i : Nat) G2 H2 x H3, i < ds.length → Same G G2 → Same G2 H2 → Y i H2 x H3 → ∃ d G3, ds[i]? = some d ∧ Grow G2 H2 G3 H3 ∧ Rp K C G3 x d
def rI (K : PySem.W.Frag) (cc : Cc) (den : ENV → R (List D)) : TI := fun σ H Q => ∃ B ρ G, Rl K cc B ρ σ G H ∧ Post K cc (fun G' J ds => Wk K cc.C G' J ds) B G σ Q (den ρ)
def DI (X : Cx) (cc : Cc) (tg iter : Expr) (den : ENV → R (List D)) : Prop := PI X tg iter (rI X.K cc den)
theorem PI.imp {X : Cx} {tg e : Expr} {t t' : TI} (h : PI X tg e t) (k : ∀ σ H Q, t' σ H Q → t σ H Q) : PI X tg e t' := ⟨fun pins s σ H Q I q => h.run pins s σ H Q I (k _ _ _ q)⟩
/-- a text's signs -/
def signs (x : Str) : List D := x.cps.toList.map fun c => .str ⟨#[c]⟩
/-- the items of a list, a tuple or a text -/
def items : D → Option (List D)
  | .str x => some (signs x)
  | .lst ds => some ds
  | .scr ds => some ds
  | .tup ds => some ds
  | _ => none
def dItems (da : ENV → R D) : ENV → R (List D) := fun ρ => (da ρ).bind fun x ρ1 => R.of (items x) ρ1
def iSq (K : PySem.W.Frag) (tl : TE) : TI := fun σ H R => tl σ H fun x H1 => (∃ a, x = .ref a ∧ (((∃ xs, SqL K H1 a xs) ∧ R (Itl K a) H1) ∨ ((∃ xs, SqT K H1 a xs) ∧ R (Itt K a) H1))) ∨ ∃ z, x = .str z ∧ R (Its z) H1
section
variable {X : Cx} {cc : Cc} {tg a b e : Expr} {da db : ENV → R D} {pos : Pos}
theorem pi_sq {l : Expr} {tl : TE} (hl : PE X l tl) : PI X tg l (iSq X.K tl) := by
  refine ⟨fun pins s σ H R I h => ?_⟩
  refine thn (hl.run pins s σ H _ I h) fun v s1 ⟨x, H1, I1, r1, q1⟩ => ?_
  rcases q1 with ⟨a, e, q⟩ | ⟨z, e, q⟩
  rotate_left
  · subst e
    obtain ⟨t, rfl⟩ := r1
    by_cases ha : z.cps.all (· < 128) = true
    · exact wpAny_pyIter_ascii ha (pi_one (tk := s1.toks) I1 _ (turn_str _ z t "str_ascii_iterator" (.inl rfl)) ⟨_, Heap.get?_push_size _ rfl, rfl, rfl⟩ q)
    · exact wpAny_pyIter_wide (by simpa using ha) (pi_one (tk := s1.toks) I1 _ (turn_str _ z t "str_iterator" (.inr rfl)) ⟨_, Heap.get?_push_size _ rfl, rfl, rfl⟩ q)
  subst e
  cases r1
  rcases q with ⟨⟨xs, hq⟩, q⟩ | ⟨⟨xs, hq⟩, q⟩
  · obtain ⟨its, rv, p, hz⟩ := I1.list hq
    refine wpAny_pyIter_list p.isList ?_
    refine ⟨s1.heap.objs.size, [s1.heap.objs.size], _, _, H1, rfl, I1.kept (t' := s1.toks) fun b o e => Heap.get?_push_of_some _ e, turn_list a _, ⟨_, Heap.get?_push_size _ rfl, rfl, rfl⟩, fun b hb => ?_, q⟩
    have e : b = s1.heap.objs.size := by simpa using hb
    subst e
    exact I1.fpOk (Nat.le_refl _) (I1.hok.fresh (Nat.le_refl _))
  · obtain ⟨its, rv, p, hz⟩ := I1.tuple hq
    refine wpAny_pyIter_tuple (show s1.heap.IsTuple a its.toArray from p) ?_
    refine ⟨s1.heap.objs.size, [s1.heap.objs.size], _, _, H1, rfl, I1.kept (t' := s1.toks) fun b o e => Heap.get?_push_of_some _ e, turn_tuple a _, ⟨_, Heap.get?_push_size _ rfl, rfl, rfl⟩, fun b hb => ?_, q⟩
    have e : b = s1.heap.objs.size := by simpa using hb
    subst e
    exact I1.fpOk (Nat.le_refl _) (I1.hok.fresh (Nat.le_refl _))
theorem wk_list {K : PySem.W.Frag} {C : Nat → Addr} {G : Hp} {a : Addr} {xs : List V} {ds : List D} (h : SqL K G a xs) (r : RpL K C G xs ds) : Wk K C G (Itl K a) ds := by
  refine ⟨_, _, by rw [← r.length]; exact walk_list (xs := xs), fun G2 H2 s s2 => Same.seq s2 (Same.seq s h), fun i G2 H2 x H3 hi s s2 y => ?_⟩
  obtain ⟨rfl, y⟩ := y
  obtain ⟨d, hd, p⟩ := r.getV y
  exact ⟨d, G2, hd, Grow.refl s2, p.mono s⟩
theorem wk_tup {K : PySem.W.Frag} {C : Nat → Addr} {G : Hp} {a : Addr} {xs : List V} {ds : List D} (h : SqT K G a xs) (r : RpL K C G xs ds) : Wk K C G (Itt K a) ds := by
  refine ⟨_, _, by rw [← r.length]; exact walk_tup (xs := xs), fun G2 H2 s s2 => same_seqT s2 (same_seqT s h), fun i G2 H2 x H3 hi s s2 y => ?_⟩
  obtain ⟨rfl, y⟩ := y
  obtain ⟨d, hd, p⟩ := r.getV y
  exact ⟨d, G2, hd, Grow.refl s2, p.mono s⟩
theorem wk_str {K : PySem.W.Frag} {C : Nat → Addr} {G : Hp} {z : Str} : Wk K C G (Its z) (signs z) := by
  have hl : (signs z).length = z.cps.size := by simp [signs]
  refine ⟨_, _, by rw [hl]; exact walk_str, fun _ _ _ _ => trivial, fun i G2 H2 x H3 hi s s2 y => ?_⟩
  obtain ⟨rfl, c, hc, rfl⟩ := y
  exact ⟨.str ⟨#[c]⟩, G2, by simp [signs, hc], Grow.refl s2, .str _ (by show 1 ≤ sizeLine; rw [sizeLine_eq]; omega)⟩
theorem di_seq (ha : DE X cc a da) : DI X cc tg a (dItems da) := by
  refine PI.imp (pi_sq ha) fun σ H Q ⟨B, ρ, G, R0, h⟩ => ⟨B, ρ, G, R0, Post.bind (V2 := fun G' J ds => Wk X.K cc.C G' J ds) h fun d1 ρ1 G1 H1 x e1 R1 p1 h1 => ?_⟩
  cases p1 with
  | lst h r => exact .inl ⟨_, rfl, .inl ⟨⟨_, .inl (.inl (R1.gk _ _ h))⟩, h1 _ G1 H1 (Ext.refl _ _) R1 (wk_list (.inl (.inl h)) r)⟩⟩
  | scr h r => exact .inl ⟨_, rfl, .inl ⟨⟨_, Same.seq R1.gk h⟩, h1 _ G1 H1 (Ext.refl _ _) R1 (wk_list h r)⟩⟩
  | tup h r => exact .inl ⟨_, rfl, .inr ⟨⟨_, same_seqT R1.gk h⟩, h1 _ G1 H1 (Ext.refl _ _) R1 (wk_tup h r)⟩⟩
  | str z hz => exact .inr ⟨z, rfl, h1 _ G1 H1 (Ext.refl _ _) R1 wk_str⟩
  | _ => exact h1.elim
def rng (lo hi : Int) : List D := (List.range (hi - lo).toNat).map fun i => .int (lo + (i : Nat))
def rngOk (i : Int) : Bool := decide (-(2 ^ 62) ≤ i) && decide (i < 2 ^ 62)
def dRng1 (da : ENV → R D) : ENV → R (List D) := fun ρ => (da ρ).bind fun x ρ1 => match x with
  | .int j => if rngOk j = true then .ok (rng 0 j) ρ1 else .bot
  | _ => .bot
def dRng2 (da db : ENV → R D) : ENV → R (List D) := fun ρ => (da ρ).bind fun x ρ1 => (db ρ1).bind fun y ρ2 => match x, y with
  | .int i, .int j => if rngOk i = true ∧ rngOk j = true then .ok (rng i j) ρ2 else .bot
  | _, _ => .bot
theorem wk_range {K : PySem.W.Frag} {C : Nat → Addr} {G : Hp} (lo hi : Int) : Wk K C G (Itr lo (hi - lo).toNat) (rng lo hi) := by
  have hl : (rng lo hi).length = (hi - lo).toNat := by unfold rng; rw [List.length_map, List.length_range]
  refine ⟨_, _, by rw [hl]; exact walk_range, fun _ _ _ _ => trivial, fun i G2 H2 x H3 hi' s s2 y => ?_⟩
  obtain ⟨rfl, rfl⟩ := y
  rw [hl] at hi'
  exact ⟨.int (lo + (i : Nat)), G2, by unfold rng; rw [List.getElem?_map, List.getElem?_range hi']; rfl, Grow.refl s2, .int _⟩
theorem rngOk_of {i : Int} (h : rngOk i = true) : -(2 ^ 62) ≤ i ∧ i < 2 ^ 62 := by
  unfold rngOk at h
  simp only [Bool.and_eq_true, decide_eq_true_eq] at h
  exact h
theorem di_rng1 {p : Pos} (hg : Gl X "range") (hm : X.mg "range" = none) (ha : DE X cc a da) (hs : starEach [a] X.env = [(false, eval a X.env)] := by rfl) (hs2 : starEach [a] X.env = (false, eval a X.env) :: starEach [] X.env := by rfl) : DI X cc tg (.Call (.Name "range" p) [a] [] pos) (dRng1 da) := by
  refine PI.imp (pi_range1 hg hm (pa_cons ha pa_nil hs2) hs) fun σ H Q ⟨B, ρ, G, R0, h⟩ => ⟨B, ρ, G, R0, Post.bind (V2 := fun G' J ds => Wk X.K cc.C G' J ds) h fun d1 ρ1 G1 H1 x e1 R1 p1 h1 => ?_⟩
  cases p1 with
  | int j =>
    obtain ⟨hz, h1⟩ := ite_post h1
    obtain ⟨z1, z2⟩ := rngOk_of hz
    have w := wk_range (K := X.K) (C := cc.C) (G := G1) 0 j
    rw [Int.sub_zero] at w
    exact ⟨j, rfl, z1, z2, h1 _ G1 H1 (Ext.refl _ _) R1 w⟩
  | _ => exact h1.elim
theorem di_rng2 {p : Pos} (hg : Gl X "range") (hm : X.mg "range" = none) (ha : DE X cc a da) (hb : DE X cc b db) (hs : starEach [a, b] X.env = [(false, eval a X.env), (false, eval b X.env)] := by rfl) (hs2 : starEach [b] X.env = [(false, eval b X.env)] := by rfl)
    (hs3 : starEach [a, b] X.env = (false, eval a X.env) :: starEach [b] X.env := by rfl) (hs4 : starEach [b] X.env = (false, eval b X.env) :: starEach [] X.env := by rfl) : DI X cc tg (.Call (.Name "range" p) [a, b] [] pos) (dRng2 da db) := by
  refine PI.imp (pi_range2 hg hm (pa_cons ha (pa_cons hb pa_nil hs4) hs3) hs hs2) fun σ H Q ⟨B, ρ, G, R0, h⟩ => ⟨B, ρ, G, R0, Post.bind (V2 := fun G' J ds => Wk X.K cc.C G' J ds) h fun d1 ρ1 G1 H1 x e1 R1 p1 h1 => ⟨B, ρ1, G1, R1, Post.bind (V2 := fun G' J ds => Wk X.K cc.C G' J ds) h1 fun d2 ρ2 G2 H2 y e2 R2 p2 h2 => ?_⟩⟩
  cases p1 with
  | int i =>
    cases p2 with
    | int j =>
      obtain ⟨⟨hz, hz'⟩, h2⟩ := ite_post h2
      obtain ⟨z1, z2⟩ := rngOk_of hz
      obtain ⟨z3, z4⟩ := rngOk_of hz'
      exact ⟨i, j, rfl, ⟨z1, z2, z3, z4⟩, h2 _ G2 H2 (Ext.refl _ _) R2 (wk_range i j)⟩
    | _ => exact h2.elim
  | _ => cases d2 <;> exact h2.elim
end
end Rf
set_option Elab.async false
set_option linter.all false
set_option maxRecDepth 100000
/-! Rf: comprehensions -/
namespace Rf
open PySem PySem.Spec L2
def wipeE (ρ : ENV) : List Nat → ENV
  | [] => ρ
  | v :: vs => (wipeE ρ vs).set v none
/-- the block's own slots as they were outside -/
def back (ρ : ENV) : List Nat → ENV → ENV
  | [], ρ' => ρ'
  | v :: vs, ρ' => (back ρ vs ρ').set v (match ρ[v]? with | some (some (.sh d)) => some (.sh d) | _ => none)
def noOwn (ρ : ENV) (vs : List Nat) : Bool := vs.all fun v => match ρ[v]? with | some (some (.ow _)) => false | _ => true
def compL (g : D → ENV → Option ENV) (tt : ENV → R Bool) (te : ENV → R D) (vs : List Nat) : List D → List D → ENV → R (List D)
  | [], acc, ρ => .ok acc ρ
  | d :: ds, acc, ρ => match g d (wipeE ρ vs) with
    | none => .bot
    | some ρ1 => match tt ρ1 with
      | .ok true ρ2 => match te ρ2 with
        | .ok y ρ3 => if acc.length < sizeLine then compL g tt te vs ds (acc ++ [y]) ρ3 else .bot
        | _ => .bot
      | .ok false ρ2 => compL g tt te vs ds acc ρ2
      | _ => .bot
def fLc (di : ENV → R (List D)) (g : D → ENV → Option ENV) (tt : ENV → R Bool) (te : ENV → R D) (vs : List Nat) : ENV → R M := fun ρ => (di ρ).bind fun ds ρ1 => match noOwn ρ1 vs, compL g tt te vs ds [] ρ1 with
  | true, .ok acc ρ2 => .ok (.lst acc) (back ρ1 vs ρ2)
  | _, _ => .bot
theorem wipeE_length (ρ : ENV) : ∀ vs : List Nat, (wipeE ρ vs).length = ρ.length
  | [] => rfl
  | v :: vs => by unfold wipeE; rw [List.length_set, wipeE_length ρ vs]
theorem back_length (ρ ρ' : ENV) : ∀ vs : List Nat, (back ρ vs ρ').length = ρ'.length
  | [] => rfl
  | v :: vs => by unfold back; rw [List.length_set, back_length ρ ρ' vs]
theorem wipeE_some {ρ : ENV} {i : Nat} {x : DV} : ∀ {vs : List Nat}, (wipeE ρ vs)[i]? = some (some x) → ρ[i]? = some (some x) ∧ i ∉ vs
  | [], h => ⟨h, by simp⟩
  | v :: vs, h => by
    unfold wipeE at h
    by_cases hi : v = i
    · subst hi
      by_cases hv : v < (wipeE ρ vs).length
      · rw [List.getElem?_set_self hv] at h; cases h
      · rw [List.getElem?_eq_none (by simpa using hv)] at h; cases h
    · rw [List.getElem?_set_ne hi] at h
      obtain ⟨h1, h2⟩ := wipeE_some h
      exact ⟨h1, by simp only [List.mem_cons, not_or]; exact ⟨fun e => hi e.symm, h2⟩⟩
theorem wipe_keep {σ : St} {i : Nat} : ∀ {vs : List Nat}, i ∉ vs → (wipe σ vs)[i]? = σ[i]?
  | [], _ => rfl
  | v :: vs, h => by
    unfold wipe
    rw [List.getElem?_set_ne (fun e => h (by rw [e]; exact List.mem_cons_self)), wipe_keep fun z => h (List.mem_cons_of_mem _ z)]
/-- what back gives -/
theorem back_some {ρ ρ' : ENV} {i : Nat} {x : DV} : ∀ {vs : List Nat}, (back ρ vs ρ')[i]? = some (some x) → (ρ'[i]? = some (some x) ∧ i ∉ vs) ∨ ((∃ d, x = .sh d) ∧ ρ[i]? = some (some x))
  | [], h => .inl ⟨h, by simp⟩
  | v :: vs, h => by
    unfold back at h
    by_cases hi : v = i
    · subst hi
      by_cases hv : v < (back ρ vs ρ').length
      · rw [List.getElem?_set_self hv] at h
        have h := Option.some.inj h
        split at h
        · rename_i d e; cases h; exact .inr ⟨⟨d, rfl⟩, e⟩
        · cases h
      · rw [List.getElem?_eq_none (by simpa using hv)] at h; cases h
    · rw [List.getElem?_set_ne hi] at h
      rcases back_some h with ⟨h1, h2⟩ | h
      · exact .inl ⟨h1, by simp only [List.mem_cons, not_or]; exact ⟨fun e => hi e.symm, h2⟩⟩
      · exact .inr h
/-- within a block: nothing is raised, nothing is protected -/
def Cc.inner (cc : Cc) : Cc := { cc with W := fun _ _ _ _ => False, pr := [] }
theorem Rl.wiped {K : PySem.W.Frag} {cc : Cc} {B : Hp} {ρ : ENV} {σ : St} {G H : Hp} (r : Rl K cc B ρ σ G H) (vs : List Nat) : Rl K cc.inner B (wipeE ρ vs) (wipe σ vs) G H := by
  refine ⟨r.bk, r.gk, by rw [wipe_length, wipeE_length]; exact r.ln, fun i d e => ?_, fun i m e => ?_, fun i j m m' p e1 e2 e3 e4 => ?_, fun i h => absurd h (by simp [Cc.inner]), r.kg⟩
  · obtain ⟨h1, h2⟩ := wipeE_some e
    rw [wipe_keep h2]
    exact r.sh i d h1
  · obtain ⟨h1, h2⟩ := wipeE_some e
    rw [wipe_keep h2]
    exact r.ow i m h1
  · obtain ⟨h1, h2⟩ := wipeE_some e1
    obtain ⟨h3, h4⟩ := wipeE_some e2
    rw [wipe_keep h2] at e3
    rw [wipe_keep h4] at e4
    exact r.df i j m m' p h1 h3 e3 e4
theorem Cc.inner_inner (cc : Cc) : cc.inner.inner = cc.inner := rfl
/-- an object that the relation does not speak of is tracked and kept -/
theorem Rl.hold {K : PySem.W.Frag} {cc : Cc} {B : Hp} {ρ : ENV} {σ : St} {G H : Hp} {D : Addr} {o : HO} (r : Rl K cc B ρ σ G H) (h : H D = some o) (hn : ∀ (i : Nat) (m : M), ρ[i]? = some (some (.ow m)) → σ[i]? ≠ some (some (.ref D))) : Rl K cc (upd B D o) ρ σ G H := by
  refine ⟨fun b u e => ?_, r.gk, r.ln, r.sh, fun i m e => ?_, r.df, r.pa, r.kg⟩
  · by_cases q : b = D
    · subst q; rw [upd_same] at e; cases e; exact h
    · rw [upd_ne q] at e; exact r.bk b u e
  · obtain ⟨p, h1, o'⟩ := r.ow i m e
    have ne : p ≠ D := fun z => by subst z; exact hn i m e h1
    exact ⟨p, h1, by rw [upd_ne ne]; exact o'.nb, o'.ng, o'.at_⟩
theorem Ext.unhold {B G G' : Hp} {D : Addr} {o : HO} (e : Ext (upd B D o) G G') : Ext B G G' := ⟨e.gg, fun a u h => by
  rcases e.nb a u h with h | h
  · exact .inl h
  · by_cases q : a = D
    · subst q; rw [upd_same] at h; cases h
    · rw [upd_ne q] at h; exact .inr h⟩
/-- .. it is written -/
theorem Rl.rewrite {K : PySem.W.Frag} {cc : Cc} {B : Hp} {ρ : ENV} {σ : St} {G H : Hp} {D : Addr} {o o' : HO} (r : Rl K cc (upd B D o) ρ σ G H) (hg : G D = none) : Rl K cc (upd B D o') ρ σ G (upd H D o') := by
  refine ⟨fun b u e => ?_, fun b u e => ?_, r.ln, r.sh, fun i m e => ?_, r.df, r.pa, r.kg⟩
  · by_cases q : b = D
    · subst q; rw [upd_same] at e ⊢; exact e
    · rw [upd_ne q] at e ⊢; exact r.bk b u (by rw [upd_ne q]; exact e)
  · have q : b ≠ D := fun z => by subst z; rw [hg] at e; cases e
    rw [upd_ne q]; exact r.gk b u e
  · obtain ⟨p, h1, o⟩ := r.ow i m e
    have q : p ≠ D := fun z => by
      subst z
      have := o.nb
      rw [upd_same] at this; cases this
    obtain ⟨x, hx, hm⟩ := o.at_
    exact ⟨p, h1, by have := o.nb; rw [upd_ne q] at this ⊢; exact this, o.ng, x, by rw [upd_ne q]; exact hx, hm⟩
theorem Rl.unhold {K : PySem.W.Frag} {cc : Cc} {B : Hp} {ρ : ENV} {σ : St} {G H : Hp} {D : Addr} {o : HO} (r : Rl K cc (upd B D o) ρ σ G H) (hb : B D = none) : Rl K cc B ρ σ G H ∧ ∀ (i : Nat) (m : M), ρ[i]? = some (some (.ow m)) → σ[i]? ≠ some (some (.ref D)) := by
  have ne : ∀ (i : Nat) (m : M), ρ[i]? = some (some (.ow m)) → ∀ p, σ[i]? = some (some (.ref p)) → p ≠ D ∧ Own K cc.C (upd B D o) G H p m := fun i m e p hp => by
    obtain ⟨p', h1, o'⟩ := r.ow i m e
    rw [hp] at h1; cases h1
    refine ⟨fun z => ?_, o'⟩
    subst z
    have := o'.nb
    rw [upd_same] at this; cases this
  refine ⟨⟨fun b u e => r.bk b u ?_, r.gk, r.ln, r.sh, fun i m e => ?_, r.df, r.pa, r.kg⟩, fun i m e z => (ne i m e D z).1 rfl⟩
  · have q : b ≠ D := fun z => by subst z; rw [hb] at e; cases e
    rw [upd_ne q]; exact e
  · obtain ⟨p, h1, _⟩ := r.ow i m e
    obtain ⟨h2, o'⟩ := ne i m e p h1
    exact ⟨p, h1, by have := o'.nb; rw [upd_ne h2] at this; exact this, o'.ng, o'.at_⟩
section
variable {X : Cx} {cc : Cc}
def DTs (X : Cx) (cc : Cc) (ifs : List Expr) (den : ENV → R Bool) : Prop := PTs X ifs (rT X.K cc den)
theorem PTs.imp {ifs : List Expr} {t t' : TT} (h : PTs X ifs t) (k : ∀ σ H Q, t' σ H Q → t σ H Q) : PTs X ifs t' := ⟨fun pins s σ H Q I q => h.run pins s σ H Q I (k _ _ _ q)⟩
def dYes : ENV → R Bool := fun ρ => .ok true ρ
theorem dts_nil : DTs X cc [] dYes := PTs.imp pts_nil fun σ H Q ⟨B, ρ, G, R0, h⟩ => h true G H (Ext.refl _ _) R0 rfl
theorem dts_one {c : Expr} {t : ENV → R Bool} (h : DT X cc c t) : DTs X cc [c] t := pts_one h
theorem wipeE_keep {ρ : ENV} {i : Nat} : ∀ {vs : List Nat}, i ∉ vs → (wipeE ρ vs)[i]? = ρ[i]?
  | [], _ => rfl
  | v :: vs, h => by
    unfold wipeE
    rw [List.getElem?_set_ne (fun e => h (by rw [e]; exact List.mem_cons_self)), wipeE_keep fun z => h (List.mem_cons_of_mem _ z)]
theorem wipe_none {σ : St} {i : Nat} : ∀ {vs : List Nat}, i ∈ vs → i < σ.length → (wipe σ vs)[i]? = some none
  | [], h, _ => by cases h
  | v :: vs, h, hl => by
    unfold wipe
    by_cases e : v = i
    · subst e; rw [List.getElem?_set_self (by rw [wipe_length]; exact hl)]
    · rw [List.getElem?_set_ne e]
      rcases List.mem_cons.mp h with z | z
      · exact absurd z.symm e
      · exact wipe_none z hl
theorem wipe_oth {σ σ2 : St} {sl vs : List Nat} (o : Oth sl (wipe σ vs) σ2) (hs : ∀ i ∈ sl, i ∈ vs) : wipe σ2 vs = wipe σ vs := by
  have hl : σ2.length = σ.length := by rw [o.1, wipe_length]
  refine List.ext_getElem? fun i => ?_
  by_cases h : i ∈ vs
  · by_cases hi : i < σ.length
    · rw [wipe_none h (by rw [hl]; exact hi), wipe_none h hi]
    · rw [List.getElem?_eq_none (by rw [wipe_length]; omega), List.getElem?_eq_none (by rw [wipe_length]; omega)]
  · rw [wipe_keep h, o.2 i fun z => h (hs i z)]
theorem Rl.backed {K : PySem.W.Frag} {B : Hp} {ρ1 ρi : ENV} {σ : St} {G1 H1 Gi H : Hp} {vs : List Nat} (R1 : Rl K cc B ρ1 σ G1 H1) (R : Rl K cc.inner B (wipeE ρi vs) (wipe σ vs) Gi H) (s : Same G1 Gi) : Rl K cc B (back ρ1 vs ρi) σ Gi H := by
  have one : ∀ (i : Nat) (m : M), (back ρ1 vs ρi)[i]? = some (some (.ow m)) → (wipeE ρi vs)[i]? = some (some (.ow m)) ∧ (wipe σ vs)[i]? = σ[i]? := fun i m e => by
    rcases back_some e with ⟨h1, h2⟩ | ⟨⟨d, h⟩, _⟩
    · exact ⟨by rw [wipeE_keep h2]; exact h1, wipe_keep h2⟩
    · cases h
  refine ⟨R.bk, R.gk, ?_, fun i d e => ?_, fun i m e => ?_, fun i j m m' p e1 e2 e3 e4 => ?_, R1.pa, R.kg⟩
  · have h := R.ln
    rw [wipe_length, wipeE_length] at h
    rw [back_length]; exact h
  · rcases back_some e with ⟨h1, h2⟩ | ⟨_, h⟩
    · obtain ⟨v, q1, q2⟩ := R.sh i d (by rw [wipeE_keep h2]; exact h1)
      exact ⟨v, by rw [wipe_keep h2] at q1; exact q1, q2⟩
    · obtain ⟨v, q1, q2⟩ := R1.sh i d h
      exact ⟨v, q1, q2.mono s⟩
  · obtain ⟨h1, h2⟩ := one i m e
    obtain ⟨p, q1, q2⟩ := R.ow i m h1
    exact ⟨p, by rw [h2] at q1; exact q1, q2⟩
  · obtain ⟨h1, h2⟩ := one i m e1
    obtain ⟨h3, h4⟩ := one j m' e2
    exact R.df i j m m' p h1 h3 (by rw [h2]; exact e3) (by rw [h4]; exact e4)
theorem lc_ok {di : ENV → R (List D)} {g : D → ENV → Option ENV} {tt : ENV → R Bool} {te : ENV → R D} {vs sl : List Nat} (hsl : ∀ i ∈ sl, i ∈ vs) :
    ∀ σ H Q, rF X.K cc (fLc di g tt te vs) σ H Q → tLc (rI X.K cc di) (rG X.K cc.inner sl g) (rT X.K cc.inner tt) (rE X.K cc.inner te) vs σ H Q := by
  intro σ H Q ⟨B, ρ, G, R0, h⟩
  refine ⟨B, ρ, G, R0, h.bind fun ds ρ1 G1 H1 J e1 R1 w h1 => ?_⟩
  intro Da hD
  obtain ⟨gd, Y, wlk, hgd, hY⟩ := w.ex
  split at h1
  rotate_left
  · exact h1.elim
  rename_i acc0 ρ2 hno hcomp
  have bD : B Da = none := R1.bk.free hD
  have gD : G1 Da = none := R1.gk.free hD
  refine lc_it wlk (fun i H => ∃ ρi Gi acc av, Ext B G1 Gi ∧ Gi Da = none ∧ RpL X.K cc.C Gi av acc ∧ Rl X.K cc.inner (upd B Da (.lst av)) (wipeE ρi vs) (wipe σ vs) Gi H ∧
    compL g tt te vs (ds.drop i) acc ρi = .ok acc0 ρ2) ?_ ?_ ?_ ?_
  · have R1' := (R1.grow (Grow.newO (o := .lst []) R1.gk hD)).hold upd_same (R1.notAt hD)
    exact ⟨ρ1, G1, [], [], Ext.refl _ _, gD, .nil, R1'.wiped vs, hcomp⟩
  · rintro i H _ ⟨ρi, Gi, acc, av, ex, gn, r, R, hc⟩
    exact hgd Gi H ex.gg R.gk
  · rintro i x H H' hi ⟨ρi, Gi, acc, av, ex, gn, r, R, hc⟩ y
    obtain ⟨d, G3, hd, g3, p3⟩ := hY i Gi H x H' hi ex.gg R.gk y
    have hdrop : ds.drop i = d :: ds.drop (i + 1) := by
      obtain ⟨h1, h2⟩ := List.getElem?_eq_some_iff.mp hd
      rw [← h2]; exact List.drop_eq_getElem_cons h1
    rw [hdrop] at hc
    unfold compL at hc
    cases hgd' : g d (wipeE ρi vs) with
    | none => rw [hgd'] at hc; cases hc
    | some ρ1' =>
      rw [hgd'] at hc
      dsimp only at hc
      have R' := R.grow g3
      have x3 : Ext (upd B Da (.lst av)) Gi G3 := g3.ext R.bk
      refine ⟨_, _, G3, d, ρ1', R', p3, hgd', fun σ2 R2 o2 => ?_⟩
      have hwp : wipe σ2 vs = wipe σ vs := wipe_oth o2 hsl
      refine ⟨hwp, _, ρ1', G3, R2, ?_⟩
      have fin : ∀ {G5 : Hp}, Ext (upd B Da (.lst av)) Gi G5 → G5 Da = none := fun {G5} e => by
        cases q : G5 Da with
        | none => rfl
        | some u =>
          rcases e.nb Da u q with h | h
          · rw [gn] at h; cases h
          · rw [upd_same] at h; cases h
      cases ht : tt ρ1' with
      | exc _ _ => rw [ht] at hc; cases hc
      | bot => rw [ht] at hc; cases hc
      | ok b ρ2' =>
        rw [ht] at hc
        intro b' G4 H4 e4 R4 eb
        subst eb
        cases b' with
        | false =>
          dsimp only at hc
          refine iteF ⟨ρ2', G4, acc, av, ex.trans (x3.trans e4).unhold, fin (x3.trans e4), r.mono (x3.trans e4).gg, ?_, hc⟩
          have := R4.wiped vs
          rw [hwp] at this
          exact this
        | true =>
          dsimp only at hc
          refine iteT ⟨_, ρ2', G4, R4, ?_⟩
          cases hte : te ρ2' with
          | exc _ _ => rw [hte] at hc; cases hc
          | bot => rw [hte] at hc; cases hc
          | ok yd ρ3 =>
            rw [hte] at hc
            dsimp only at hc
            split at hc
            rotate_left
            · cases hc
            rename_i hz
            intro yv G5 H5 e5 R5 p5
            have x5 := (x3.trans e4).trans e5
            refine ⟨av, R5.bk _ _ upd_same, by rw [r.length]; exact hz, ρ3, G5, acc ++ [yd], av ++ [yv], ex.trans x5.unhold, fin x5, (r.mono x5.gg).append (.cons p5 .nil), ?_, hc⟩
            have := (R5.rewrite (o' := .lst (av ++ [yv])) (fin x5)).wiped vs
            rw [hwp] at this
            exact this
  · rintro H ⟨ρi, Gi, acc, av, ex, gn, r, R, hc⟩
    rw [List.drop_length] at hc
    unfold compL at hc
    cases hc
    obtain ⟨R', hn⟩ := R.unhold bD
    have RB := Rl.backed R1 R' ex.gg
    refine h1 Da Gi H ex RB ⟨bD, gn, _, R.bk _ _ upd_same, av, rfl, r⟩ fun i m e z => ?_
    rcases back_some e with ⟨q1, q2⟩ | ⟨⟨d, q⟩, _⟩
    · exact hn i m (by rw [wipeE_keep q2]; exact q1) (by rw [wipe_keep q2]; exact z)
    · cases q
theorem df_lc {elt tg iter : Expr} {ifs : List Expr} {scope : Scope} {own : List (Str × Nat)} {pos : Pos} {di : ENV → R (List D)} {g : D → ENV → Option ENV} {tt : ENV → R Bool} {te : ENV → R D} {sl : List Nat} (hc : X.calm = true) (hN : X.N.Nodup) (hi : DI X cc tg iter di)
    (ok : BlkOk X.N X.env.scope scope own) (hsl : ∀ i ∈ sl, i ∈ own.map (·.2))
    (hg : ∀ (s : Shared) (H : Hp) (C : Addr) (cl : List (Str × Addr)) (fp : List Addr), DG (X.blk s H scope (compEnvC scope cl C X.env) fp) cc.inner tg sl g)
    (ht : ∀ (s : Shared) (H : Hp) (C : Addr) (cl : List (Str × Addr)) (fp : List Addr), DTs (X.blk s H scope (compEnvC scope cl C X.env) fp) cc.inner ifs tt)
    (he : ∀ (s : Shared) (H : Hp) (C : Addr) (cl : List (Str × Addr)) (fp : List Addr), DE (X.blk s H scope (compEnvC scope cl C X.env) fp) cc.inner elt te) (hs : ∀ x, foldedSetIterable iter X.env x = pure x := by intro _; rfl) :
    DF X cc (.ListComp elt [⟨tg, iter, ifs, 0⟩] scope pos) (fLc di g tt te (own.map (·.2))) :=
  PE.imp (pe_lc (g := rG X.K cc.inner sl g) (tt := rT X.K cc.inner tt) (te := rE X.K cc.inner te) hc hN hi ok hg ht he hs) (lc_ok hsl)
end
end Rf
set_option Elab.async false
set_option linter.all false
set_option maxRecDepth 100000
/-! Rf: statements -/
namespace Rf
open PySem PySem.Spec L2
inductive Fl where
  | nx | bk | ct | ret (v : DV)
/-- the object at p is at no owned slot -/
def NotAt (ρ : ENV) (σ : St) (p : Addr) : Prop := ∀ (i : Nat) (m' : M), ρ[i]? = some (some (.ow m')) → σ[i]? ≠ some (some (.ref p))
def PostS (K : PySem.W.Frag) (cc : Cc) (B G : Hp) (Dn : Ends) (r : R Fl) : Prop := match r with
  | .ok .nx ρ' => ∀ σ' G' H', Ext B G G' → Rl K cc B ρ' σ' G' H' → Dn.nx σ' H'
  | .ok .bk ρ' => ∀ σ' G' H', Ext B G G' → Rl K cc B ρ' σ' G' H' → Dn.bk σ' H'
  | .ok .ct ρ' => ∀ σ' G' H', Ext B G G' → Rl K cc B ρ' σ' G' H' → Dn.ct σ' H'
  | .ok (.ret (.sh d)) ρ' => ∀ v σ' G' H', Ext B G G' → Rl K cc B ρ' σ' G' H' → Rp K cc.C G' v d → Dn.rt v H'
  | .ok (.ret (.ow m)) ρ' => ∀ p σ' G' H', Ext B G G' → Rl K cc B ρ' σ' G' H' → Own K cc.C B G' H' p m → NotAt ρ' σ' p → Dn.rt (.ref p) H'
  | .exc e ρ' => ∀ cl dd σ' G' H', Ext B G G' → Rl K cc B ρ' σ' G' H' → ERp K cc.C G' e cl dd → cc.W cl dd σ' H'
  | .bot => False
theorem PostS.ext {K : PySem.W.Frag} {cc : Cc} {B G G1 : Hp} {Dn : Ends} {r : R Fl} (h : PostS K cc B G Dn r) (x : Ext B G G1) : PostS K cc B G1 Dn r := by
  cases r with
  | ok f ρ =>
    cases f with
    | nx => exact fun σ' G' H' e => h σ' G' H' (x.trans e)
    | bk => exact fun σ' G' H' e => h σ' G' H' (x.trans e)
    | ct => exact fun σ' G' H' e => h σ' G' H' (x.trans e)
    | ret v =>
      cases v with
      | sh d => exact fun v σ' G' H' e => h v σ' G' H' (x.trans e)
      | ow m => exact fun v σ' G' H' e => h v σ' G' H' (x.trans e)
  | exc e ρ => exact fun cl dd σ' G' H' e => h cl dd σ' G' H' (x.trans e)
  | bot => exact h
/-- behind an expression of a statement -/
theorem PostS.bind {α β : Type} {K : PySem.W.Frag} {cc : Cc} {V1 : Hp → β → α → Prop} {B G : Hp} {Dn : Ends} {σ : St} {Q' : β → Hp → Prop} {r : R α} {f : α → ENV → R Fl}
    (h : PostS K cc B G Dn (r.bind f))
    (k : ∀ d ρ1 G1 H1 x, Ext B G G1 → Rl K cc B ρ1 σ G1 H1 → V1 G1 x d → PostS K cc B G1 Dn (f d ρ1) → Q' x H1) : Post K cc V1 B G σ Q' r := by
  cases r with
  | ok d ρ1 =>
    intro v G1 H1 e1 R1 p1
    exact k d ρ1 G1 H1 v e1 R1 p1 (PostS.ext (show PostS K cc B G Dn (f d ρ1) from h) e1)
  | exc e ρ1 => exact fun cl dd G' H' e1 R' x => h cl dd σ G' H' e1 R' x
  | bot => exact h
theorem PostS.bindF {K : PySem.W.Frag} {cc : Cc} {B G : Hp} {Dn : Ends} {σ : St} {Q' : V → Hp → Prop} {r : R M} {f : M → ENV → R Fl}
    (h : PostS K cc B G Dn (r.bind f))
    (k : ∀ m ρ1 G1 H1 p, Ext B G G1 → Rl K cc B ρ1 σ G1 H1 → Own K cc.C B G1 H1 p m → NotAt ρ1 σ p → PostS K cc B G1 Dn (f m ρ1) → Q' (.ref p) H1) : PostF K cc B G σ Q' r := by
  cases r with
  | ok d ρ1 =>
    intro p G1 H1 e1 R1 o n
    exact k d ρ1 G1 H1 p e1 R1 o n (PostS.ext (show PostS K cc B G Dn (f d ρ1) from h) e1)
  | exc e ρ1 => exact fun cl dd G' H' e1 R' x => h cl dd σ G' H' e1 R' x
  | bot => exact h
def rS (K : PySem.W.Frag) (cc : Cc) (den : ENV → R Fl) : TS := fun Dn σ H => ∃ B ρ G, Rl K cc B ρ σ G H ∧ PostS K cc B G Dn (den ρ)
def DS (X : Cx) (cc : Cc) (st : Stmt) (den : ENV → R Fl) : Prop := PS X st (rS X.K cc den)
def DSs (X : Cx) (cc : Cc) (st : List Stmt) (den : ENV → R Fl) : Prop := PSs X st (rS X.K cc den)
theorem PostS.here {K : PySem.W.Frag} {cc : Cc} {B G H : Hp} {Dn : Ends} {ρ : ENV} {σ : St} (h : PostS K cc B G Dn (.ok .nx ρ)) (R0 : Rl K cc B ρ σ G H) : Dn.nx σ H := h σ G H (Ext.refl _ _) R0
def sNil : ENV → R Fl := fun ρ => .ok .nx ρ
def sSeq (a b : ENV → R Fl) : ENV → R Fl := fun ρ => match a ρ with
  | .ok .nx ρ1 => b ρ1
  | r => r
section
variable {X : Cx} {cc : Cc} {e o c tg : Expr} {da db : ENV → R D} {pos : Pos} {st : Stmt} {sts : List Stmt} {sa sb : ENV → R Fl} {fa : ENV → R M}
theorem dss_nil : DSs X cc [] sNil := PSs.imp pss_nil fun Dn σ H ⟨B, ρ, G, R0, h⟩ => h.here R0
theorem dss_one (h : DS X cc st sa) : DSs X cc [st] sa := pss_one h
theorem seq_core {K : PySem.W.Frag} {Dn : Ends} {B G : Hp} {ρ : ENV} (h : PostS K cc B G Dn (sSeq sa sb ρ)) : PostS K cc B G { Dn with nx := rS K cc sb Dn } (sa ρ) := by
  unfold sSeq at h
  cases hs : sa ρ with
  | ok f ρ1 =>
    rw [hs] at h
    cases f with
    | nx => exact fun σ' G' H' e R' => ⟨B, ρ1, G', R', PostS.ext h e⟩
    | bk => exact h
    | ct => exact h
    | ret v => cases v with
      | sh d => exact h
      | ow m => exact h
  | exc e ρ1 => rw [hs] at h; exact h
  | bot => rw [hs] at h; exact h
theorem dss_cons (h1 : DS X cc st sa) (h2 : DSs X cc sts sb) : DSs X cc (st :: sts) (sSeq sa sb) := PSs.imp (pss_cons h1 h2) fun Dn σ H ⟨B, ρ, G, R0, h⟩ => ⟨B, ρ, G, R0, seq_core h⟩
def sBreak : ENV → R Fl := fun ρ => .ok .bk ρ
def sCont : ENV → R Fl := fun ρ => .ok .ct ρ
theorem ds_pass : DS X cc (.Pass pos) sNil := PS.imp ps_pass fun Dn σ H ⟨B, ρ, G, R0, h⟩ => h.here R0
theorem ds_break : DS X cc (.Break pos) sBreak := PS.imp ps_break fun Dn σ H ⟨B, ρ, G, R0, h⟩ => h σ G H (Ext.refl _ _) R0
theorem ds_continue : DS X cc (.Continue pos) sCont := PS.imp ps_continue fun Dn σ H ⟨B, ρ, G, R0, h⟩ => h σ G H (Ext.refl _ _) R0
def sExpr (da : ENV → R D) : ENV → R Fl := fun ρ => (da ρ).bind fun _ ρ1 => .ok .nx ρ1
theorem ds_expr (ha : DE X cc e da) (hs : swapsWith e none pos.line X.env = pure false := by rfl) : DS X cc (.Expr e pos) (sExpr da) :=
  PS.imp (ps_expr ha hs) fun Dn σ H ⟨B, ρ, G, R0, h⟩ => ⟨B, ρ, G, R0, h.bind fun d ρ1 G1 H1 x e1 R1 p1 h1 => h1.here R1⟩
def sRet (da : ENV → R D) : ENV → R Fl := fun ρ => (da ρ).bind fun d ρ1 => .ok (.ret (.sh d)) ρ1
theorem ds_ret (ha : DE X cc e da) : DS X cc (.Return (some e) pos) (sRet da) :=
  PS.imp (ps_ret ha) fun Dn σ H ⟨B, ρ, G, R0, h⟩ => ⟨B, ρ, G, R0, h.bind fun d ρ1 G1 H1 x e1 R1 p1 h1 => h1 x σ G1 H1 (Ext.refl _ _) R1 p1⟩
def sRetF (fa : ENV → R M) : ENV → R Fl := fun ρ => (fa ρ).bind fun d ρ1 => .ok (.ret (.ow d)) ρ1
theorem ds_retF (ha : DF X cc e fa) : DS X cc (.Return (some e) pos) (sRetF fa) :=
  PS.imp (ps_ret ha) fun Dn σ H ⟨B, ρ, G, R0, h⟩ => ⟨B, ρ, G, R0, h.bindF fun d ρ1 G1 H1 p e1 R1 o n h1 => h1 p σ G1 H1 (Ext.refl _ _) R1 o n⟩
def sRetN : ENV → R Fl := fun ρ => .ok (.ret (.sh .non)) ρ
theorem ds_retN : DS X cc (.Return none pos) sRetN := PS.imp ps_retN fun Dn σ H ⟨B, ρ, G, R0, h⟩ => h .non σ G H (Ext.refl _ _) R0 .non
theorem Rl.drop {K : PySem.W.Frag} {B : Hp} {ρ : ENV} {σ : St} {G H : Hp} (r : Rl K cc B ρ σ G H) (i : Nat) : Rl K cc B (ρ.set i none) σ G H := by
  have old : ∀ {j : Nat} {x : DV}, (ρ.set i none)[j]? = some (some x) → ρ[j]? = some (some x) ∧ j ≠ i := fun {j x} e => by
    by_cases h : j = i
    · subst h
      by_cases hj : j < ρ.length
      · rw [List.getElem?_set_self hj] at e; cases e
      · rw [List.getElem?_eq_none (by rw [List.length_set]; omega)] at e; cases e
    · rw [List.getElem?_set_ne (Ne.symm h)] at e; exact ⟨e, h⟩
  exact ⟨r.bk, r.gk, by rw [List.length_set]; exact r.ln, fun j d e => r.sh j d (old e).1, fun j m e => r.ow j m (old e).1, fun j k m m' p e1 e2 e3 e4 => r.df j k m m' p (old e1).1 (old e2).1 e3 e4, r.pa, r.kg⟩
/-- return x, x an owned name -/
def sRetV (i : Nat) : ENV → R Fl := fun ρ => match ρ[i]? with
  | some (some (.ow m)) => .ok (.ret (.ow m)) (ρ.set i none)
  | _ => .bot
theorem ds_retV (i : Nat) {x : Str} {p2 : Pos} (hN : X.N[i]? = some x := by rfl) (hv : Vis X.env.scope x := by first | exact Or.inl rfl | exact Or.inr (Or.inl rfl) | exact Or.inr (Or.inr rfl)) (hd : (x == ("__debug__" : Str)) = false := by decide)
    (hcd : (x == ("__classdict__" : Str)) = false := by decide) : DS X cc (.Return (some (.Name x p2)) pos) (sRetV i) := by
  refine PS.imp (ps_ret (pe_var hN hv hd hcd)) fun Dn σ H ⟨B, ρ, G, R0, h⟩ => ?_
  unfold sRetV at h
  split at h
  · rename_i m e
    obtain ⟨p, hp, o⟩ := R0.ow i m e
    refine ⟨_, hp, h p σ G H (Ext.refl _ _) (R0.drop i) o fun j m' e' z => ?_⟩
    have hj : j ≠ i := fun z => by
      subst z
      rw [List.getElem?_set_self (List.getElem?_eq_some_iff.mp e).1] at e'; cases e'
    rw [List.getElem?_set_ne (Ne.symm hj)] at e'
    exact hj (R0.df j i m' m p e' e z hp)
  · exact h.elim
def sIf (c : ENV → R Bool) (a b : ENV → R Fl) : ENV → R Fl := fun ρ => (c ρ).bind fun x ρ1 => if x = true then a ρ1 else b ρ1
theorem ds_if {tc : ENV → R Bool} {s2 : List Stmt} (hc : DT X cc c tc) (ha : DSs X cc sts sa) (hb : DSs X cc s2 sb) : DS X cc (.If c sts s2 pos) (sIf tc sa sb) := by
  refine PS.imp (ps_if hc ha hb) fun Dn σ H ⟨B, ρ, G, R0, h⟩ => ⟨B, ρ, G, R0, h.bind fun d ρ1 G1 H1 x e1 R1 p1 h1 => ?_⟩
  subst p1
  cases x with
  | true => exact iteT ⟨B, ρ1, G1, R1, h1⟩
  | false => exact iteF ⟨B, ρ1, G1, R1, h1⟩

/-! ### stores -/
def sAsg (da : ENV → R D) (g : D → ENV → Option ENV) : ENV → R Fl := fun ρ => (da ρ).bind fun d ρ1 => match g d ρ1 with
  | some ρ2 => .ok .nx ρ2
  | none => .bot
variable {g : D → ENV → Option ENV} {sl : List Nat}
theorem asg_core {K : PySem.W.Frag} {tgt : TG} (k : ∀ v σ H Q, rG K cc sl g v σ H Q → tgt v σ H Q) : ∀ Dn σ H, rS K cc (sAsg da g) Dn σ H → tAsg (rE K cc da) tgt Dn σ H := by
  intro Dn σ H ⟨B, ρ, G, R0, h⟩
  refine ⟨B, ρ, G, R0, h.bind fun d ρ1 G1 H1 x e1 R1 p1 h1 => k _ _ _ _ ?_⟩
  cases hg : g d ρ1 with
  | none => simp only [hg] at h1; exact h1.elim
  | some ρ2 => simp only [hg] at h1; exact ⟨B, ρ1, G1, d, ρ2, R1, p1, hg, fun σ' R2 _ => h1.here R2⟩
theorem ds_asg (ha : DE X cc e da) (hg : DG X cc tg sl g) (hs : swapsWithSole [tg] e pos.line X.env = pure false := by rfl) (hw : swappedStores [tg] e X.env = pure none := by rfl)
    (h1 : (assignEach [tg] X.env).map (·.2) = [assign tg X.env] := by rfl) : DS X cc (.Assign [tg] e pos) (sAsg da g) := PS.imp (ps_asg ha hg hs hw h1) (asg_core fun _ _ _ _ h => h)
theorem gset_core {K : PySem.W.Frag} {i : Nat} (hp : i ∉ cc.pr) : ∀ v σ H Q, rG K cc [i] (gSet i) v σ H Q → gName i v σ H Q := fun v σ H Q ⟨B, ρ, G, d, ρ', R0, p, e, k⟩ => by
  unfold gSet at e
  split at e
  · rename_i h; cases e; exact k _ (R0.store h hp p) ⟨by rw [List.length_set], fun j hj => List.getElem?_set_ne (fun z => hj (by simp [z]))⟩
  · cases e
theorem ds_set {i : Nat} {x : Str} {p2 : Pos} (hN : X.N.Nodup) (ha : DE X cc e da) (hi : X.N[i]? = some x := by rfl) (hx : Loc X.env.scope x := by first | exact Or.inl rfl | exact Or.inr rfl) (hp : cc.pr.contains i = false := by rfl) (hs : swapsWith e (some (.Name x p2)) pos.line X.env = pure false := by rfl)
    (hf : X.fn x = true ∨ X.env.scope.names.lookup x = some .local := by first | exact .inl rfl | exact .inr rfl | assumption) : DS X cc (.Assign [.Name x p2] e pos) (sAsg da (gSet i)) := PS.imp (ps_set hN hi hx ha hs hf) (asg_core (gset_core (np hp)))
/-- x = a fresh object, x owned -/
def sOwn (fa : ENV → R M) (i : Nat) : ENV → R Fl := fun ρ => (fa ρ).bind fun m ρ1 => if i < ρ1.length then .ok .nx (ρ1.set i (some (.ow m))) else .bot
theorem ite_postS {K : PySem.W.Frag} {B G : Hp} {Dn : Ends} {p : Prop} [Decidable p] {r : R Fl} (h : PostS K cc B G Dn (if p then r else .bot)) : p ∧ PostS K cc B G Dn r := by
  by_cases q : p
  · rw [if_pos q] at h; exact ⟨q, h⟩
  · rw [if_neg q] at h; exact h.elim
theorem own_core {K : PySem.W.Frag} {i : Nat} (hp : i ∉ cc.pr) : ∀ Dn σ H, rS K cc (sOwn fa i) Dn σ H → tAsg (rF K cc fa) (gName i) Dn σ H := by
  intro Dn σ H ⟨B, ρ, G, R0, h⟩
  refine ⟨B, ρ, G, R0, h.bindF fun m ρ1 G1 H1 p e1 R1 o n h1 => ?_⟩
  obtain ⟨hi, h1⟩ := ite_postS h1
  exact h1.here (R1.storeO hi hp o n)
theorem ds_own {i : Nat} {x : Str} {p2 : Pos} (hN : X.N.Nodup) (ha : DF X cc e fa) (hi : X.N[i]? = some x := by rfl) (hx : Loc X.env.scope x := by first | exact Or.inl rfl | exact Or.inr rfl) (hp : cc.pr.contains i = false := by rfl) (hs : swapsWith e (some (.Name x p2)) pos.line X.env = pure false := by rfl)
    (hf : X.fn x = true ∨ X.env.scope.names.lookup x = some .local := by first | exact .inl rfl | exact .inr rfl | assumption) : DS X cc (.Assign [.Name x p2] e pos) (sOwn fa i) := PS.imp (ps_set hN hi hx ha hs hf) (own_core (np hp))
/-- x = [.. for ..] on one line -/
theorem ds_ownLc {elt iter : Expr} {ifs : List Expr} {scope : Scope} {own : List (Str × Nat)} {spos py : Pos} {di : ENV → R (List D)} {tt : ENV → R Bool} {te : ENV → R D} {i : Nat} {y : Str} (hc : X.calm = true) (hN : X.N.Nodup) (hi : DI X cc tg iter di)
    (ok : BlkOk X.N X.env.scope scope own) (hsl : ∀ i ∈ sl, i ∈ own.map (·.2))
    (hg : ∀ (s : Shared) (H : Hp) (C : Addr) (cl : List (Str × Addr)) (fp : List Addr), DG (X.blk s H scope (compEnvC scope cl C X.env) fp) cc.inner tg sl g)
    (ht : ∀ (s : Shared) (H : Hp) (C : Addr) (cl : List (Str × Addr)) (fp : List Addr), DTs (X.blk s H scope (compEnvC scope cl C X.env) fp) cc.inner ifs tt)
    (he : ∀ (s : Shared) (H : Hp) (C : Addr) (cl : List (Str × Addr)) (fp : List Addr), DE (X.blk s H scope (compEnvC scope cl C X.env) fp) cc.inner elt te)
    (hsw : swapsWith (.ListComp elt [⟨tg, iter, ifs, 0⟩] scope pos) (some (.Name y py)) spos.line X.env = pure true) (hy : X.N[i]? = some y := by rfl) (hyl : X.env.scope.names.lookup y = some .local := by rfl) (hp : cc.pr.contains i = false := by rfl) (hs : ∀ x, foldedSetIterable iter X.env x = pure x := by intro _; rfl) :
    DS X cc (.Assign [.Name y py] (.ListComp elt [⟨tg, iter, ifs, 0⟩] scope pos) spos) (sOwn (fLc di g tt te (own.map (·.2))) i) :=
  PS.imp (ps_setLc (g := rG X.K cc.inner sl g) (tt := rT X.K cc.inner tt) (te := rE X.K cc.inner te) hc hN hy hyl hsw hi ok hg ht he hs) fun Dn σ H h => lc_ok hsl _ _ _ (own_core (np hp) Dn σ H h)
theorem ds_setLc {elt iter : Expr} {ifs : List Expr} {scope : Scope} {own : List (Str × Nat)} {spos py : Pos} {di : ENV → R (List D)} {tt : ENV → R Bool} {te : ENV → R D} {i : Nat} {y : Str} (hc : X.calm = true) (hN : X.N.Nodup) (hi : DI X cc tg iter di)
    (ok : BlkOk X.N X.env.scope scope own) (hsl : ∀ i ∈ sl, i ∈ own.map (·.2))
    (hg : ∀ (s : Shared) (H : Hp) (C : Addr) (cl : List (Str × Addr)) (fp : List Addr), DG (X.blk s H scope (compEnvC scope cl C X.env) fp) cc.inner tg sl g)
    (ht : ∀ (s : Shared) (H : Hp) (C : Addr) (cl : List (Str × Addr)) (fp : List Addr), DTs (X.blk s H scope (compEnvC scope cl C X.env) fp) cc.inner ifs tt)
    (he : ∀ (s : Shared) (H : Hp) (C : Addr) (cl : List (Str × Addr)) (fp : List Addr), DE (X.blk s H scope (compEnvC scope cl C X.env) fp) cc.inner elt te)
    (hsw : swapsWith (.ListComp elt [⟨tg, iter, ifs, 0⟩] scope pos) (some (.Name y py)) spos.line X.env = pure true) (hy : X.N[i]? = some y := by rfl) (hyl : X.env.scope.names.lookup y = some .local := by rfl) (hp : cc.pr.contains i = false := by rfl) (hs : ∀ x, foldedSetIterable iter X.env x = pure x := by intro _; rfl) :
    DS X cc (.Assign [.Name y py] (.ListComp elt [⟨tg, iter, ifs, 0⟩] scope pos) spos) (sAsg (fun ρ => frz (fLc di g tt te (own.map (·.2)) ρ)) (gSet i)) := by
  refine PS.imp (ps_setLc (g := rG X.K cc.inner sl g) (tt := rT X.K cc.inner tt) (te := rE X.K cc.inner te) hc hN hy hyl hsw hi ok hg ht he hs) fun Dn σ H h => lc_ok hsl _ _ _ ?_
  obtain ⟨B, ρ, G, R0, h⟩ := h
  refine ⟨B, ρ, G, R0, ?_⟩
  dsimp only [sAsg, frz] at h
  cases hf : fLc di g tt te (own.map (·.2)) ρ with
  | ok m ρ1 =>
    rw [hf] at h
    intro p G1 H1 e1 R1 o nf
    dsimp only [R.bind, gSet] at h
    obtain ⟨x, hx, hm⟩ := o.at_
    by_cases hi : i < ρ1.length
    · rw [if_pos hi] at h
      have R2 := R1.storeO hi (np hp) o nf
      have he : (ρ1.set i (some (.ow m)))[i]? = some (some (.ow m)) := by rw [List.getElem?_set_self hi]
      obtain ⟨p', G', h1, h2, h3, h4⟩ := R2.freeze he
      rw [List.set_set] at h3
      exact h _ G' H1 (e1.trans h2) h3
    · rw [if_neg hi] at h; exact h.elim
  | exc x ρ1 =>
    rw [hf] at h
    exact fun cl dd G' H' e1 R' x => h cl dd σ G' H' e1 R' x
  | bot => rw [hf] at h; exact h.elim
/-- a, b = x, y -/
def sPar (i j : Nat) (da db : ENV → R D) : ENV → R Fl := fun ρ => (da ρ).bind fun x ρ1 => (db ρ1).bind fun y ρ2 => if i < ρ2.length ∧ j < ρ2.length then .ok .nx ((ρ2.set i (some (.sh x))).set j (some (.sh y))) else .bot
theorem ds_par {a b : Expr} {i j : Nat} {x y : Str} {px py pt : Pos} {kt k2 : Nat} {pt2 : Pos} (hc : X.calm = true) (hN : X.N.Nodup) (ha : DE X cc a da) (hb : DE X cc b db) (hi : X.N[i]? = some x := by rfl) (hj : X.N[j]? = some y := by rfl) (hij : i ≠ j := by decide)
    (hx : X.env.scope.names.lookup x = some .local := by rfl) (hy : X.env.scope.names.lookup y = some .local := by rfl)
    (hw : swappedStores [.Tuple [.Name x px, .Name y py] kt pt] (.Tuple [a, b] k2 pt2) X.env = pure (some [x, y]) := by rfl)
    (hs : swapsWithSole [.Tuple [.Name x px, .Name y py] kt pt] (.Tuple [a, b] k2 pt2) pos.line X.env = pure false := by rfl) (hpi : cc.pr.contains i = false := by rfl) (hpj : cc.pr.contains j = false := by rfl)
    (hs3 : starEach [a, b] X.env = (false, eval a X.env) :: starEach [b] X.env := by rfl) (hs4 : starEach [b] X.env = (false, eval b X.env) :: starEach [] X.env := by rfl) :
    DS X cc (.Assign [.Tuple [.Name x px, .Name y py] kt pt] (.Tuple [a, b] k2 pt2) pos) (sPar i j da db) := by
  refine PS.imp (ps_par hc hN hi hj hij hx hy (pa_cons ha (pa_cons hb pa_nil hs4) hs3) hw hs) fun Dn σ H ⟨B, ρ, G, R0, h⟩ => ⟨B, ρ, G, R0, h.bind fun d1 ρ1 G1 H1 x e1 R1 p1 h1 => ⟨B, ρ1, G1, R1, h1.bind fun d2 ρ2 G2 H2 y e2 R2 p2 h2 => ?_⟩⟩
  obtain ⟨⟨hi', hj'⟩, h2⟩ := ite_postS h2
  exact ⟨x, y, rfl, h2.here ((R2.store hi' (np hpi) (p1.mono e2.gg)).store (by rw [List.length_set]; exact hj') (np hpj) p2)⟩

/-! ### an owned list is changed -/
theorem Rl.mutate {K : PySem.W.Frag} {B : Hp} {ρ : ENV} {σ : St} {G H : Hp} {i : Nat} {p : Addr} {m m' : M} {o : HO} (r : Rl K cc B ρ σ G H) (e : ρ[i]? = some (some (.ow m))) (hp : σ[i]? = some (some (.ref p))) (hm : HoldsM K cc.C G o m') : Rl K cc B (ρ.set i (some (.ow m'))) σ G (upd H p o) := by
  obtain ⟨p', h1, ow⟩ := r.ow i m e
  rw [hp] at h1; cases h1
  have il : i < ρ.length := (List.getElem?_eq_some_iff.mp e).1
  have old : ∀ (j : Nat) (x : M), (ρ.set i (some (.ow m')))[j]? = some (some (.ow x)) → ∃ y, ρ[j]? = some (some (.ow y)) := fun j x q => by
    by_cases h : j = i
    · subst h; exact ⟨m, e⟩
    · rw [List.getElem?_set_ne (Ne.symm h)] at q; exact ⟨x, q⟩
  refine ⟨fun b u q => ?_, fun b u q => ?_, by rw [List.length_set]; exact r.ln, fun j d q => ?_, fun j x q => ?_, fun j k m1 m2 q q1 q2 q3 q4 => ?_, r.pa, r.kg⟩
  · have ne : b ≠ p := fun z => by subst z; rw [ow.nb] at q; cases q
    rw [upd_ne ne]; exact r.bk b u q
  · have ne : b ≠ p := fun z => by subst z; rw [ow.ng] at q; cases q
    rw [upd_ne ne]; exact r.gk b u q
  · by_cases h : j = i
    · subst h; rw [List.getElem?_set_self il] at q; cases q
    · rw [List.getElem?_set_ne (Ne.symm h)] at q; exact r.sh j d q
  · by_cases h : j = i
    · subst h
      rw [List.getElem?_set_self il] at q; cases q
      exact ⟨p, hp, ow.nb, ow.ng, o, upd_same, hm⟩
    · rw [List.getElem?_set_ne (Ne.symm h)] at q
      obtain ⟨p', h1, o'⟩ := r.ow j x q
      have ne : p' ≠ p := fun z => by subst z; exact h (r.df j i x m p' q e h1 hp)
      obtain ⟨y, hy, hm'⟩ := o'.at_
      exact ⟨p', h1, o'.nb, o'.ng, y, by rw [upd_ne ne]; exact hy, hm'⟩
  · obtain ⟨y1, q1⟩ := old j m1 q1
    obtain ⟨y2, q2⟩ := old k m2 q2
    exact r.df j k y1 y2 q q1 q2 q3 q4
theorem lst_ty {K : PySem.W.Frag} {H : Hp} {p : Addr} {xs : List V} (h : H p = some (.lst xs)) : tyV K "list" (.ref p) H := Or.inl ⟨rfl, _, Or.inl (Or.inl h)⟩
/-- an owned list at the slot i -/
theorem Rl.lstAt {K : PySem.W.Frag} {B : Hp} {ρ : ENV} {σ : St} {G H : Hp} {i : Nat} {ds : List D} (r : Rl K cc B ρ σ G H) (e : ρ[i]? = some (some (.ow (.lst ds)))) : ∃ p xs, σ[i]? = some (some (.ref p)) ∧ H p = some (.lst xs) ∧ RpL K cc.C G xs ds := by
  obtain ⟨p, hp, o⟩ := r.ow i _ e
  obtain ⟨x, hx, xs, rfl, rr⟩ := o.at_
  exact ⟨p, xs, hp, hx, rr⟩
/-- xs.append(e) -/
def sApp (i : Nat) (da : ENV → R D) : ENV → R Fl := fun ρ => match ρ[i]? with
  | some (some (.ow (.lst _))) => (da ρ).bind fun d ρ1 => match ρ1[i]? with
    | some (some (.ow (.lst ds))) => if ds.length < sizeLine then .ok .nx (ρ1.set i (some (.ow (.lst (ds ++ [d]))))) else .bot
    | _ => .bot
  | _ => .bot
theorem ds_app (i : Nat) {x : Str} {p2 p3 p4 : Pos} (ha : DE X cc e da) (hN : X.N[i]? = some x := by rfl) (hv : Vis X.env.scope x := by first | exact Or.inl rfl | exact Or.inr (Or.inl rfl) | exact Or.inr (Or.inr rfl)) (hd : (x == ("__debug__" : Str)) = false := by decide)
    (hcd : (x == ("__classdict__" : Str)) = false := by decide) (hs : swapsWith (.Call (.Attribute (.Name x p2) "append" p3) [e] [] p4) none pos.line X.env = pure false := by rfl)
    (hfew : ((backTo p4 (starEach (e :: []) X.env)).all (fun x => !x.1) && (backToKw p4 (keywordEach [] X.env)).all (fun x => x.1.isSome)
      && decide ((e :: []).length + ([] : List Keyword).length + (if ([] : List Keyword).isEmpty then 0 else 1) < 30)) = true := by rfl) (hline : (p3.endLine == p4.line) = true := by rfl)
    (he : starEach [e] X.env = (false, eval e X.env) :: starEach [] X.env := by rfl) (hpl : (backTo p4 (starEach [] X.env)).any (·.1) = false := by rfl) (hb : attributeBase (.Name x p2) "append" X.env (eval (.Name x p2) X.env) = eval (.Name x p2) X.env := by rfl) : DS X cc (.Expr (.Call (.Attribute (.Name x p2) "append" p3) [e] [] p4) pos) (sApp i da) := by
  refine PS.imp (ps_expr (pe_bm PySem.F.plainAttrs_list PySem.F.slot_list_append PySem.F.type_list_append mt_append (pe_var hN hv hd hcd) (pa_cons ha pa_nil he) hb hfew hline he hpl) hs) fun Dn σ H ⟨B, ρ, G, R0, h⟩ => ?_
  unfold sApp at h
  split at h
  rotate_left
  · exact h.elim
  rename_i ds0 e0
  obtain ⟨p, xs, hp, hx, _⟩ := R0.lstAt e0
  refine ⟨_, hp, lst_ty hx, B, ρ, G, R0, h.bind fun d ρ1 G1 H1 y e1 R1 p1 h1 => ?_⟩
  split at h1
  rotate_left
  · exact h1.elim
  rename_i ds e2
  obtain ⟨hz, h1⟩ := ite_postS h1
  obtain ⟨p', xs', hp', hx', rr⟩ := R1.lstAt e2
  rw [hp] at hp'; cases hp'
  exact ⟨p, xs', y, rfl, rfl, hx', by rw [rr.length]; exact hz, h1.here (R1.mutate e2 hp ⟨_, rfl, rr.append (.cons p1 .nil)⟩)⟩
/-- xs[k] = e -/
def sSub (i : Nat) (da di : ENV → R D) : ENV → R Fl := fun ρ => (da ρ).bind fun d ρ1 => match ρ1[i]? with
  | some (some (.ow (.lst _))) => (di ρ1).bind fun k ρ2 => match k, ρ2[i]? with
    | .int k, some (some (.ow (.lst ds))) => match ixN ds.length k with
      | some j => .ok .nx (ρ2.set i (some (.ow (.lst (ds.set j d)))))
      | none => .bot
    | _, _ => .bot
  | _ => .bot
theorem ds_sub (i : Nat) {x : Str} {p2 p3 : Pos} {k : Expr} {di : ENV → R D} (ha : DE X cc e da) (hk : DE X cc k di) (hN : X.N[i]? = some x := by rfl) (hv : Vis X.env.scope x := by first | exact Or.inl rfl | exact Or.inr (Or.inl rfl) | exact Or.inr (Or.inr rfl)) (hd : (x == ("__debug__" : Str)) = false := by decide)
    (hcd : (x == ("__classdict__" : Str)) = false := by decide)
    (hasg : ∀ v, assign (.Subscript (.Name x p2) k p3) X.env v = (do
      let ov ← holding [v] (eval (.Name x p2) X.env)
      let iv ← holding [v, ov] (eval k X.env)
      standAt p3
      holding [v, ov, iv] (setItem ov iv v)
      release [v, ov, iv] []) := by intro _; rfl)
    (hs : swapsWithSole [.Subscript (.Name x p2) k p3] e pos.line X.env = pure false := by rfl) (hw : swappedStores [.Subscript (.Name x p2) k p3] e X.env = pure none := by rfl)
    (h1 : (assignEach [.Subscript (.Name x p2) k p3] X.env).map (·.2) = [assign (.Subscript (.Name x p2) k p3) X.env] := by rfl) : DS X cc (.Assign [.Subscript (.Name x p2) k p3] e pos) (sSub i da di) := by
  refine PS.imp (ps_asg ha (pg_sub (pe_var hN hv hd hcd) hk set_list hasg) hs hw h1) fun Dn σ H ⟨B, ρ, G, R0, h⟩ => ⟨B, ρ, G, R0, h.bind fun d ρ1 G1 H1 y e1 R1 p1 h1 => ?_⟩
  split at h1
  rotate_left
  · exact h1.elim
  rename_i ds0 e0
  obtain ⟨p, xs, hp, hx, _⟩ := R1.lstAt e0
  refine ⟨_, hp, B, ρ1, G1, R1, h1.bind fun kd ρ2 G2 H2 kv e2 R2 p2 h2 => ?_⟩
  split at h2
  rotate_left
  · exact h2.elim
  rename_i k' ds e3
  cases p2 with
  | int k' =>
    obtain ⟨p', xs', hp', hx', rr⟩ := R2.lstAt e3
    rw [hp] at hp'; cases hp'
    cases hj : ixN ds.length k' with
    | none => simp only [hj] at h2; exact h2.elim
    | some j =>
      simp only [hj] at h2
      exact ⟨p, xs', k', j, rfl, rfl, hx', by rw [rr.length]; exact hj, h2.here (R2.mutate e3 hp ⟨_, rfl, rr.set (p1.mono e2.gg) j⟩)⟩
/-- x += e, x -= e of ints -/
def sAug (i : Nat) (f : Int → Int → Int) (da : ENV → R D) : ENV → R Fl := fun ρ => match ρ[i]? with
  | some (some (.sh (.int a))) => (da ρ).bind fun d ρ1 => match d with
    | .int b => if i < ρ1.length then .ok .nx (ρ1.set i (some (.sh (.int (f a b))))) else .bot
    | _ => .bot
  | _ => .bot
theorem ds_aug {op : Operator} {f : Int → Int → Int} (hop : PIp X op (ipI f)) {i : Nat} {x : Str} {p2 : Pos} (hN : X.N.Nodup) (ha : DE X cc e da) (hi : X.N[i]? = some x := by rfl) (hx : Loc X.env.scope x := by first | exact Or.inl rfl | exact Or.inr rfl) (hp : cc.pr.contains i = false := by rfl)
    (hf : X.fn x = true ∨ X.env.scope.names.lookup x = some .local := by first | exact .inl rfl | exact .inr rfl | assumption) : DS X cc (.AugAssign (.Name x p2) op e pos) (sAug i f da) := by
  refine PS.imp (ps_aug hN hi hx ha hop hf) fun Dn σ H ⟨B, ρ, G, R0, h⟩ => ?_
  unfold sAug at h
  split at h
  rotate_left
  · exact h.elim
  rename_i a e0
  obtain ⟨v, hv, pv⟩ := R0.sh i _ e0
  cases pv
  refine ⟨_, hv, B, ρ, G, R0, h.bind fun d ρ1 G1 H1 y e1 R1 p1 h1 => ?_⟩
  cases p1 with
  | int b =>
    obtain ⟨hi, h1⟩ := ite_postS h1
    exact ⟨a, b, rfl, rfl, h1.here (R1.store hi (np hp) (.int _))⟩
  | _ => exact h1.elim

/-! ### loops -/
def forL (g : D → ENV → Option ENV) (body : ENV → R Fl) : List D → ENV → R Fl
  | [], ρ => .ok .nx ρ
  | d :: ds, ρ => match g d ρ with
    | none => .bot
    | some ρ1 => match body ρ1 with
      | .ok .nx ρ2 => forL g body ds ρ2
      | .ok .ct ρ2 => forL g body ds ρ2
      | .ok .bk ρ2 => .ok .nx ρ2
      | .ok (.ret v) ρ2 => .ok (.ret v) ρ2
      | .exc e ρ2 => .exc e ρ2
      | .bot => .bot
def sFor (di : ENV → R (List D)) (g : D → ENV → Option ENV) (body : ENV → R Fl) : ENV → R Fl := fun ρ => (di ρ).bind fun ds ρ1 => forL g body ds ρ1
theorem ds_for {iter : Expr} {body : List Stmt} {di : ENV → R (List D)} {sb : ENV → R Fl} (hp : PassesOwn (model X.prog X.w) X.A X.env X.xe) (hc : X.calm = true) (hi : DI X cc tg iter di) (hg : DG X cc tg sl g) (hb : DSs X cc body sb)
    (hs : ∀ x, foldedSetIterable iter X.env x = pure x := by intro _; rfl) : DS X cc (.For tg iter body [] pos) (sFor di g sb) := by
  refine PS.imp (ps_for (g := rG X.K cc sl g) (tb := rS X.K cc sb) hp hc hi hg hb hs) fun Dn σ H ⟨B, ρ, G, R0, h⟩ => ⟨B, ρ, G, R0, h.bind fun ds ρ1 G1 H1 J e1 R1 w h1 => ?_⟩
  obtain ⟨gd, Y, wlk, hgd, hY⟩ := w.ex
  refine for_it wlk (fun i σ H => ∃ ρi Gi, Ext B G1 Gi ∧ Rl X.K cc B ρi σ Gi H ∧ PostS X.K cc B Gi Dn (forL g sb (ds.drop i) ρi)) ⟨ρ1, G1, Ext.refl _ _, R1, h1⟩ (fun i σ H _ ⟨ρi, Gi, ex, R, _⟩ => hgd Gi H ex.gg R.gk) ?_ ?_
  · rintro i x σ H H' hi ⟨ρi, Gi, ex, R, hq⟩ y
    obtain ⟨d, G3, hd, g3, p3⟩ := hY i Gi H x H' hi ex.gg R.gk y
    have hdrop : ds.drop i = d :: ds.drop (i + 1) := by
      obtain ⟨h1, h2⟩ := List.getElem?_eq_some_iff.mp hd
      rw [← h2]; exact List.drop_eq_getElem_cons h1
    rw [hdrop] at hq
    unfold forL at hq
    have R' := R.grow g3
    have x3 := g3.ext R.bk
    cases hgd' : g d ρi with
    | none => simp only [hgd'] at hq; exact hq.elim
    | some ρ1' =>
      simp only [hgd'] at hq
      refine ⟨B, ρi, G3, d, ρ1', R', p3, hgd', fun σ2 R2 _ => ⟨B, ρ1', G3, R2, ?_⟩⟩
      have hq := hq.ext x3
      cases hb : sb ρ1' with
      | ok f ρ2 =>
        rw [hb] at hq
        cases f with
        | nx => exact fun σ' G' H' e R4 => ⟨ρ2, G', ex.trans (x3.trans e), R4, PostS.ext hq e⟩
        | ct => exact fun σ' G' H' e R4 => ⟨ρ2, G', ex.trans (x3.trans e), R4, PostS.ext hq e⟩
        | bk => exact hq
        | ret v => cases v with
          | sh d => exact hq
          | ow m => exact hq
      | exc e ρ2 => rw [hb] at hq; exact hq
      | bot => rw [hb] at hq; exact hq
  · rintro σ H ⟨ρi, Gi, ex, R, hq⟩
    rw [List.drop_length] at hq
    exact PostS.here hq R
def whileF (c : ENV → R Bool) (body : ENV → R Fl) : Nat → ENV → R Fl
  | 0, _ => .bot
  | n + 1, ρ => (c ρ).bind fun b ρ1 => if b = true then match body ρ1 with
      | .ok .nx ρ2 => whileF c body n ρ2
      | .ok .ct ρ2 => whileF c body n ρ2
      | .ok .bk ρ2 => .ok .nx ρ2
      | r => r
    else .ok .nx ρ1
def sWhile (n : ENV → Nat) (c : ENV → R Bool) (body : ENV → R Fl) : ENV → R Fl := fun ρ => whileF c body (n ρ) ρ
theorem ds_while {body : List Stmt} {tc : ENV → R Bool} {sb : ENV → R Fl} (n : ENV → Nat) (hp : PassesOwn (model X.prog X.w) X.A X.env X.xe) (hc : DT X cc c tc) (hb : DSs X cc body sb) : DS X cc (.While c body [] pos) (sWhile n tc sb) := by
  refine PS.imp (ps_while hp hc hb) fun Dn σ H ⟨B, ρ, G, R0, h⟩ => ⟨fun m σ H => ∃ ρi Gi, Ext B G Gi ∧ Rl X.K cc B ρi σ Gi H ∧ PostS X.K cc B Gi Dn (whileF tc sb m ρi), ⟨n ρ, ρ, G, Ext.refl _ _, R0, h⟩, ?_⟩
  rintro m σ H ⟨ρi, Gi, ex, R, hq⟩
  cases m with
  | zero => exact hq.elim
  | succ m =>
    refine ⟨B, ρi, Gi, R, PostS.bind (show PostS X.K cc B Gi Dn ((tc ρi).bind _) from hq) fun b ρ1 G1 H1 b' e1 R1 eb hq => ?_⟩
    subst eb
    cases b' with
    | false =>
      exact iteF (PostS.here hq R1)
    | true =>
      refine iteT ⟨fun σ' H' => ∃ ρi Gi, Ext B G Gi ∧ Rl X.K cc B ρi σ' Gi H' ∧ PostS X.K cc B Gi Dn (whileF tc sb m ρi), fun σ' H' h => ⟨m, Nat.lt_succ_self m, h⟩, B, ρ1, G1, R1, ?_⟩
      simp only [if_true] at hq
      have x1 := ex.trans e1
      cases hb : sb ρ1 with
      | ok f ρ2 =>
        rw [hb] at hq
        cases f with
        | nx => exact fun σ' G' H' e R4 => ⟨ρ2, G', x1.trans e, R4, PostS.ext hq e⟩
        | ct => exact fun σ' G' H' e R4 => ⟨ρ2, G', x1.trans e, R4, PostS.ext hq e⟩
        | bk => exact hq
        | ret v => cases v with
          | sh d => exact hq
          | ow m => exact hq
      | exc e ρ2 => rw [hb] at hq; exact hq
      | bot => rw [hb] at hq; exact hq
end
end Rf
set_option Elab.async false
set_option linter.all false
set_option maxRecDepth 100000
/-! Rf: defs and calls -/
namespace Rf
open PySem PySem.Spec L2
/-- what a def does, from its arguments: its value and what its owned arguments hold behind it -/
inductive FO where
  | ok (v : DV) (ms : List M) | exc (e : EX) (ms : List M) | bot
inductive AR (K : PySem.W.Frag) (C : Nat → Addr) (B G H : Hp) : List V → List DV → Prop
  | nil : AR K C B G H [] []
  | sh {v : V} {d : D} {vs : List V} {ds : List DV} (h : Rp K C G v d) (r : AR K C B G H vs ds) : AR K C B G H (v :: vs) (.sh d :: ds)
  | ow {p : Addr} {m : M} {vs : List V} {ds : List DV} (h : Own K C B G H p m) (r : AR K C B G H vs ds) : AR K C B G H (.ref p :: vs) (.ow m :: ds)
inductive Outs (K : PySem.W.Frag) (C : Nat → Addr) (B G H : Hp) : List V → List DV → List M → Prop
  | nil : Outs K C B G H [] [] []
  | sh {v : V} {d : D} {vs : List V} {ds : List DV} {ms : List M} (r : Outs K C B G H vs ds ms) : Outs K C B G H (v :: vs) (.sh d :: ds) ms
  | ow {p : Addr} {m m' : M} {vs : List V} {ds : List DV} {ms : List M} (h : Own K C B G H p m') (r : Outs K C B G H vs ds ms) : Outs K C B G H (.ref p :: vs) (.ow m :: ds) (m' :: ms)
/-- owned arguments stand apart -/
def Apart (vs : List V) (ds : List DV) : Prop := ∀ (i j : Nat) (m m' : M) (p : Addr), ds[i]? = some (.ow m) → ds[j]? = some (.ow m') → vs[i]? = some (.ref p) → vs[j]? = some (.ref p) → i = j
def NotOf (vs : List V) (ds : List DV) (p : Addr) : Prop := ∀ (i : Nat) (m : M), ds[i]? = some (.ow m) → vs[i]? ≠ some (.ref p)
def ValR (K : PySem.W.Frag) (C : Nat → Addr) (B G H : Hp) (vs : List V) (ds : List DV) (x : V) : DV → Prop
  | .sh d => Rp K C G x d
  | .ow m => ∃ p, x = .ref p ∧ Own K C B G H p m ∧ NotOf vs ds p
/-- a def's promise, by what it does -/
def spF (K : PySem.W.Frag) (C : Nat → Addr) (n : Nat) (F : List DV → FO) : Sp := fun vs H Q E => ∃ ds B G, vs.length = n ∧ Same B H ∧ Same G H ∧ AR K C B G H vs ds ∧ Apart vs ds ∧
  match F ds with
  | .ok v ms => ∀ x G' H', Ext B G G' → Same B H' → Same G' H' → Outs K C B G' H' vs ds ms → ValR K C B G' H' vs ds x v → Q x H'
  | .exc e ms => ∀ cl dd G' H', Ext B G G' → Same B H' → Same G' H' → Outs K C B G' H' vs ds ms → ERp K C G' e cl dd → E cl dd H'
  | .bot => False
theorem AR.length {K : PySem.W.Frag} {C : Nat → Addr} {B G H : Hp} : ∀ {vs : List V} {ds : List DV}, AR K C B G H vs ds → vs.length = ds.length
  | _, _, .nil => rfl
  | _, _, .sh _ r => congrArg (· + 1) r.length
  | _, _, .ow _ r => congrArg (· + 1) r.length
theorem AR.getSh {K : PySem.W.Frag} {C : Nat → Addr} {B G H : Hp} : ∀ {vs : List V} {ds : List DV} {i : Nat} {d : D}, AR K C B G H vs ds → ds[i]? = some (.sh d) → ∃ v, vs[i]? = some v ∧ Rp K C G v d
  | _, _, i, d, .nil, e => by simp at e
  | _, _, 0, d, .sh h _, e => by simp at e; subst e; exact ⟨_, rfl, h⟩
  | _, _, 0, d, .ow h _, e => by simp at e
  | _, _, i + 1, d, .sh _ r, e => by obtain ⟨v, h1, h2⟩ := AR.getSh (i := i) (d := d) r (by simpa using e); exact ⟨v, by simpa using h1, h2⟩
  | _, _, i + 1, d, .ow _ r, e => by obtain ⟨v, h1, h2⟩ := AR.getSh (i := i) (d := d) r (by simpa using e); exact ⟨v, by simpa using h1, h2⟩
theorem AR.getOw {K : PySem.W.Frag} {C : Nat → Addr} {B G H : Hp} : ∀ {vs : List V} {ds : List DV} {i : Nat} {m : M}, AR K C B G H vs ds → ds[i]? = some (.ow m) → ∃ p, vs[i]? = some (.ref p) ∧ Own K C B G H p m
  | _, _, i, d, .nil, e => by simp at e
  | _, _, 0, d, .sh h _, e => by simp at e
  | _, _, 0, d, .ow h _, e => by simp at e; subst e; exact ⟨_, rfl, h⟩
  | _, _, i + 1, d, .sh _ r, e => by obtain ⟨v, h1, h2⟩ := AR.getOw (i := i) (m := d) r (by simpa using e); exact ⟨v, by simpa using h1, h2⟩
  | _, _, i + 1, d, .ow _ r, e => by obtain ⟨v, h1, h2⟩ := AR.getOw (i := i) (m := d) r (by simpa using e); exact ⟨v, by simpa using h1, h2⟩
/-- the places of owned arguments -/
def owPos : Nat → List DV → List Nat
  | _, [] => []
  | k, .sh _ :: r => owPos (k + 1) r
  | k, .ow _ :: r => k :: owPos (k + 1) r
theorem owPos_at : ∀ (ds : List DV) (k i : Nat), i ∈ owPos k ds → ∃ j m, i = k + j ∧ ds[j]? = some (.ow m)
  | [], _, _, h => by cases h
  | .sh d :: r, k, i, h => by
    obtain ⟨j, m, e, q⟩ := owPos_at r (k + 1) i h
    exact ⟨j + 1, m, by omega, by simpa using q⟩
  | .ow m :: r, k, i, h => by
    rcases List.mem_cons.mp h with h | h
    · exact ⟨0, m, by omega, rfl⟩
    · obtain ⟨j, m', e, q⟩ := owPos_at r (k + 1) i h
      exact ⟨j + 1, m', by omega, by simpa using q⟩
/-- what they hold at the end -/
def outsE : Nat → List DV → ENV → Option (List M)
  | _, [], _ => some []
  | k, .sh _ :: r, ρ => outsE (k + 1) r ρ
  | k, .ow _ :: r, ρ => match ρ[k]? with
    | some (some (.ow m)) => (outsE (k + 1) r ρ).map (m :: ·)
    | _ => none
def startE (n : Nat) (ds : List DV) : ENV := ds.map some ++ List.replicate (n - ds.length) none
def runF (pr : List Nat) (n : Nat) (den : ENV → R Fl) : List DV → FO := fun ds => if owPos 0 ds = pr then match den (startE n ds) with
  | .ok (.ret v) ρ => match outsE 0 ds ρ with | some ms => .ok v ms | none => .bot
  | .ok .nx ρ => match outsE 0 ds ρ with | some ms => .ok (.sh .non) ms | none => .bot
  | .exc e ρ => match outsE 0 ds ρ with | some ms => .exc e ms | none => .bot
  | _ => .bot
  else .bot
def adOf (vs : List V) (i : Nat) : Addr := match vs[i]? with
  | some (.ref p) => p
  | _ => 0
section
variable {P : Program} {w : World} {K : PySem.W.Frag} {mg : Str → Option Value} {base : Heap} {C : Nat → Addr}
theorem startE_get {n : Nat} {ds : List DV} {i : Nat} {x : DV} (h : (startE n ds)[i]? = some (some x)) : ds[i]? = some x := by
  unfold startE at h
  by_cases hi : i < ds.length
  · rw [List.getElem?_append_left (by rw [List.length_map]; exact hi), List.getElem?_map] at h
    cases e : ds[i]? with
    | none => rw [e] at h; cases h
    | some y => rw [e] at h; cases h; rfl
  · rw [List.getElem?_append_right (by rw [List.length_map]; omega)] at h
    obtain ⟨h1, h2⟩ := List.getElem?_eq_some_iff.mp h
    rw [List.getElem_replicate] at h2; cases h2
theorem start_get {N : List Str} {vs : List V} {i : Nat} {v : V} (h : vs[i]? = some v) : (L2.start N vs)[i]? = some (some v) := by
  unfold L2.start
  have hi := (List.getElem?_eq_some_iff.mp h).1
  rw [List.getElem?_append_left (by rw [List.length_map]; exact hi), List.getElem?_map, h]; rfl
theorem outs_of {cc : Cc} {B G' H' G0 H0 : Hp} {ρ : ENV} {σ : St} (R : Rl K cc B ρ σ G' H') : ∀ {vs : List V} {ds : List DV} {k : Nat} {ms : List M}, AR K cc.C B G0 H0 vs ds → (∀ j p, vs[j]? = some (.ref p) → (∃ m, ds[j]? = some (.ow m)) → σ[k + j]? = some (some (.ref p))) →
    outsE k ds ρ = some ms → Outs K cc.C B G' H' vs ds ms
  | _, _, k, ms, .nil, _, e => by cases e; exact .nil
  | _, _, k, ms, .sh h r, hσ, e => .sh (outs_of R (k := k + 1) r (fun j p h1 ⟨m, h2⟩ => by have := hσ (j + 1) p (by simpa using h1) ⟨m, by simpa using h2⟩; rw [show k + (j + 1) = k + 1 + j by omega] at this; exact this) e)
  | _, _, k, ms, .ow (p := p) (m := m0) h r, hσ, e => by
    unfold outsE at e
    split at e
    · rename_i m hm
      cases ho : outsE (k + 1) _ ρ with
      | none => rw [ho] at e; cases e
      | some ms' =>
        rw [ho] at e; cases e
        have hp := hσ 0 p rfl ⟨m0, rfl⟩
        obtain ⟨p', h1, o⟩ := R.ow k m hm
        rw [Nat.add_zero, h1] at hp
        cases hp
        exact .ow o (outs_of R (k := k + 1) r (fun j p h1 ⟨m, h2⟩ => by have := hσ (j + 1) p (by simpa using h1) ⟨m, by simpa using h2⟩; rw [show k + (j + 1) = k + 1 + j by omega] at this; exact this) ho)
    · cases e
/-- THE RULE: a def by the denotation of its body -/
theorem fn_ok {x qual : Str} {st : Stmt} {f : Addr} {fd : FuncData} {N ps : List Str} {k : Nat} (F : Fun K x qual st f fd) (S : FnScope N ps (defScope st)) (pr : List Nat) {den : ENV → R Fl} (hlen : ps.length ≤ N.length)
    (hb : ∀ (cdv : Value) (A : Around) (outer : List Env) (s : Shared) (H : Hp) (E : XK) (ad : Nat → Addr), Room k (A.deeper (PyProof.Rows.envOfC qual (defScope st) s.heap.objs.size f cdv)) →
      DSs (cxOf (L2.CX P w) P w K mg base N qual (defScope st) f cdv A outer s H E) ⟨C, fun cl d _ H => E cl d H, pr, ad, fun _ => none⟩ (defBody st) den) : FnOk P w K mg base (L2.CX P w) (k + 1) f fd ps (spF K C ps.length (runF pr N.length den)) := by
  refine F.okX S (fun vs H Q E h => ?_) (fun cdv A outer s H vs Q E hr h => ?_)
  · obtain ⟨ds, B, G, e, _⟩ := h
    exact e
  · obtain ⟨ds, B, G, hn, sB, sG, ar, ap, hF⟩ := h
    have hpos : owPos 0 ds = pr := by
      unfold runF at hF
      by_cases q : owPos 0 ds = pr
      · exact q
      · rw [if_neg q] at hF; exact hF.elim
    have hl := ar.length
    have R0 : Rl K ⟨C, fun cl d _ H => E cl d H, pr, adOf vs, fun _ => none⟩ B (startE N.length ds) (L2.start N vs) G H := by
      refine ⟨sB, sG, ?_, fun i d e => ?_, fun i m e => ?_, fun i j m m' p e1 e2 e3 e4 => ?_, fun i hi => ?_, fun _ _ e => nomatch e⟩
      · unfold L2.start startE
        rw [List.length_append, List.length_append, List.length_map, List.length_map, List.length_replicate, List.length_replicate, hl]
      · obtain ⟨v, h1, h2⟩ := ar.getSh (startE_get e)
        exact ⟨v, start_get h1, h2⟩
      · obtain ⟨p, h1, h2⟩ := ar.getOw (startE_get e)
        exact ⟨p, start_get h1, h2⟩
      · have g1 := startE_get e1
        have g2 := startE_get e2
        obtain ⟨p1, h1, _⟩ := ar.getOw g1
        obtain ⟨p2, h2, _⟩ := ar.getOw g2
        rw [start_get h1] at e3
        rw [start_get h2] at e4
        cases e3; cases e4
        exact ap i j m m' _ g1 g2 h1 h2
      · have hi : i ∈ pr := hi
        rw [← hpos] at hi
        obtain ⟨j, m, e, q⟩ := owPos_at ds 0 i hi
        rw [Nat.zero_add] at e
        subst e
        obtain ⟨p, h1, _⟩ := ar.getOw q
        rw [start_get h1]
        show _ = some (some (V.ref (adOf vs i)))
        unfold adOf
        rw [h1]
    refine ⟨_, hb cdv A outer s H E (adOf vs) hr, B, startE N.length ds, G, R0, ?_⟩
    unfold runF at hF
    rw [if_pos hpos] at hF
    have pos : ∀ {j : Nat} {m : M}, ds[j]? = some (.ow m) → j ∈ pr := by
      have go : ∀ (ds : List DV) (k j : Nat) (m : M), ds[j]? = some (.ow m) → k + j ∈ owPos k ds := by
        intro ds
        induction ds with
        | nil => intro k j m h; simp at h
        | cons a r ih =>
          intro k j m h
          cases j with
          | zero => simp at h; subst h; simp [owPos]
          | succ j =>
            have := ih (k + 1) j m (by simpa using h)
            rw [show k + 1 + j = k + (j + 1) by omega] at this
            cases a with
            | sh d => exact this
            | ow m' => exact List.mem_cons_of_mem _ this
      intro j m h
      have := go ds 0 j m h
      rw [hpos, Nat.zero_add] at this
      exact this
    have hσ : ∀ {σ' : St} {ρ : ENV} {G' H' : Hp}, Rl K ⟨C, fun cl d _ H => E cl d H, pr, adOf vs, fun _ => none⟩ B ρ σ' G' H' → ∀ (j : Nat) (p : Addr), vs[j]? = some (.ref p) → (∃ m, ds[j]? = some (.ow m)) → σ'[0 + j]? = some (some (.ref p)) := by
      intro σ' ρ G' H' R j p h1 ⟨m, h2⟩
      have := R.pa j (pos h2)
      rw [Nat.zero_add, this]
      show some (some (V.ref (adOf vs j))) = _
      unfold adOf
      rw [h1]
    have fin : ∀ {v : DV} {ρ : ENV}, (match (match outsE 0 ds ρ with | some ms => FO.ok v ms | none => .bot) with
        | .ok v ms => ∀ x G' H', Ext B G G' → Same B H' → Same G' H' → Outs K C B G' H' vs ds ms → ValR K C B G' H' vs ds x v → Q x H'
        | .exc e ms => ∀ cl dd G' H', Ext B G G' → Same B H' → Same G' H' → Outs K C B G' H' vs ds ms → ERp K C G' e cl dd → E cl dd H'
        | .bot => False) → ∀ x σ' G' H', Ext B G G' → Rl K ⟨C, fun cl d _ H => E cl d H, pr, adOf vs, fun _ => none⟩ B ρ σ' G' H' → ValR K C B G' H' vs ds x v → Q x H' := by
      intro v ρ h x σ' G' H' ex R hv
      cases ho : outsE 0 ds ρ with
      | none => rw [ho] at h; exact h.elim
      | some ms => rw [ho] at h; exact h x G' H' ex R.bk R.gk (outs_of R ar (hσ R) ho) hv
    cases hd : den (startE N.length ds) with
    | ok fl ρ =>
      rw [hd] at hF
      cases fl with
      | nx => exact fun σ' G' H' ex R => fin hF .non σ' G' H' ex R .non
      | bk => exact hF.elim
      | ct => exact hF.elim
      | ret v =>
        cases v with
        | sh d => exact fun v σ' G' H' ex R p => fin hF v σ' G' H' ex R p
        | ow m =>
          refine fun p σ' G' H' ex R o n => ?_
          have hF' := hF
          dsimp only at hF'
          cases ho : outsE 0 ds ρ with
          | none => simp only [ho] at hF'
          | some ms =>
            have os := outs_of R ar (hσ R) ho
            refine fin hF (.ref p) σ' G' H' ex R ⟨p, rfl, o, fun i m' e z => ?_⟩
            -- the argument at i is owned at the end
            have own : ∀ {vs : List V} {ds : List DV} {k i : Nat} {ms : List M} {m' : M}, outsE k ds ρ = some ms → ds[i]? = some (.ow m') → ∃ m'', ρ[k + i]? = some (some (.ow m'')) := by
              intro vs ds
              induction ds with
              | nil => intro k i ms m' _ h; simp at h
              | cons a r ih =>
                intro k i ms m' h1 h2
                cases a with
                | sh d =>
                  cases i with
                  | zero => simp at h2
                  | succ i =>
                    obtain ⟨m'', q⟩ := ih (k := k + 1) (i := i) (m' := m') h1 (by simpa using h2)
                    exact ⟨m'', by rw [show k + (i + 1) = k + 1 + i by omega]; exact q⟩
                | ow m0 =>
                  unfold outsE at h1
                  split at h1
                  · rename_i m1 hm
                    cases i with
                    | zero => exact ⟨m1, hm⟩
                    | succ i =>
                      cases ho : outsE (k + 1) r ρ with
                      | none => rw [ho] at h1; cases h1
                      | some ms' =>
                        obtain ⟨m'', q⟩ := ih (k := k + 1) (i := i) (m' := m') ho (by simpa using h2)
                        exact ⟨m'', by rw [show k + (i + 1) = k + 1 + i by omega]; exact q⟩
                  · cases h1
            obtain ⟨m'', q⟩ := own (vs := vs) ho e
            have h3 := hσ R i p z ⟨m', e⟩
            exact n _ m'' q h3
    | exc e ρ =>
      rw [hd] at hF
      refine fun cl dd σ' G' H' ex R er => ?_
      dsimp only at hF
      cases ho : outsE 0 ds ρ with
      | none => simp only [ho] at hF
      | some ms =>
        simp only [ho] at hF
        exact hF cl dd G' H' ex R.bk R.gk (outs_of R ar (hσ R) ho) er
    | bot => rw [hd] at hF; exact hF.elim
end
end Rf
set_option Elab.async false
set_option linter.all false
set_option maxRecDepth 100000
/-! Rf: calls -/
namespace Rf
open PySem PySem.Spec L2
abbrev Ag := Sum D Nat
inductive AgR (K : PySem.W.Frag) (C : Nat → Addr) (σ : St) (G : Hp) : List V → List Ag → Prop
  | nil : AgR K C σ G [] []
  | sh {v : V} {d : D} {vs : List V} {as : List Ag} (h : Rp K C G v d) (r : AgR K C σ G vs as) : AgR K C σ G (v :: vs) (.inl d :: as)
  | io {p : Addr} {i : Nat} {vs : List V} {as : List Ag} (h : σ[i]? = some (some (.ref p))) (r : AgR K C σ G vs as) : AgR K C σ G (.ref p :: vs) (.inr i :: as)
theorem AgR.mono {K : PySem.W.Frag} {C : Nat → Addr} {σ : St} {G G' : Hp} (s : Same G G') : ∀ {vs : List V} {as : List Ag}, AgR K C σ G vs as → AgR K C σ G' vs as
  | _, _, .nil => .nil
  | _, _, .sh h r => .sh (h.mono s) (r.mono s)
  | _, _, .io h r => .io h (r.mono s)
def rAg (K : PySem.W.Frag) (cc : Cc) (den : ENV → R (List Ag)) : TA := fun σ H Q => ∃ B ρ G, Rl K cc B ρ σ G H ∧ Post K cc (fun G' vs as => AgR K cc.C σ G' vs as) B G σ Q (den ρ)
def DAg (X : Cx) (cc : Cc) (e : List Expr) (den : ENV → R (List Ag)) : Prop := PA X e (rAg X.K cc den)
def aNil : ENV → R (List Ag) := fun ρ => .ok [] ρ
def aVal (da : ENV → R D) (dr : ENV → R (List Ag)) : ENV → R (List Ag) := fun ρ => (da ρ).bind fun x ρ1 => (dr ρ1).bind fun xs ρ2 => .ok (.inl x :: xs) ρ2
def aIo (i : Nat) (dr : ENV → R (List Ag)) : ENV → R (List Ag) := fun ρ => match ρ[i]? with
  | some (some (.ow _)) => (dr ρ).bind fun xs ρ2 => .ok (.inr i :: xs) ρ2
  | _ => .bot
section
variable {X : Cx} {cc : Cc} {e : Expr} {es : List Expr} {da : ENV → R D} {dr : ENV → R (List Ag)} {pos p : Pos}
theorem dag_nil : DAg X cc [] aNil := PA.imp pa_nil fun σ H Q ⟨B, ρ, G, R0, h⟩ => h [] G H (Ext.refl _ _) R0 .nil
theorem dag_val (ha : DE X cc e da) (hr : DAg X cc es dr) (hs : starEach (e :: es) X.env = (false, eval e X.env) :: starEach es X.env := by rfl) : DAg X cc (e :: es) (aVal da dr) := by
  refine PA.imp (pa_cons ha hr hs) fun σ H Q ⟨B, ρ, G, R0, h⟩ => ⟨B, ρ, G, R0, Post.bind (V2 := fun G' vs as => AgR X.K cc.C σ G' vs as) h fun d1 ρ1 G1 H1 x e1 R1 p1 h1 => ⟨B, ρ1, G1, R1, Post.bind (V2 := fun G' vs as => AgR X.K cc.C σ G' vs as) h1 fun d2 ρ2 G2 H2 y e2 R2 p2 h2 => ?_⟩⟩
  exact h2 (x :: y) G2 H2 (Ext.refl _ _) R2 (.sh (p1.mono e2.gg) p2)
theorem dag_io (i : Nat) {x : Str} {p2 : Pos} (hr : DAg X cc es dr) (hN : X.N[i]? = some x := by rfl) (hv : Vis X.env.scope x := by first | exact Or.inl rfl | exact Or.inr (Or.inl rfl) | exact Or.inr (Or.inr rfl)) (hd : (x == ("__debug__" : Str)) = false := by decide)
    (hcd : (x == ("__classdict__" : Str)) = false := by decide) (hs : starEach (.Name x p2 :: es) X.env = (false, eval (.Name x p2) X.env) :: starEach es X.env := by rfl) : DAg X cc (.Name x p2 :: es) (aIo i dr) := by
  refine PA.imp (pa_cons (pe_var hN hv hd hcd) hr hs) fun σ H Q ⟨B, ρ, G, R0, h⟩ => ?_
  unfold aIo at h
  split at h
  rotate_left
  · exact h.elim
  rename_i m e
  obtain ⟨q, hq, _⟩ := R0.ow i m e
  refine ⟨_, hq, B, ρ, G, R0, Post.bind (V2 := fun G' vs as => AgR X.K cc.C σ G' vs as) h fun d2 ρ2 G2 H2 y e2 R2 p2 h2 => ?_⟩
  exact h2 (.ref q :: y) G2 H2 (Ext.refl _ _) R2 (.io hq p2)
/-- the arguments' data at the call -/
def reso (ρ : ENV) : List Ag → Option (List DV)
  | [] => some []
  | .inl d :: r => (reso ρ r).map (.sh d :: ·)
  | .inr i :: r => match ρ[i]? with
    | some (some (.ow m)) => (reso ρ r).map (.ow m :: ·)
    | _ => none
def slots : List Ag → List Nat
  | [] => []
  | .inl _ :: r => slots r
  | .inr i :: r => i :: slots r
def putB : List Ag → List M → ENV → Option ENV
  | [], [], ρ => some ρ
  | .inl _ :: r, ms, ρ => putB r ms ρ
  | .inr i :: r, m :: ms, ρ => putB r ms (ρ.set i (some (.ow m)))
  | _, _, _ => none
def nodupB : List Nat → Bool
  | [] => true
  | i :: r => !r.contains i && nodupB r
def stepR (F : List DV → FO) (as : List Ag) (ρ : ENV) : R DV := match (if nodupB (slots as) = true then reso ρ as else none) with
  | some ds => match F ds with
    | .ok v ms => match putB as ms ρ with | some ρ2 => .ok v ρ2 | none => .bot
    | .exc e ms => match putB as ms ρ with | some ρ2 => .exc e ρ2 | none => .bot
    | .bot => .bot
  | none => .bot
def PostV (K : PySem.W.Frag) (cc : Cc) (B G : Hp) (σ : St) (Q : V → Hp → Prop) (r : R DV) : Prop := match r with
  | .ok (.sh d) ρ' => ∀ x G' H', Ext B G G' → Rl K cc B ρ' σ G' H' → Rp K cc.C G' x d → Q x H'
  | .ok (.ow m) ρ' => ∀ p G' H', Ext B G G' → Rl K cc B ρ' σ G' H' → Own K cc.C B G' H' p m → NotAt ρ' σ p → Q (.ref p) H'
  | .exc e ρ' => ∀ cl dd G' H', Ext B G G' → Rl K cc B ρ' σ G' H' → ERp K cc.C G' e cl dd → cc.W cl dd σ H'
  | .bot => False
def onSh : DV → ENV → R D
  | .sh d, ρ => .ok d ρ
  | .ow _, _ => .bot
def onOw : DV → ENV → R M
  | .sh _, _ => .bot
  | .ow m, ρ => .ok m ρ
theorem PostV.sh {K : PySem.W.Frag} {cc : Cc} {B G : Hp} {σ : St} {Q : V → Hp → Prop} {r : R DV} (h : Post K cc (Rp K cc.C) B G σ Q (r.bind onSh)) : PostV K cc B G σ Q r := by
  cases r with
  | ok v ρ => cases v with
    | sh d => exact h
    | ow m => exact h.elim
  | exc e ρ => exact h
  | bot => exact h
theorem PostV.ow {K : PySem.W.Frag} {cc : Cc} {B G : Hp} {σ : St} {Q : V → Hp → Prop} {r : R DV} (h : PostF K cc B G σ Q (r.bind onOw)) : PostV K cc B G σ Q r := by
  cases r with
  | ok v ρ => cases v with
    | sh d => exact h.elim
    | ow m => exact h
  | exc e ρ => exact h
  | bot => exact h
/-- the addresses at the slots -/
def addrAt (σ : St) (i : Nat) : Option Addr := match σ[i]? with
  | some (some (V.ref p)) => some p
  | _ => none
def addrs (σ : St) (as : List Ag) : List Addr := (slots as).filterMap (addrAt σ)
theorem mem_addrs {σ : St} {as : List Ag} {p : Addr} : p ∈ addrs σ as ↔ ∃ i, i ∈ slots as ∧ σ[i]? = some (some (.ref p)) := by
  unfold addrs
  rw [List.mem_filterMap]
  constructor
  · rintro ⟨i, hi, e⟩
    refine ⟨i, hi, ?_⟩
    unfold addrAt at e
    split at e
    · cases e; assumption
    · cases e
  · rintro ⟨i, hi, e⟩
    exact ⟨i, hi, by unfold addrAt; rw [e]⟩
/-- what the callee is to keep -/
def keepB (H : Hp) (σ : St) (as : List Ag) : Hp := fun b => if b ∈ addrs σ as then none else H b
section
variable {K : PySem.W.Frag} {B G H G' H' : Hp} {ρ ρ2 : ENV} {σ : St}
theorem keepB_same : Same (keepB H σ as) H := fun b u e => by
  unfold keepB at e
  split at e
  · cases e
  · exact e
theorem keepB_in {p : Addr} (h : p ∈ addrs σ as) : keepB H σ as p = none := by unfold keepB; rw [if_pos h]
theorem keepB_out {p : Addr} (h : p ∉ addrs σ as) : keepB H σ as p = H p := by unfold keepB; rw [if_neg h]
/-- the arguments as the callee sees them -/
theorem ar_of (R : Rl K cc B ρ σ G H) (B' : Hp) {vs : List V} {as : List Ag} (r : AgR K cc.C σ G vs as) : ∀ {ds : List DV}, (∀ p, (∃ i, i ∈ slots as ∧ σ[i]? = some (some (V.ref p))) → B' p = none) → reso ρ as = some ds → AR K cc.C B' G H vs ds := by
  induction r with
  | nil => intro ds _ e; cases e; exact .nil
  | @sh v d vs as h r ih =>
    intro ds hb e
    unfold reso at e
    cases hr : reso ρ as with
    | none => rw [hr] at e; cases e
    | some ds' => rw [hr] at e; cases e; exact AR.sh h (ih hb hr)
  | @io p i vs as h r ih =>
    intro ds hb e
    unfold reso at e
    split at e
    · rename_i m hm
      cases hr : reso ρ as with
      | none => rw [hr] at e; cases e
      | some ds' =>
        rw [hr] at e; cases e
        obtain ⟨p', h1, o⟩ := R.ow i m hm
        rw [h] at h1; cases h1
        exact AR.ow ⟨hb p ⟨i, List.mem_cons_self, h⟩, o.ng, o.at_⟩ (ih (fun p ⟨j, hj, q⟩ => hb p ⟨j, List.mem_cons_of_mem _ hj, q⟩) hr)
    · cases e
/-- an owned argument comes from an owned slot -/
theorem slot_of {vs : List V} {as : List Ag} {ds : List DV} (r : AgR K cc.C σ G vs as) (e : reso ρ as = some ds) : ∀ {j : Nat} {m : M}, ds[j]? = some (.ow m) → ∃ i p, as[j]? = some (.inr i) ∧ i ∈ slots as ∧ ρ[i]? = some (some (.ow m)) ∧ vs[j]? = some (.ref p) ∧ σ[i]? = some (some (.ref p)) := by
  induction r generalizing ds with
  | nil => intro j m h; cases e; simp at h
  | @sh v d vs as h r ih =>
    intro j m hj
    unfold reso at e
    cases hr : reso ρ as with
    | none => rw [hr] at e; cases e
    | some ds' =>
      rw [hr] at e; cases e
      cases j with
      | zero => simp at hj
      | succ j =>
        obtain ⟨i, p, h1, h2, h3, h4, h5⟩ := ih hr (j := j) (m := m) (by simpa using hj)
        exact ⟨i, p, by simpa using h1, h2, h3, by simpa using h4, h5⟩
  | @io p i vs as h r ih =>
    intro j m hj
    unfold reso at e
    split at e
    · rename_i m0 hm
      cases hr : reso ρ as with
      | none => rw [hr] at e; cases e
      | some ds' =>
        rw [hr] at e; cases e
        cases j with
        | zero => simp at hj; subst hj; exact ⟨i, p, rfl, List.mem_cons_self, hm, rfl, h⟩
        | succ j =>
          obtain ⟨i', p', h1, h2, h3, h4, h5⟩ := ih hr (j := j) (m := m) (by simpa using hj)
          exact ⟨i', p', by simpa using h1, List.mem_cons_of_mem _ h2, h3, by simpa using h4, h5⟩
    · cases e
theorem slots_at : ∀ {as : List Ag} {j j' i : Nat}, nodupB (slots as) = true → as[j]? = some (.inr i) → as[j']? = some (.inr i) → j = j'
  | [], j, j', i, _, h, _ => by simp at h
  | .inl d :: r, j, j', i, hn, h, h' => by
    cases j with
    | zero => simp at h
    | succ j => cases j' with
      | zero => simp at h'
      | succ j' => rw [slots_at (as := r) (j := j) (j' := j') (i := i) hn (by simpa using h) (by simpa using h')]
  | .inr k :: r, j, j', i, hn, h, h' => by
    have hn' : (!(slots r).contains k && nodupB (slots r)) = true := hn
    rw [Bool.and_eq_true, Bool.not_eq_true'] at hn'
    have nk : ∀ j : Nat, r[j]? = some (.inr k) → False := fun j h => by
      have : ∀ (r : List Ag) (j : Nat), r[j]? = some (.inr k) → k ∈ slots r := by
        intro r
        induction r with
        | nil => intro j h; simp at h
        | cons a r ih =>
          intro j h
          cases j with
          | zero => simp at h; subst h; exact List.mem_cons_self
          | succ j =>
            have := ih j (by simpa using h)
            cases a with
            | inl d => exact this
            | inr i => exact List.mem_cons_of_mem _ this
      have := this r j h
      have := hn'.1
      simp at this
      exact this ‹_›
    cases j with
    | zero =>
      simp at h; subst h
      cases j' with
      | zero => rfl
      | succ j' => exact (nk j' (by simpa using h')).elim
    | succ j => cases j' with
      | zero => simp at h'; subst h'; exact (nk j (by simpa using h)).elim
      | succ j' => rw [slots_at (as := r) (j := j) (j' := j') (i := i) hn'.2 (by simpa using h) (by simpa using h')]
/-- behind the call: one owned slot after another -/
theorem put_ok {vs : List V} {as : List Ag} (r : AgR K cc.C σ G vs as) : ∀ {ds : List DV} {ms : List M} {ρ ρ2 ρs : ENV}, reso ρs as = some ds → Outs K cc.C B G' H' vs ds ms → putB as ms ρ = some ρ2 → nodupB (slots as) = true →
    ρ2.length = ρ.length ∧ (∀ i, i ∉ slots as → ρ2[i]? = ρ[i]?) ∧ ∀ i, i ∈ slots as → i < ρ.length → ∃ m p, ρ2[i]? = some (some (DV.ow m)) ∧ σ[i]? = some (some (V.ref p)) ∧ Own K cc.C B G' H' p m := by
  induction r with
  | nil =>
    intro ds ms ρ ρ2 ρs e o h hn
    cases e
    cases o
    cases h
    exact ⟨rfl, fun _ _ => rfl, fun i hi => by cases hi⟩
  | @sh v d vs as h r ih =>
    intro ds ms ρ ρ2 ρs e o hp hn
    unfold reso at e
    cases hr : reso ρs as with
    | none => rw [hr] at e; cases e
    | some ds' =>
      rw [hr] at e; cases e
      cases o with
      | sh o => exact ih hr o hp hn
  | @io p i vs as h r ih =>
    intro ds ms ρ ρ2 ρs e o hp hn
    have hn' : (!(slots as).contains i && nodupB (slots as)) = true := hn
    rw [Bool.and_eq_true, Bool.not_eq_true'] at hn'
    have ni : i ∉ slots as := fun z => by
      have := hn'.1
      simp at this
      exact this z
    unfold reso at e
    split at e
    · rename_i m0 hm
      cases hr : reso ρs as with
      | none => rw [hr] at e; cases e
      | some ds' =>
        rw [hr] at e; cases e
        cases o with
        | ow ho o =>
          rename_i m' ms'
          obtain ⟨h1, h2, h3⟩ := ih hr o (show putB as ms' (ρ.set i (some (.ow m'))) = some ρ2 from hp) hn'.2
          rw [List.length_set] at h1
          refine ⟨h1, fun j hj => ?_, fun j hj hl => ?_⟩
          · have h4 : j ≠ i := fun z => hj (by rw [z]; exact List.mem_cons_self)
            rw [h2 j fun z => hj (List.mem_cons_of_mem _ z), List.getElem?_set_ne (Ne.symm h4)]
          · by_cases q : j = i
            · subst q
              exact ⟨m', p, by rw [h2 j ni, List.getElem?_set_self hl], h, ho⟩
            · rcases List.mem_cons.mp hj with z | z
              · exact absurd z q
              · exact h3 j z (by rw [List.length_set]; exact hl)
    · cases e
/-- the caller behind the call -/
theorem Rl.called (R : Rl K cc B ρ σ G H) {vs : List V} {as : List Ag} {ds : List DV} {ms : List M} (ag : AgR K cc.C σ G vs as) (he : reso ρ as = some ds) (hn : nodupB (slots as) = true) (hp : putB as ms ρ = some ρ2) (ho : ∀ i ∈ slots as, ∃ m, ρ[i]? = some (some (.ow m)))
    (ex : Ext (keepB H σ as) G G') (kp : Same (keepB H σ as) H') (gk : Same G' H') (os : Outs K cc.C (keepB H σ as) G' H' vs ds ms) : Ext B G G' ∧ Rl K cc B ρ2 σ G' H' := by
  have own : ∀ p, p ∈ addrs σ as → B p = none ∧ G p = none := fun p hp => by
    obtain ⟨i, hi, e⟩ := mem_addrs.mp hp
    obtain ⟨m, hm⟩ := ho i hi
    obtain ⟨p', h1, o⟩ := R.ow i m hm
    rw [e] at h1; cases h1
    exact ⟨o.nb, o.ng⟩
  have kb : ∀ b, keepB H σ as b = none → B b = none := fun b h => by
    by_cases q : b ∈ addrs σ as
    · exact (own b q).1
    · rw [keepB_out q] at h; exact R.bk.free h
  obtain ⟨h1, h2, h3⟩ := put_ok ag he os hp hn
  have old : ∀ {i : Nat} {m : M}, ρ2[i]? = some (some (.ow m)) → (i ∈ slots as ∧ ∃ m0, ρ[i]? = some (some (.ow m0))) ∨ (i ∉ slots as ∧ ρ[i]? = some (some (.ow m))) := fun {i m} e => by
    by_cases q : i ∈ slots as
    · exact .inl ⟨q, ho i q⟩
    · exact .inr ⟨q, by rw [← h2 i q]; exact e⟩
  refine ⟨⟨ex.gg, fun a u e => ?_⟩, ⟨fun b u e => ?_, gk, by rw [h1]; exact R.ln, fun i d e => ?_, fun i m e => ?_, fun i j m m' p e1 e2 e3 e4 => ?_, R.pa, R.kg.trans ex.gg⟩⟩
  · rcases ex.nb a u e with h | h
    · exact .inl h
    · exact .inr (kb a h)
  · refine kp b u ?_
    have q : b ∉ addrs σ as := fun z => by rw [(own b z).1] at e; cases e
    rw [keepB_out q]; exact R.bk b u e
  · by_cases q : i ∈ slots as
    · obtain ⟨m, hm⟩ := ho i q
      obtain ⟨m', p, h4, _⟩ := h3 i q (List.getElem?_eq_some_iff.mp hm).1
      rw [h4] at e; cases e
    · rw [h2 i q] at e
      obtain ⟨v, h4, h5⟩ := R.sh i d e
      exact ⟨v, h4, h5.mono ex.gg⟩
  · by_cases q : i ∈ slots as
    · obtain ⟨m0, hm⟩ := ho i q
      obtain ⟨m', p, h4, h5, h6⟩ := h3 i q (List.getElem?_eq_some_iff.mp hm).1
      rw [h4] at e; cases e
      exact ⟨p, h5, (own p (mem_addrs.mpr ⟨i, q, h5⟩)).1, h6.ng, h6.at_⟩
    · rw [h2 i q] at e
      obtain ⟨p, h4, o⟩ := R.ow i m e
      have np : p ∉ addrs σ as := fun z => by
        obtain ⟨j, hj, ej⟩ := mem_addrs.mp z
        obtain ⟨m0, hm⟩ := ho j hj
        exact q (by rw [R.df i j m m0 p e hm h4 ej]; exact hj)
      obtain ⟨x, hx, hm⟩ := o.at_
      refine ⟨p, h4, o.nb, ?_, x, kp p x (by rw [keepB_out np]; exact hx), hm.mono ex.gg⟩
      cases hg : G' p with
      | none => rfl
      | some u =>
        rcases ex.nb p u hg with h | h
        · rw [o.ng] at h; cases h
        · rw [keepB_out np, hx] at h; cases h
  · have g : ∀ {i : Nat} {m : M}, ρ2[i]? = some (some (.ow m)) → ∃ m0, ρ[i]? = some (some (.ow m0)) := fun {i m} e => by
      rcases old e with ⟨_, h⟩ | ⟨_, h⟩
      · exact h
      · exact ⟨m, h⟩
    obtain ⟨m1, q1⟩ := g e1
    obtain ⟨m2, q2⟩ := g e2
    exact R.df i j m1 m2 p q1 q2 e3 e4
theorem reso_own : ∀ {as : List Ag} {ds : List DV}, reso ρ as = some ds → ∀ i ∈ slots as, ∃ m, ρ[i]? = some (some (.ow m))
  | [], _, _, i, h => by cases h
  | .inl d :: r, ds, e, i, h => by
    unfold reso at e
    cases hr : reso ρ r with
    | none => rw [hr] at e; cases e
    | some ds' => exact reso_own hr i h
  | .inr k :: r, ds, e, i, h => by
    unfold reso at e
    split at e
    · rename_i m hm
      rcases List.mem_cons.mp h with z | z
      · subst z; exact ⟨m, hm⟩
      · cases hr : reso ρ r with
        | none => rw [hr] at e; cases e
        | some ds' => exact reso_own hr i z
    · cases e
/-- THE STEP: the callee's promise gives what the caller's reading wants -/
theorem call_core (F : List DV → FO) {n : Nat} {Q : V → Hp → Prop} {vs : List V} {as : List Ag} (R : Rl K cc B ρ σ G H) (ag : AgR K cc.C σ G vs as) (hl : vs.length = n)
    (h : PostV K cc B G σ Q (stepR F as ρ)) : spF K cc.C n F vs H Q (WE cc.W σ) := by
  unfold stepR at h
  by_cases hn : nodupB (slots as) = true
  rotate_left
  · rw [if_neg hn] at h; exact h.elim
  rw [if_pos hn] at h
  cases he : reso ρ as with
  | none => rw [he] at h; exact h.elim
  | some ds => ?_
  rw [he] at h
  dsimp only at h
  have ho := reso_own he
  have knb : ∀ p, (∃ i, i ∈ slots as ∧ σ[i]? = some (some (.ref p))) → keepB H σ as p = none := fun p hp => keepB_in (mem_addrs.mpr hp)
  refine ⟨ds, keepB H σ as, G, hl, keepB_same, R.gk, ar_of R _ ag knb he, fun i j m m' p e1 e2 e3 e4 => ?_, ?_⟩
  · obtain ⟨i1, p1, a1, s1, r1, v1, g1⟩ := slot_of ag he e1
    obtain ⟨i2, p2, a2, s2, r2, v2, g2⟩ := slot_of ag he e2
    rw [v1] at e3; cases e3
    rw [v2] at e4; cases e4
    have := R.df i1 i2 m m' _ r1 r2 g1 g2
    subst this
    exact slots_at hn a1 a2
  · cases hF : F ds with
    | bot => rw [hF] at h; exact h
    | exc e ms =>
      rw [hF] at h
      dsimp only at h
      refine fun cl dd G' H' ex kp gk os er => ?_
      cases hp : putB as ms ρ with
      | none => rw [hp] at h; exact h.elim
      | some ρ2 =>
        rw [hp] at h
        obtain ⟨ex', R'⟩ := R.called ag he hn hp ho ex kp gk os
        exact h cl dd G' H' ex' R' er
    | ok v ms =>
      rw [hF] at h
      dsimp only at h
      refine fun x G' H' ex kp gk os hv => ?_
      cases hp : putB as ms ρ with
      | none => rw [hp] at h; exact h.elim
      | some ρ2 =>
        rw [hp] at h
        obtain ⟨ex', R'⟩ := R.called ag he hn hp ho ex kp gk os
        cases v with
        | sh d => exact h x G' H' ex' R' hv
        | ow m =>
          obtain ⟨p, rfl, o, nf⟩ := hv
          have nb := o.nb
          -- p is no slot's object
          have notArg : p ∉ addrs σ as := fun z => by
            obtain ⟨i, hi, e⟩ := mem_addrs.mp z
            have find : ∀ {vs : List V} {as : List Ag} {ds : List DV}, AgR K cc.C σ G vs as → reso ρ as = some ds → i ∈ slots as → ∃ (j : Nat) (m : M), ds[j]? = some (DV.ow m) ∧ vs[j]? = some (V.ref p) := by
              intro vs as ds r
              induction r generalizing ds with
              | nil => intro _ h; cases h
              | @sh v d vs as h r ih =>
                intro e2 h2
                unfold reso at e2
                cases hr : reso ρ as with
                | none => rw [hr] at e2; cases e2
                | some ds' =>
                  rw [hr] at e2; cases e2
                  obtain ⟨j, m, q1, q2⟩ := ih hr h2
                  exact ⟨j + 1, m, by simpa using q1, by simpa using q2⟩
              | @io p' i' vs as h r ih =>
                intro e2 h2
                unfold reso at e2
                split at e2
                · rename_i m0 hm
                  cases hr : reso ρ as with
                  | none => rw [hr] at e2; cases e2
                  | some ds' =>
                    rw [hr] at e2; cases e2
                    rcases List.mem_cons.mp h2 with z | z
                    · subst z
                      rw [e] at h; cases h
                      exact ⟨0, m0, rfl, rfl⟩
                    · obtain ⟨j, m, q1, q2⟩ := ih hr z
                      exact ⟨j + 1, m, by simpa using q1, by simpa using q2⟩
                · cases e2
            obtain ⟨j, m, q1, q2⟩ := find ag he hi
            exact nf j m q1 q2
          rw [keepB_out notArg] at nb
          refine h p G' H' ex' R' ⟨R.bk.free nb, o.ng, o.at_⟩ fun i m' e z => ?_
          obtain ⟨p', h1, o'⟩ := R'.ow i m' e
          rw [z] at h1; cases h1
          -- the slot i was owned ahead of the call, and its object stood there
          have : ∃ m0, ρ[i]? = some (some (.ow m0)) := by
            by_cases q : i ∈ slots as
            · exact ho i q
            · obtain ⟨_, h2, _⟩ := put_ok ag he os hp hn
              exact ⟨m', by rw [← h2 i q]; exact e⟩
          obtain ⟨m0, hm0⟩ := this
          obtain ⟨p2, h3, o2⟩ := R.ow i m0 hm0
          rw [z] at h3; cases h3
          obtain ⟨y, hy, _⟩ := o2.at_
          rw [nb] at hy; cases hy
end
/-! ### f(..) -/
structure Callee (X : Cx) (cc : Cc) (x : Str) (n : Nat) (F : List DV → FO) : Prop where
  ex : ∃ (f : Addr) (fd : FuncData) (ps : List Str) (k : Nat), ps.length = n ∧ FnOk X.prog X.w X.K X.mg X.base (L2.CX X.prog X.w) k f fd ps (spF X.K cc.C n F) ∧ Room k X.A ∧ X.mg x = some (.ref f) ∧ PySem.W.keepIn X.K (.ref f) = true ∧ Binds X.K fd ps []
def dCall (F : List DV → FO) (dr : ENV → R (List Ag)) : ENV → R D := fun ρ => ((dr ρ).bind (stepR F)).bind onSh
def fCall (F : List DV → FO) (dr : ENV → R (List Ag)) : ENV → R M := fun ρ => ((dr ρ).bind (stepR F)).bind onOw
theorem AgR.length {K : PySem.W.Frag} {C : Nat → Addr} {σ : St} {G : Hp} : ∀ {vs : List V} {as : List Ag}, AgR K C σ G vs as → vs.length = as.length
  | _, _, .nil => rfl
  | _, _, .sh _ r => congrArg (· + 1) r.length
  | _, _, .io _ r => congrArg (· + 1) r.length
/-- n arguments come -/
def Many (n : Nat) (dr : ENV → R (List Ag)) : Prop := ∀ ρ as ρ1, dr ρ = .ok as ρ1 → as.length = n
theorem many_nil : Many 0 aNil := fun ρ as ρ1 e => by cases e; rfl
theorem many_val {n : Nat} (h : Many n dr) : Many (n + 1) (aVal da dr) := fun ρ as ρ1 e => by
  dsimp only [aVal] at e
  cases hd : da ρ with
  | ok d ρ2 =>
    rw [hd] at e
    dsimp only [R.bind] at e
    cases hr : dr ρ2 with
    | ok as' ρ3 => rw [hr] at e; cases e; exact congrArg (· + 1) (h _ _ _ hr)
    | exc _ _ => rw [hr] at e; cases e
    | bot => rw [hr] at e; cases e
  | exc _ _ => rw [hd] at e; cases e
  | bot => rw [hd] at e; cases e
theorem many_io {n i : Nat} (h : Many n dr) : Many (n + 1) (aIo i dr) := fun ρ as ρ1 e => by
  dsimp only [aIo] at e
  split at e
  · cases hr : dr ρ with
    | ok as' ρ3 => rw [hr] at e; cases e; exact congrArg (· + 1) (h _ _ _ hr)
    | exc _ _ => rw [hr] at e; cases e
    | bot => rw [hr] at e; cases e
  · cases e
variable {x : Str} {F : List DV → FO} {n : Nat}
theorem PostV.ext {K : PySem.W.Frag} {cc : Cc} {B G G1 : Hp} {σ : St} {Q : V → Hp → Prop} {r : R DV} (h : PostV K cc B G σ Q r) (x : Ext B G G1) : PostV K cc B G1 σ Q r := by
  cases r with
  | ok v ρ => cases v with
    | sh d => exact fun v G' H' e => h v G' H' (x.trans e)
    | ow m => exact fun v G' H' e => h v G' H' (x.trans e)
  | exc e ρ => exact fun cl dd G' H' e => h cl dd G' H' (x.trans e)
  | bot => exact h
theorem call_read {σ : St} {H : Hp} {Q : V → Hp → Prop} (hn : Many n dr) {B G : Hp} {ρ : ENV} (R0 : Rl X.K cc B ρ σ G H) (h : PostV X.K cc B G σ Q ((dr ρ).bind (stepR F))) : tCallS (spF X.K cc.C n F) (WE cc.W) (rAg X.K cc dr) σ H Q := by
  refine ⟨B, ρ, G, R0, ?_⟩
  cases hd : dr ρ with
  | exc e ρ1 => rw [hd] at h; exact h
  | bot => rw [hd] at h; exact h
  | ok as ρ1 =>
    rw [hd] at h
    intro vs G1 H1 e1 R1 ag
    exact call_core F R1 ag (ag.length.trans (hn ρ as ρ1 hd)) (PostV.ext h e1)
theorem pe_callS0 {CX : CXT} {k : Nat} {f : Addr} {fd : FuncData} {ps : List Str} {sp : Sp} {E : St → XK} (F : FnOk X.prog X.w X.K X.mg X.base CX k f fd ps sp) (hr : Room k X.A) (hg : Gl X x) (hm : X.mg x = some (.ref f)) (hk : PySem.W.keepIn X.K (.ref f) = true) (hb : Binds X.K fd ps []) (hx : ∀ σ, PassesAt CX X σ (E σ))
    (hdb : (x == ("__debug__" : Str)) = false := by decide) : PE X (.Call (.Name x p) [] [] pos) (tCallS sp E tNil) := by
  refine ⟨fun pins s σ H Q I h => ?_⟩
  refine wpAny_Call_Name_kw (ld_glob I hg hm ?_ hdb)
  exact PySem.W.callWith_K0 I.kIn hk (run_fnS (us := []) F hr hb (hx σ) I .nil h)
theorem pe_callR {e : Expr} {es : List Expr} (c : Callee X cc x n F) (tk : Takes X cc.W) (ha : DAg X cc (e :: es) dr) (hg : Gl X x)
    (hdb : (x == ("__debug__" : Str)) = false := by decide) (he : starEach (e :: es) X.env = (false, eval e X.env) :: starEach es X.env := by rfl) (hpl : (backTo pos (starEach es X.env)).any (·.1) = false := by rfl) :
    PE X (.Call (.Name x p) (e :: es) [] pos) (tCallS (spF X.K cc.C n F) (WE cc.W) (rAg X.K cc dr)) := by
  obtain ⟨f, fd, ps, k, hps, G, hr, hm, hk, hb⟩ := c.ex
  exact pe_callS G hr hg hm hk hb (fun σ => passAt tk σ) ha hdb he hpl
theorem de_call {e : Expr} {es : List Expr} (c : Callee X cc x n F) (tk : Takes X cc.W) (ha : DAg X cc (e :: es) dr) (hn : Many n dr) (hg : Gl X x := by rfl)
    (hdb : (x == ("__debug__" : Str)) = false := by decide) (he : starEach (e :: es) X.env = (false, eval e X.env) :: starEach es X.env := by rfl) (hpl : (backTo pos (starEach es X.env)).any (·.1) = false := by rfl) :
    DE X cc (.Call (.Name x p) (e :: es) [] pos) (dCall F dr) := PE.imp (pe_callR c tk ha hg hdb he hpl) fun σ H Q ⟨B, ρ, G, R0, h⟩ => call_read hn R0 (PostV.sh h)
theorem df_call {e : Expr} {es : List Expr} (c : Callee X cc x n F) (tk : Takes X cc.W) (ha : DAg X cc (e :: es) dr) (hn : Many n dr) (hg : Gl X x := by rfl)
    (hdb : (x == ("__debug__" : Str)) = false := by decide) (he : starEach (e :: es) X.env = (false, eval e X.env) :: starEach es X.env := by rfl) (hpl : (backTo pos (starEach es X.env)).any (·.1) = false := by rfl) :
    DF X cc (.Call (.Name x p) (e :: es) [] pos) (fCall F dr) := PE.imp (pe_callR c tk ha hg hdb he hpl) fun σ H Q ⟨B, ρ, G, R0, h⟩ => call_read hn R0 (PostV.ow h)
theorem pe_callR0 (c : Callee X cc x 0 F) (tk : Takes X cc.W) (hg : Gl X x) (hdb : (x == ("__debug__" : Str)) = false := by decide) :
    PE X (.Call (.Name x p) [] [] pos) (tCallS (spF X.K cc.C 0 F) (WE cc.W) tNil) := by
  obtain ⟨f, fd, ps, k, hps, G, hr, hm, hk, hb⟩ := c.ex
  exact pe_callS0 G hr hg hm hk hb (fun σ => passAt tk σ) hdb
theorem call_read0 {σ : St} {H : Hp} {Q : V → Hp → Prop} {B G : Hp} {ρ : ENV} (R0 : Rl X.K cc B ρ σ G H) (h : PostV X.K cc B G σ Q (stepR F [] ρ)) : tCallS (spF X.K cc.C 0 F) (WE cc.W) tNil σ H Q :=
  call_core F R0 .nil rfl h
theorem de_call0 (c : Callee X cc x 0 F) (tk : Takes X cc.W) (hg : Gl X x := by rfl) (hdb : (x == ("__debug__" : Str)) = false := by decide) : DE X cc (.Call (.Name x p) [] [] pos) (dCall F aNil) :=
  PE.imp (pe_callR0 c tk hg hdb) fun σ H Q ⟨B, ρ, G, R0, h⟩ => call_read0 R0 (PostV.sh h)
theorem df_call0 (c : Callee X cc x 0 F) (tk : Takes X cc.W) (hg : Gl X x := by rfl) (hdb : (x == ("__debug__" : Str)) = false := by decide) : DF X cc (.Call (.Name x p) [] [] pos) (fCall F aNil) :=
  PE.imp (pe_callR0 c tk hg hdb) fun σ H Q ⟨B, ρ, G, R0, h⟩ => call_read0 R0 (PostV.ow h)
end
end Rf
set_option Elab.async false
set_option linter.all false
set_option maxRecDepth 100000
/-! Rf: raise, try -/
namespace Rf
open PySem PySem.Spec L2
section
variable {X : Cx} {cc : Cc} {pos p : Pos}
/-- X() of an own exception class without __init__ -/
theorem pmk_own0 {C : Addr} {bmB : List Value} {B newId initId : String} {x : Str} (F : ExcBaseFacts B newId initId bmB) (q : PySem.W.excIn X.K C bmB newId = true) (gC : X.mg x = some (.ref C)) (kC : PySem.W.keepIn X.K (.ref C) = true) (r : Raises X (.ref C)) (hg : Gl X x)
    (hdb : (x == ("__debug__" : Str)) = false := by decide) : PMk X (.Call (.Name x p) [] [] pos) (fun _ H Q => Q (.ref C) none H) := by
  intro pins s σ H Q I h
  refine wpAny_Call_Name_kw (ld_glob I hg gC ?_ hdb)
  refine PySem.W.callWith_K0 I.kIn kC ?_
  obtain ⟨bm, N, nm, qn, bs, hdct, sn, sub, ab, col, dd, k0, k1, k2, k3, k5, mN, hC, hN, hni, T⟩ := exc_obj I.kIn q
  refine wpAny_call_exc_subT F T hC hN hni (fun h' e hm => ?_) (by show 0 ≤ sizeLine; exact Nat.zero_le _)
  exact mk_of I hm r h (I.hok.gone hm.new)
def sRaise (e : EX) : ENV → R Fl := fun ρ => .exc e ρ
theorem ds_raise0 {c : Nat} {e : Expr} (hc : X.calm = true) (tk : Takes X cc.W) (hm : PMk X e (fun _ H Q => Q (.ref (cc.C c)) none H)) : DS X cc (.Raise (some e) none pos) (sRaise ⟨c, []⟩) :=
  PS.imp (ps_raise hc tk hm) fun Dn σ H ⟨B, ρ, G, R0, h⟩ => h (.ref (cc.C c)) none σ G H (Ext.refl _ _) R0 ⟨rfl, .inl ⟨rfl, rfl⟩⟩
theorem Rl.toW {K : PySem.W.Frag} {B : Hp} {ρ : ENV} {σ : St} {G H : Hp} (r : Rl K cc B ρ σ G H) (W : WX) : Rl K { cc with W := W } B ρ σ G H := ⟨r.bk, r.gk, r.ln, r.sh, r.ow, r.df, r.pa, r.kg⟩
theorem Rl.ofW {K : PySem.W.Frag} {B : Hp} {ρ : ENV} {σ : St} {G H : Hp} {W : WX} (r : Rl K { cc with W := W } B ρ σ G H) : Rl K cc B ρ σ G H := ⟨r.bk, r.gk, r.ln, r.sh, r.ow, r.df, r.pa, r.kg⟩
abbrev Cc.quiet (cc : Cc) : Cc := { cc with W := fun _ _ _ _ => False }
/-- behind a body that ends in order -/
theorem PostS.toW {K : PySem.W.Frag} {B G : Hp} {Dn : Ends} {r : R Fl} {W : WX} (h : PostS K cc B G Dn r) (hx : ∀ e ρ, r = .exc e ρ → ∀ cl dd σ' G' H', Ext B G G' → Rl K cc B ρ σ' G' H' → ERp K cc.C G' e cl dd → W cl dd σ' H') : PostS K { cc with W := W } B G Dn r := by
  cases r with
  | ok f ρ =>
    cases f with
    | nx => exact fun σ' G' H' e R => h σ' G' H' e R.ofW
    | bk => exact fun σ' G' H' e R => h σ' G' H' e R.ofW
    | ct => exact fun σ' G' H' e R => h σ' G' H' e R.ofW
    | ret v => cases v with
      | sh d => exact fun v σ' G' H' e R => h v σ' G' H' e R.ofW
      | ow m => exact fun v σ' G' H' e R => h v σ' G' H' e R.ofW
  | exc e ρ => exact fun cl dd σ' G' H' ex R => hx e ρ rfl cl dd σ' G' H' ex R.ofW
  | bot => exact h
/-- try: body, except class c: suite; sub: which classes stand under which -/
def sTry (sub : Nat → Nat → Option Bool) (sb : ENV → R Fl) (c : Nat) (ss : ENV → R Fl) : ENV → R Fl := fun ρ => match sb ρ with
  | .exc e ρ1 => match sub e.c c with
    | some true => match ss ρ1 with
      | .exc _ _ => .bot
      | r => r
    | some false => .exc e ρ1
    | none => .bot
  | r => r
variable {sub : Nat → Nat → Option Bool}
theorem ds_try {x : Str} {c : Nat} {body suite : List Stmt} {b0 : Stmt} {np pos' : Pos} {sb ss : ENV → R Fl} (hs : X.stack = X.env :: X.outer) (hf : X.env.frame = some X.env.locals) (hc : Names X x (.ref (cc.C c))) (tk : Takes X cc.W)
    (hsub : ∀ i j b, sub i j = some b → PySem.W.exmOne X.K (.ref (cc.C i)) (.ref (cc.C j)) = some b)
    (hb : ∀ (W : WX) (pn : List (Addr × Obj)) (xe : Value → Shared → Prop), Takes (X.tr pn xe) W → PassesOwn (model X.prog X.w) X.A X.env xe → DSs (X.tr pn xe) { cc with W := W } body sb)
    (hsu : ∀ (a : Addr) (oe : Obj) (pn : List (Addr × Obj)), DSs (X.suite a ((a, oe) :: pn)) cc.quiet (b0 :: suite) ss) :
    DS X cc (.Try body [.ExceptHandler (some (.Name x np)) none (b0 :: suite) pos'] [] [] pos) (sTry sub sb c ss) := by
  refine PS.imp (ps_try_only (tb := fun W => rS X.K { cc with W := W } sb) (ts := fun a cls d => rS X.K cc.quiet ss) hs hf hc tk (fun W pn xe tk' po => hb W pn xe tk' po) (fun a oe cls d pn _ _ => hsu a oe pn)) fun Dn σ H ⟨B, ρ, G, R0, h⟩ => ⟨B, ρ, G, R0.toW _, ?_⟩
  unfold sTry at h
  cases hr : sb ρ with
  | bot => rw [hr] at h; exact h
  | ok f ρ1 =>
    rw [hr] at h
    exact PostS.toW h fun e ρ q => by cases q
  | exc e ρ1 =>
    rw [hr] at h
    dsimp only at h
    refine fun cl dd σ' G' H' ex R er => ?_
    cases hq : sub e.c c with
    | none => rw [hq] at h; exact h.elim
    | some b =>
      rw [hq] at h
      have hm := hsub _ _ _ hq
      obtain ⟨rfl, _⟩ := id er
      refine ⟨b, hm, fun hb a _ => ?_, fun hb => ?_⟩
      · subst hb
        dsimp only at h
        refine ⟨B, ρ1, G', R.ofW.toW _, ?_⟩
        have h := PostS.ext h ex
        cases hss : ss ρ1 with
        | bot => rw [hss] at h; exact h
        | exc _ _ => rw [hss] at h; exact h.elim
        | ok f ρ2 => rw [hss] at h; exact PostS.toW h fun e ρ q => by cases q
      · subst hb
        exact h _ _ _ _ _ ex R.ofW er
end
end Rf
set_option Elab.async false
set_option linter.all false
set_option maxRecDepth 100000
/-! Rf: owned lists looked at; a program's defs -/
namespace Rf
open PySem PySem.Spec L2
section
variable {X : Cx} {cc : Cc} {e : Expr} {da db : ENV → R D} {pos p2 : Pos}
/-- xs[k] of an owned list -/
def dIxO (i : Nat) (dk : ENV → R D) : ENV → R D := fun ρ => match ρ[i]? with
  | some (some (.ow (.lst _))) => (dk ρ).bind fun k ρ1 => match k, ρ1[i]? with
    | .int k, some (some (.ow (.lst ds))) => R.of (atI ds k) ρ1
    | _, _ => .bot
  | _ => .bot
theorem de_ixO (i : Nat) {x : Str} {k : Expr} (hk : DE X cc k da) (hN : X.N[i]? = some x := by rfl) (hv : Vis X.env.scope x := by first | exact Or.inl rfl | exact Or.inr (Or.inl rfl) | exact Or.inr (Or.inr rfl)) (hd : (x == ("__debug__" : Str)) = false := by decide)
    (hcd : (x == ("__classdict__" : Str)) = false := by decide) (hs : PlainIx k := by intro _ _; rfl) : DE X cc (.Subscript (.Name x p2) k pos) (dIxO i da) := by
  refine PE.imp (pe_ix ix_list (pe_var hN hv hd hcd) hk hs) fun σ H Q ⟨B, ρ, G, R0, h⟩ => ?_
  unfold dIxO at h
  split at h
  rotate_left
  · exact h.elim
  rename_i ds0 e0
  obtain ⟨p, xs, hp, hx, _⟩ := R0.lstAt e0
  refine ⟨_, hp, B, ρ, G, R0, h.bind fun kd ρ1 G1 H1 kv e1 R1 p1 h1 => ?_⟩
  split at h1
  rotate_left
  · exact h1.elim
  rename_i k' ds e3
  cases p1 with
  | int k' =>
    obtain ⟨p', xs', hp', hx', rr⟩ := R1.lstAt e3
    rw [hp] at hp'; cases hp'
    cases ha : atI ds k' with
    | none => rw [ha] at h1; exact h1.elim
    | some d =>
      rw [ha] at h1
      obtain ⟨y, hy, py⟩ := rr.atI ha
      exact ⟨p, xs', k', y, rfl, rfl, .inl (.inl hx'), hy, h1 y G1 H1 (Ext.refl _ _) R1 py⟩
/-- len(xs) of an owned list -/
def dLenO (i : Nat) : ENV → R D := fun ρ => match ρ[i]? with
  | some (some (.ow (.lst ds))) => .ok (.int ds.length) ρ
  | _ => .bot
theorem de_lenO (i : Nat) {x : Str} {p : Pos} (hg : Gl X "len") (hm : X.mg "len" = none) (hN : X.N[i]? = some x := by rfl) (hv : Vis X.env.scope x := by first | exact Or.inl rfl | exact Or.inr (Or.inl rfl) | exact Or.inr (Or.inr rfl)) (hd : (x == ("__debug__" : Str)) = false := by decide)
    (hcd : (x == ("__classdict__" : Str)) = false := by decide) (he : starEach [.Name x p2] X.env = (false, eval (.Name x p2) X.env) :: starEach [] X.env := by rfl) (hpl : (backTo pos (starEach [] X.env)).any (·.1) = false := by rfl) :
    DE X cc (.Call (.Name "len" p) [.Name x p2] [] pos) (dLenO i) := by
  refine PE.imp (pe_callB cr_lenS hg hm PySem.boot_len (pa_cons (pe_var hN hv hd hcd) pa_nil he) (by decide) (by decide) he hpl) fun σ H Q ⟨B, ρ, G, R0, h⟩ => ?_
  unfold dLenO at h
  split at h
  · rename_i ds e
    obtain ⟨p, xs, hp, hx, rr⟩ := R0.lstAt e
    exact ⟨_, hp, .inl ⟨p, xs, rfl, .inl (.inl (.inl hx)), by rw [rr.length]; exact h (.int _) G H (Ext.refl _ _) R0 (.int _)⟩⟩
  · exact h.elim
/-- x in xs, xs owned -/
def dInO (neg : Bool) (da : ENV → R D) (i : Nat) : ENV → R D := fun ρ => (da ρ).bind fun x ρ1 => match ρ1[i]? with
  | some (some (.ow (.lst ds))) => R.of (vIn neg x (.lst ds)) ρ1
  | _ => .bot
theorem inO_core {neg : Bool} {i : Nat} : ∀ σ H Q, rE X.K cc (dInO neg da i) σ H Q → tOp (rInA X.K neg) (rE X.K cc da) (tVar i) σ H Q := by
  intro σ H Q ⟨B, ρ, G, R0, h⟩
  refine ⟨B, ρ, G, R0, h.bind fun d1 ρ1 G1 H1 x e1 R1 p1 h1 => ?_⟩
  split at h1
  rotate_left
  · exact h1.elim
  rename_i ds e
  obtain ⟨p, xs, hp, hx, rr⟩ := R1.lstAt e
  refine ⟨_, hp, ?_⟩
  dsimp only [vIn] at h1
  split at h1
  · rename_i hh
    exact .inl ⟨_, .list (toPyL ds), _, p1.dp R1.gk (SeqAt.canLay_of_shaped hh.1), .lst (.inl (.inl hx)) (rr.dp R1.gk hh.2), .inl rfl, hh.1, hh.2, h1 _ G1 H1 (Ext.refl _ _) R1 (.bl _)⟩
  · exact h1.elim
theorem de_inO (neg : Bool) (i : Nat) {x : Str} {a : Expr} (hu : X.A.units + 65 < cLine) (ha : DE X cc a da) (hN : X.N[i]? = some x := by rfl) (hv : Vis X.env.scope x := by first | exact Or.inl rfl | exact Or.inr (Or.inl rfl) | exact Or.inr (Or.inr rfl)) (hd : (x == ("__debug__" : Str)) = false := by decide)
    (hcd : (x == ("__classdict__" : Str)) = false := by decide) : DE X cc (.Compare a [if neg then .NotIn else .In] [.Name x p2] pos) (dInO neg da i) := by
  cases neg with
  | false => exact PE.imp (pe_cmpR (op_inA hu) ha (pe_var hN hv hd hcd) rfl) inO_core
  | true => exact PE.imp (pe_cmpR (op_notInA hu) ha (pe_var hN hv hd hcd) rfl) inO_core
theorem dt_inO (neg : Bool) (i : Nat) {x : Str} {a : Expr} (hu : X.A.units + 65 < cLine) (ha : DE X cc a da) (hN : X.N[i]? = some x := by rfl) (hv : Vis X.env.scope x := by first | exact Or.inl rfl | exact Or.inr (Or.inl rfl) | exact Or.inr (Or.inr rfl)) (hd : (x == ("__debug__" : Str)) = false := by decide)
    (hcd : (x == ("__classdict__" : Str)) = false := by decide) : DT X cc (.Compare a [if neg then .NotIn else .In] [.Name x p2] pos) (dT (dInO neg da i)) := by
  cases neg with
  | false => exact PT.imp (pt_cmpR (op_inA hu) ha (pe_var hN hv hd hcd) rfl) (test_core inO_core)
  | true => exact PT.imp (pt_cmpR (op_notInA hu) ha (pe_var hN hv hd hcd) rfl) (test_core inO_core)
/-- truth of an owned list -/
def dTruO (i : Nat) : ENV → R Bool := fun ρ => match ρ[i]? with
  | some (some (.ow (.lst ds))) => .ok (!ds.isEmpty) ρ
  | _ => .bot
theorem dt_truO (i : Nat) {x : Str} (hN : X.N[i]? = some x := by rfl) (hv : Vis X.env.scope x := by first | exact Or.inl rfl | exact Or.inr (Or.inl rfl) | exact Or.inr (Or.inr rfl)) (hd : (x == ("__debug__" : Str)) = false := by decide)
    (hcd : (x == ("__classdict__" : Str)) = false := by decide) : DT X cc (.Name x p2) (dTruO i) := by
  refine PT.imp (pt_truth (pe_var hN hv hd hcd) (by intro _; rfl)) fun σ H Q ⟨B, ρ, G, R0, h⟩ => ?_
  unfold dTruO at h
  split at h
  · rename_i ds e
    obtain ⟨p, xs, hp, hx, rr⟩ := R0.lstAt e
    exact ⟨_, hp, !ds.isEmpty, .inl ⟨xs, .inl (.inl hx), by rw [rr.empty]⟩, h _ G H (Ext.refl _ _) R0 rfl⟩
  · exact h.elim
/-- a constant of the module -/
structure GC (K : PySem.W.Frag) (mg : Str → Option Value) (C : Nat → Addr) (x : Str) (d : D) : Prop where
  ex : ∃ u v, mg x = some u ∧ RelV v u ∧ ∀ G, Rp K C G v d
def dG (d : D) : ENV → R D := fun ρ => .ok d ρ
theorem de_glob {x : Str} {d : D} (g : GC X.K X.mg cc.C x d) (hg : Gl X x := by rfl) (hd : (x == ("__debug__" : Str)) = false := by decide) : DE X cc (.Name x pos) (dC d) := by
  obtain ⟨u, v, h1, h2, h3⟩ := g.ex
  exact de_k (pe_glob hg h1 h2 hd) h3
end
/-- a def of the module as the top leaves it -/
structure Df (K : PySem.W.Frag) (mg : Str → Option Value) (x : Str) (st : Stmt) (ps : List Str) : Prop where
  ex : ∃ f fd, Fun K x x st f fd ∧ mg x = some (.ref f) ∧ ∀ us : List Value, us.length = ps.length → bindArgs fd ⟨us, []⟩ = pure (ps.zip us)
theorem df_mk {K : PySem.W.Frag} {h : Heap} {mg : Str → Option Value} {x : Str} {st : Stmt} {ps : List Str} {f : Addr} {oc : Value} {od an : Option Addr} {osl : Array (Option Value)} {kV doc pm cdv ct : Value} (X : K.In h) (G : h.Ns mainGlobals mg)
    (a : PySem.W.nsIn K mainGlobals x = some (some (.ref f))) (l : K.lookup f = some ⟨oc, od, .func (PySem.W.fnOf x x (defArgs st) (defBody st) (defScope st) .none kV doc pm an cdv ct), osl⟩)
    (c : PySem.W.codeIn K cdv x = true) (k : PySem.W.keepIn K (.ref f) = true) (hb : ∀ (kV doc pm : Value) (an : Option Addr) (cdv ct : Value) (us : List Value), us.length = ps.length → bindArgs (PySem.W.fnOf x x (defArgs st) (defBody st) (defScope st) .none kV doc pm an cdv ct) ⟨us, []⟩ = pure (ps.zip us)) : Df K mg x st ps := by
  have F := fun_mk (st := st) l c k
  exact ⟨f, _, F, PySem.W.mg_of X G a, fun us hl => hb _ _ _ _ _ _ us hl⟩
/-- a def that keeps the promise of F -/
structure Fk (P : Program) (w : World) (K : PySem.W.Frag) (mg : Str → Option Value) (base : Heap) (C : Nat → Addr) (x : Str) (n k : Nat) (F : List DV → FO) : Prop where
  ex : ∃ f fd ps, ps.length = n ∧ FnOk P w K mg base (L2.CX P w) k f fd ps (spF K C n F) ∧ mg x = some (.ref f) ∧ PySem.W.keepIn K (.ref f) = true ∧ Binds K fd ps []
theorem Fk.mono {P : Program} {w : World} {K : PySem.W.Frag} {mg : Str → Option Value} {base : Heap} {C : Nat → Addr} {x : Str} {n k k' : Nat} {F : List DV → FO} (h : Fk P w K mg base C x n k F) (hk : k ≤ k') : Fk P w K mg base C x n k' F := by
  obtain ⟨f, fd, ps, h1, h2, h3⟩ := h.ex
  exact ⟨f, fd, ps, h1, h2.mono hk, h3⟩
theorem Fk.callee {X : Cx} {cc : Cc} {x : Str} {n k : Nat} {F : List DV → FO} (h : Fk X.prog X.w X.K X.mg X.base cc.C x n k F) (hr : Room k X.A) : Callee X cc x n F := by
  obtain ⟨f, fd, ps, h1, h2, h3, h4, h5⟩ := h.ex
  exact ⟨f, fd, ps, k, h1, h2, hr, h3, h4, h5⟩
section
variable {P : Program} {w : World} {K : PySem.W.Frag} {mg : Str → Option Value} {base : Heap} {C : Nat → Addr}
theorem fk_of {x : Str} {st : Stmt} {N ps : List Str} {k : Nat} (d : Df K mg x st ps) (S : FnScope N ps (defScope st)) (pr : List Nat) {den : ENV → R Fl} (hlen : ps.length ≤ N.length)
    (hb : ∀ (f : Addr) (cdv : Value) (A : Around) (outer : List Env) (s : Shared) (H : Hp) (E : XK) (ad : Nat → Addr), Room k (A.deeper (PyProof.Rows.envOfC x (defScope st) s.heap.objs.size f cdv)) →
      DSs (cxOf (L2.CX P w) P w K mg base N x (defScope st) f cdv A outer s H E) ⟨C, fun cl d _ H => E cl d H, pr, ad, fun _ => none⟩ (defBody st) den) : Fk P w K mg base C x ps.length (k + 1) (runF pr N.length den) := by
  obtain ⟨f, fd, F, hm, hbd⟩ := d.ex
  exact ⟨f, fd, ps, rfl, fn_ok F S pr hlen (hb f), hm, F.kp, .all hbd⟩
/-- the def's own object -/
noncomputable def Df.f {x : Str} {st : Stmt} {ps : List Str} (d : Df K mg x st ps) : Addr := d.ex.choose
noncomputable def Df.fd {x : Str} {st : Stmt} {ps : List Str} (d : Df K mg x st ps) : FuncData := d.ex.choose_spec.choose
theorem fnok_of {x : Str} {st : Stmt} {N ps : List Str} {k : Nat} (d : Df K mg x st ps) (S : FnScope N ps (defScope st)) (pr : List Nat) {den : ENV → R Fl} (hlen : ps.length ≤ N.length)
    (hb : ∀ (f : Addr) (cdv : Value) (A : Around) (outer : List Env) (s : Shared) (H : Hp) (E : XK) (ad : Nat → Addr), Room k (A.deeper (PyProof.Rows.envOfC x (defScope st) s.heap.objs.size f cdv)) →
      DSs (cxOf (L2.CX P w) P w K mg base N x (defScope st) f cdv A outer s H E) ⟨C, fun cl d _ H => E cl d H, pr, ad, fun _ => none⟩ (defBody st) den) : FnOk P w K mg base (L2.CX P w) (k + 1) d.f d.fd ps (spF K C ps.length (runF pr N.length den)) :=
  fn_ok d.ex.choose_spec.choose_spec.1 S pr hlen (hb d.f)
theorem hu65 {k : Nat} {A : Around} (hr : Room k A) : A.units + 65 < cLine := by have := hr.un; omega
end
end Rf
set_option Elab.async false
set_option linter.all false
set_option maxRecDepth 100000
/-! Rf: exceptions of the text, the end of a law -/
namespace Rf
open PySem PySem.Spec L2
/-- an exception class of the text over ValueError, without __init__ -/
structure ExF (K : PySem.W.Frag) (mg : Str → Option Value) (c : Addr) (x : Str) : Prop where
  q : PySem.W.excIn K c PySem.HandSPX.veTail "ValueError.__new__" = true
  gC : mg x = some (.ref c)
  kC : PySem.W.keepIn K (.ref c) = true
  bP : PySem.W.subIn K (.ref c) (.type "BaseException") = some true
  tP : PySem.W.typeIn K (.ref c) = some (.type "type")
theorem ExF.pmk {X : Cx} {c : Addr} {x : Str} {p pos : Pos} (h : ExF X.K X.mg c x) (hg : Gl X x) (hd : (x == ("__debug__" : Str)) = false := by decide) : PMk X (.Call (.Name x p) [] [] pos) (fun _ H Q => Q (.ref c) none H) :=
  pmk_own0 PySem.F.excBase_ValueError h.q h.gC h.kC (raises_own h.bP h.tP) hg hd
theorem ExF.names {X : Cx} {c : Addr} {x : Str} (h : ExF X.K X.mg c x) (hg : Gl X x) (hd : (x == ("__debug__" : Str)) = false := by decide) : Names X x (.ref c) := ⟨hg, hd, .inl h.gC⟩
theorem exm_at {K : PySem.W.Frag} {S T : Addr} {b : Bool} (h1 : PySem.W.subIn K (.ref T) (.type "BaseException") = some true) (h2 : PySem.W.isClsIn K T = true) (h3 : PySem.W.typeIn K (.ref T) = some (.type "type")) (h4 : PySem.W.subIn K (.ref S) (.ref T) = some b) :
    PySem.W.exmOne K (.ref S) (.ref T) = some b := by
  have e1 : (PySem.W.subIn K (.ref T) (.type "BaseException") == some true) = true := by rw [h1] <;> rfl
  have e2 : ((PySem.W.clsIn K T).isSome && PySem.W.typeIn K (.ref T) == some (.type "type")) = true := by
    have h2' : (PySem.W.clsIn K T).isSome = true := h2
    rw [h2', h3] <;> rfl
  show (if (PySem.W.subIn K (.ref T) (.type "BaseException") == some true) = true then (if ((PySem.W.clsIn K T).isSome && PySem.W.typeIn K (.ref T) == some (.type "type")) = true then PySem.W.subIn K (.ref S) (.ref T) else none) else none) = some b
  rw [if_pos e1, if_pos e2]
  exact h4
/-- what the law is handed: the script -/
def spScript (K : PySem.W.Frag) : Sp := fun vs H Q _ => ∃ (a : Addr) (ns : List Int), vs = [.ref a] ∧ SqL K H a (ns.map V.int) ∧ ns.length ≤ 63 ∧ ∀ H', Q (.bl true) H'
theorem rpl_ints {K : PySem.W.Frag} {C : Nat → Addr} {G : Hp} : ∀ ns : List Int, RpL K C G (ns.map V.int) (ns.map D.int)
  | [] => .nil
  | n :: ns => .cons (.int n) (rpl_ints ns)
theorem script_imp {K : PySem.W.Frag} {C : Nat → Addr} {F : List DV → FO} (ht : ∀ ns : List Int, ns.length ≤ 63 → F [.sh (.scr (ns.map D.int))] = .ok (.sh (.bl true)) []) : ∀ vs H Q E, spScript K vs H Q E → spF K C 1 F vs H Q E := by
  rintro vs H Q E ⟨a, ns, rfl, hS, hl, k⟩
  refine ⟨[.sh (.scr (ns.map D.int))], H, H, rfl, Same.refl H, Same.refl H, .sh (.scr hS (rpl_ints ns)) .nil, fun i j m m' p e1 => ?_, ?_⟩
  · cases i with
    | zero => simp at e1
    | succ i => simp at e1
  · rw [ht ns hl]
    intro x G' H' ex sb sg os hv
    cases hv
    exact k H'
theorem walk_end {l : PySem.W.OpenLaw} {k : Nat} {q : Program} {loose : List Str} {XP : (Str → Option Value) → Heap → Prop} {YP : World → Heap → Prop} {d : DefRec} {K : Params → PySem.W.Frag} {F : List DV → FO} (hn : l.most = some 63) (hdf : d.params.defaults = [])
    (hd : d.name = "law") (hr : Room k callerA) (hY : ∀ (w : World) (h : Heap), YP w h → (K w.params).In h)
    (hF : ∀ (w : World) (mg : Str → Option Value) (h : Heap), (K w.params).In h → h.Ns mainGlobals mg → ∃ (C : Nat → Addr) (st : Stmt) (df : Df (K w.params) mg "law" st ["_law_script"]), ∀ base : Heap, FnOk l.prog w (K w.params) mg base (L2.CX l.prog w) k df.f df.fd ["_law_script"] (spF (K w.params) C 1 F))
    (ht : ∀ ns : List Int, ns.length ≤ 63 → F [.sh (.scr (ns.map D.int))] = .ok (.sh (.bl true)) []) : PySem.W.WalkO q loose XP YP l.row.toRowW d [] (fun f vs => PySem.call f vs) := by
  refine L2.walk_of (n := 63) (k := k) (x := "_law_script") (CX := fun w => L2.CX l.prog w) (sp := fun w => spScript (K w.params)) hn (by decide) hdf hr hY (fun w mg fa h KX G hm => ?_) (fun w H a ns hl _ hS => ⟨a, ns, rfl, hS, hl, fun _ => rfl⟩) fun w H s e s' h => ?_
  · obtain ⟨C, st, df, h⟩ := hF w mg h KX G
    obtain ⟨hf1, hf2, hf3⟩ := df.ex.choose_spec.choose_spec
    rw [hd] at hm
    have e : Value.ref fa = Value.ref df.f := Option.some.inj (hm.symm.trans hf2)
    injection e with e
    subst e
    exact ⟨df.fd, fun s u => .of_eq (hf3 [u] rfl), fun base _ _ => (h base).imp (script_imp ht)⟩
  · obtain ⟨_, _, _, _, _, _, _, _, _, _, _, _, z⟩ := h
    exact z.elim
end Rf
set_option Elab.async false
set_option linter.all false
set_option maxRecDepth 100000
set_option maxHeartbeats 2000000
/-! Rf12: exceptions of the program that hold fields: making and raising them -/
namespace Rf
open PySem PySem.Spec L2 PyProof.Rows
/-- what the text says of an own class D over ValueError that has no __init__ of its own: D.__init__(self, ..) -/
structure BaseI (K : PySem.W.Frag) (mg : Str → Option Value) (Nm : Str) : Prop where
  ex : ∃ (D : Addr) (mc : Value), mg Nm = some (.ref D) ∧ PySem.W.specialIn K (.ref D) "__getattribute__" = some (some (.builtin "type.__getattribute__")) ∧ PySem.W.readsIn K D mc = true ∧
    PySem.W.findCls K (.ref D) mc "__init__" = some (.val (.builtin "ValueError.__init__"))
theorem pe_baseinit {X : Cx} {Nm : Str} {e : Expr} {es : List Expr} {ta : TA} {p1 p2 pos : Pos} {pl : Sem Bool} (b : BaseI X.K X.mg Nm) (hg : Gl X Nm) (ha : PA X (e :: es) ta)
    (hc : eval (.Call (.Attribute (.Name Nm p1) "__init__" p2) (e :: es) [] pos) X.env = (eval (.Name Nm p1) X.env >>= fun ov => standAt p2.atName >>= fun _ => holding [ov] (getMethod ov "__init__" pl) >>= fun fx =>
      callWith pos fx.1 fx.2 (backTo pos (starEach (e :: es) X.env)) (backToKw pos (keywordEach [] X.env))) := by rfl)
    (he : starEach (e :: es) X.env = (false, eval e X.env) :: starEach es X.env := by rfl) (hpl : (backTo pos (starEach es X.env)).any (·.1) = false := by rfl) (hdb : (Nm == ("__debug__" : Str)) = false := by decide) :
    PE X (.Call (.Attribute (.Name Nm p1) "__init__" p2) (e :: es) [] pos) (tVeI X.K ta) := by
  obtain ⟨D, mc, hm, ga, hr, vV⟩ := b.ex
  constructor
  intro pi s σ H Q I h
  refine PySem.W.methodCall_KW (ld_glob I hg hm (PySem.W.method_cls I.kIn ga (PySem.W.cls_value I.kIn hr vV (by decide +kernel) ?_)) hdb) hc
  show wpAny _ _ (callWith pos (.builtin "ValueError.__init__") [] (backTo pos (starEach (e :: es) X.env)) []) _ _ _
  refine PyProof.Rows.callWith_method1 (thn (ha.run pos pi _ σ H _ (I.tok _) h) fun us s1 x => ?_) he hpl
  obtain ⟨vs, H1, I1, r1, a, C, ws, rfl, hl, T, ea, q⟩ := x
  cases r1 with
  | @cons _ u0 _ ur ra rw' =>
    cases (show u0 = Value.ref a from ra)
    have hz : ur.length ≤ sizeLine := by
      have := Paired.length rw'
      rw [sizeLine_eq]; omega
    exact oinit_ok T I1 ea hz fun s' J => ⟨.non, H1, J, rfl, q⟩
/-- the promise of an __init__ that keeps its arguments under the names fs, in this order -/
def spI (C : Addr) (fs : List Str) : Sp := fun vs H Q _ => ∃ (a : Addr) (us : List V), vs = .ref a :: us ∧ us.length = fs.length ∧ H a = some (exo a C none) ∧
  ∀ (dx : Addr) (H' : Hp), H dx = none → dx ≠ a → H' a = some (exo a C (some dx)) → H' dx = some (exd dx (fs.zip us).reverse) → (∀ b, b ≠ a → b ≠ dx → H' b = H b) → Q .non H'
/-- an exception class of the program that holds fields -/
structure ExI (P : Program) (w : World) (K : PySem.W.Frag) (mg : Str → Option Value) (base : Heap) (C : Addr) (x : Str) (fs : List Str) (k : Nat) : Prop where
  gC : mg x = some (.ref C)
  cl : OexC K C
  ex : ∃ (fI : Addr) (fd : FuncData) (ps : List Str), PySem.W.findIn K (.ref C) "__init__" = some (some (.ref fI)) ∧ PySem.W.typeIn K (.ref fI) = some (.type "function") ∧ FnOk P w K mg base CX0 k fI fd ps (spI C fs) ∧ Binds K fd ps []
theorem RpF.zip {K : PySem.W.Frag} {C : Nat → Addr} {G : Hp} : ∀ (fs : List Str) {vs : List V} {ds : List D}, RpL K C G vs ds → RpF K C G (fs.zip vs) (fs.zip ds)
  | [], _, _, _ => by simp only [List.zip_nil_left]; exact .nil
  | _ :: _, _, _, .nil => by simp only [List.zip_nil_right]; exact .nil
  | _ :: fs, _, _, .cons h r => .cons h (RpF.zip fs r)
theorem RpF.app {K : PySem.W.Frag} {C : Nat → Addr} {G : Hp} : ∀ {a : List (Str × V)} {b : List (Str × D)} {a' : List (Str × V)} {b' : List (Str × D)}, RpF K C G a b → RpF K C G a' b' → RpF K C G (a ++ a') (b ++ b')
  | _, _, _, _, .nil, r => r
  | _, _, _, _, .cons h q, r => .cons h (q.app r)
theorem RpF.rev {K : PySem.W.Frag} {C : Nat → Addr} {G : Hp} : ∀ {a : List (Str × V)} {b : List (Str × D)}, RpF K C G a b → RpF K C G a.reverse b.reverse
  | _, _, .nil => .nil
  | _, _, .cons h r => by
    simp only [List.reverse_cons]
    exact r.rev.app (.cons h .nil)
def sRaiseF (c : Nat) (fs : List Str) (dr : ENV → R (List D)) : ENV → R Fl := fun ρ => (dr ρ).bind fun ds ρ1 => if ds.length = fs.length ∧ ds.length ≤ 1000 then .exc ⟨c, (fs.zip ds).reverse⟩ ρ1 else .bot
theorem ds_raiseF {X : Cx} {cc : Cc} {x : Str} {c : Nat} {fs : List Str} {k : Nat} {e : Expr} {es : List Expr} {dr : ENV → R (List D)} {p p2 pos : Pos} (hc : X.calm = true) (tk : Takes X cc.W) (T : ExI X.prog X.w X.K X.mg X.base (cc.C c) x fs k) (hr : Room (k + 1) X.A) (hg : Gl X x)
    (rs : Raises X (.ref (cc.C c))) (ha : DA X cc (e :: es) dr) (hdb : (x == ("__debug__" : Str)) = false := by decide) (he : starEach (e :: es) X.env = (false, eval e X.env) :: starEach es X.env := by rfl) (hpl : (backTo p2 (starEach es X.env)).any (·.1) = false := by rfl) :
    DS X cc (.Raise (some (.Call (.Name x p) (e :: es) [] p2)) none pos) (sRaiseF c fs dr) := by
  obtain ⟨fI, fd, ps, iC, tI, F1, hb⟩ := T.ex
  refine PS.imp (ps_raise hc tk (pmk_oex (dvs := []) T.cl iC tI F1 hr hb .nil pass0 hg T.gC ha hdb he hpl)) fun Dn σ H ⟨B, ρ, G, R0, h⟩ => ⟨B, ρ, G, R0, h.bind fun ds ρ1 G1 H1 vs e1 R1 p1 q1 => ?_⟩
  by_cases hd : ds.length = fs.length ∧ ds.length ≤ 1000
  · rw [if_pos hd] at q1
    have hvl := p1.length
    refine ⟨by omega, fun a hna => ⟨a, vs, by rw [List.append_nil], by omega, upd_same, fun dx H' n1 ne h1 h2 oth => ⟨rfl, dx, _, h1, h2, ?_, ?_⟩⟩⟩
    · rw [upd_ne ne] at n1; exact n1
    · have n2 : H1 dx = none := by rw [upd_ne ne] at n1; exact n1
      have same : upd (del H' a) dx (.xd (fs.zip vs).reverse) = upd H1 dx (.xd (fs.zip vs).reverse) := by
        funext b
        by_cases hb : b = dx
        · subst hb; rw [upd_same, upd_same]
        · rw [upd_ne hb, upd_ne hb]
          by_cases hba : b = a
          · subst hba; rw [del_same, hna]
          · rw [del_ne hba, oth b hba hb, upd_ne hba]
      rw [same]
      have g := Grow.new (o := .xd (fs.zip vs).reverse) R1.gk n2
      exact q1 _ _ σ _ _ (g.ext R1.bk) (R1.grow g) ⟨rfl, .inr ⟨dx, _, rfl, upd_same, ((RpF.zip fs (p1.mono g.gg)).rev)⟩⟩
  · rw [if_neg hd] at q1
    exact q1.elim
/-! ### such an __init__ -/
section
variable {K : PySem.W.Frag} {C : Addr} {f1 f2 : Str} {N : List Str} {vs : List V} {H : Hp} {Q : VK} {E : XK}
theorem spI_len {fs : List Str} (h : spI C fs vs H Q E) : vs.length = fs.length + 1 := by
  obtain ⟨a, us, rfl, hl, _⟩ := h
  rw [List.length_cons, hl]
def tBase (K : PySem.W.Frag) (m : Str) (t : TS) : TS := tSeq (tDrop (tVeI K (tCons (tVar 0) (tCons (tC (.str m)) tNil)))) t
theorem rd_base {m : Str} {t : TS} {D : Ends} {σ : L2.St} {a : Addr} (T : OexC K C) (e0 : σ[0]? = some (some (.ref a))) (ea : H a = some (exo a C none)) (h : t D σ H) : tBase K m t D σ H :=
  ⟨.ref a, e0, a, C, [.str m], rfl, (by show 1 ≤ 1000; decide), T, ea, h⟩
def tF1 (K : PySem.W.Frag) (f1 : Str) : TS := tSeq (tOst K f1 (tVar 0) (tVar 1)) tNext
def tF2 (K : PySem.W.Frag) (f1 f2 : Str) : TS := tSeq (tOst K f1 (tVar 0) (tVar 1)) (tSeq (tOst K f2 (tVar 0) (tVar 2)) tNext)
theorem rd_f1 {a : Addr} {y : V} (T : OexC K C) (h1 : PySem.W.findIn K (.ref C) f1 = some none) (ea : H a = some (exo a C none))
    (q : ∀ (dx : Addr) (H' : Hp), H dx = none → dx ≠ a → H' a = some (exo a C (some dx)) → H' dx = some (exd dx ([f1].zip [y]).reverse) → (∀ b, b ≠ a → b ≠ dx → H' b = H b) → Q .non H') :
    tF1 K f1 { nx := fun _ H' => Q .non H', rt := Q } [some (.ref a), some y] H :=
  ⟨y, rfl, .ref a, rfl, a, C, rfl, T, h1, .inl ⟨ea, fun dx n ne => q dx _ n ne upd_same (by rw [upd_ne ne, upd_same]; rfl) fun b hb hd => by rw [upd_ne hb, upd_ne hd]⟩⟩
theorem rd_f2 {a : Addr} {y z : V} (T : OexC K C) (h1 : PySem.W.findIn K (.ref C) f1 = some none) (h2 : PySem.W.findIn K (.ref C) f2 = some none) (ea : H a = some (exo a C none))
    (q : ∀ (dx : Addr) (H' : Hp), H dx = none → dx ≠ a → H' a = some (exo a C (some dx)) → H' dx = some (exd dx ([f1, f2].zip [y, z]).reverse) → (∀ b, b ≠ a → b ≠ dx → H' b = H b) → Q .non H') :
    tF2 K f1 f2 { nx := fun _ H' => Q .non H', rt := Q } [some (.ref a), some y, some z] H :=
  ⟨y, rfl, .ref a, rfl, a, C, rfl, T, h1, .inl ⟨ea, fun dx n ne => ⟨z, rfl, .ref a, rfl, a, C, rfl, T, h2, .inr ⟨dx, [(f1, y)], upd_same, by rw [upd_ne ne, upd_same], (by show 1 ≤ 900; decide), q dx _ n ne (by rw [upd_ne ne.symm, upd_same]) (by rw [upd_same]; rfl) fun b hb hd => by rw [upd_ne hd, upd_ne hb, upd_ne hd]⟩⟩⟩⟩
theorem init_b1 {m : Str} (T : OexC K C) (h1 : PySem.W.findIn K (.ref C) f1 = some none) (hN : N.length = 2) (h : spI C [f1] vs H Q E) : tBase K m (tF1 K f1) { nx := fun _ H' => Q .non H', rt := Q } (L2.start N vs) H := by
  obtain ⟨a, us, rfl, hl, ea, q⟩ := h
  match us, hl, N, hN with
  | [y], _, [_, _], _ => exact rd_base T rfl ea (rd_f1 T h1 ea q)
theorem init_n1 (T : OexC K C) (h1 : PySem.W.findIn K (.ref C) f1 = some none) (hN : N.length = 2) (h : spI C [f1] vs H Q E) : tF1 K f1 { nx := fun _ H' => Q .non H', rt := Q } (L2.start N vs) H := by
  obtain ⟨a, us, rfl, hl, ea, q⟩ := h
  match us, hl, N, hN with
  | [y], _, [_, _], _ => exact rd_f1 T h1 ea q
theorem init_b2 {m : Str} (T : OexC K C) (h1 : PySem.W.findIn K (.ref C) f1 = some none) (h2 : PySem.W.findIn K (.ref C) f2 = some none) (hN : N.length = 3) (h : spI C [f1, f2] vs H Q E) : tBase K m (tF2 K f1 f2) { nx := fun _ H' => Q .non H', rt := Q } (L2.start N vs) H := by
  obtain ⟨a, us, rfl, hl, ea, q⟩ := h
  match us, hl, N, hN with
  | [y, z], _, [_, _, _], _ => exact rd_base T rfl ea (rd_f2 T h1 h2 ea q)
theorem init_n2 (T : OexC K C) (h1 : PySem.W.findIn K (.ref C) f1 = some none) (h2 : PySem.W.findIn K (.ref C) f2 = some none) (hN : N.length = 3) (h : spI C [f1, f2] vs H Q E) : tF2 K f1 f2 { nx := fun _ H' => Q .non H', rt := Q } (L2.start N vs) H := by
  obtain ⟨a, us, rfl, hl, ea, q⟩ := h
  match us, hl, N, hN with
  | [y, z], _, [_, _, _], _ => exact rd_f2 T h1 h2 ea q
end
end Rf
set_option Elab.async false
set_option linter.all false
set_option maxRecDepth 100000
/-! Rf13: try .. except X as e; e.f and isinstance(e, Y) in the suite; several handlers -/
namespace Rf
open PySem PySem.Spec L2 PyProof.Rows
/-- the context of a suite: the exception stands at a, in slot i; what was frozen then is kept -/
def Cc.hold (cc : Cc) (i : Nat) (a : Addr) (G0 : Hp) : Cc := ⟨cc.C, fun _ _ _ _ => False, i :: cc.pr, fun j => if j = i then a else cc.ad j, G0⟩
section
variable {K : PySem.W.Frag} {cc : Cc} {B : Hp} {ρ : ENV} {σ : L2.St} {G H G0 : Hp} {i : Nat} {a : Addr}
theorem setN_some {ρ : ENV} {i j : Nat} {x : DV} (h : (ρ.set i none)[j]? = some (some x)) : j ≠ i ∧ ρ[j]? = some (some x) := by
  by_cases e : j = i
  · subst e
    by_cases hl : j < ρ.length
    · rw [List.getElem?_set_self hl] at h; cases h
    · rw [List.getElem?_eq_none (by rw [List.length_set]; omega)] at h; cases h
  · rw [List.getElem?_set_ne (Ne.symm e)] at h; exact ⟨e, h⟩
theorem Rl.enter (r : Rl K cc B ρ σ G H) (hi : i < ρ.length) : Rl K (cc.hold i a G) B (ρ.set i none) (σ.set i (some (.ref a))) G H := by
  refine ⟨r.bk, r.gk, by rw [List.length_set, List.length_set]; exact r.ln, fun j d h => ?_, fun j m h => ?_, fun j k m m' p h1 h2 h3 h4 => ?_, fun j hj => ?_, Same.refl G⟩
  · obtain ⟨ne, h⟩ := setN_some h
    obtain ⟨v, h1, h2⟩ := r.sh j d h
    exact ⟨v, by rw [List.getElem?_set_ne (Ne.symm ne)]; exact h1, h2⟩
  · obtain ⟨ne, h⟩ := setN_some h
    obtain ⟨v, h1, h2⟩ := r.ow j m h
    exact ⟨v, by rw [List.getElem?_set_ne (Ne.symm ne)]; exact h1, h2⟩
  · obtain ⟨n1, h1⟩ := setN_some h1
    obtain ⟨n2, h2⟩ := setN_some h2
    rw [List.getElem?_set_ne (Ne.symm n1)] at h3
    rw [List.getElem?_set_ne (Ne.symm n2)] at h4
    exact r.df j k m m' p h1 h2 h3 h4
  · by_cases e : j = i
    · subst e
      rw [List.getElem?_set_self (by rw [r.ln]; exact hi)]
      show _ = some (some (V.ref (if j = j then a else cc.ad j)))
      rw [if_pos rfl]
    · rw [List.getElem?_set_ne (Ne.symm e)]
      show _ = some (some (V.ref (if j = i then a else cc.ad j)))
      rw [if_neg e]
      exact r.pa j ((List.mem_cons.mp hj).resolve_left e)
theorem Rl.leave (r : Rl K (cc.hold i a G0) B ρ σ G H) (hp : i ∉ cc.pr) (hk : Same cc.kb G0) : Rl K cc B (ρ.set i none) (σ.set i none) G H := by
  refine ⟨r.bk, r.gk, by rw [List.length_set, List.length_set]; exact r.ln, fun j d h => ?_, fun j m h => ?_, fun j k m m' p h1 h2 h3 h4 => ?_, fun j hj => ?_, hk.trans r.kg⟩
  · obtain ⟨ne, h⟩ := setN_some h
    obtain ⟨v, h1, h2⟩ := r.sh j d h
    exact ⟨v, by rw [List.getElem?_set_ne (Ne.symm ne)]; exact h1, h2⟩
  · obtain ⟨ne, h⟩ := setN_some h
    obtain ⟨v, h1, h2⟩ := r.ow j m h
    exact ⟨v, by rw [List.getElem?_set_ne (Ne.symm ne)]; exact h1, h2⟩
  · obtain ⟨n1, h1⟩ := setN_some h1
    obtain ⟨n2, h2⟩ := setN_some h2
    rw [List.getElem?_set_ne (Ne.symm n1)] at h3
    rw [List.getElem?_set_ne (Ne.symm n2)] at h4
    exact r.df j k m m' p h1 h2 h3 h4
  · have e : j ≠ i := fun z => hp (z ▸ hj)
    have q := r.pa j (List.mem_cons_of_mem _ hj)
    rw [List.getElem?_set_ne (Ne.symm e), q]
    show some (some (V.ref (if j = i then a else cc.ad j))) = _
    rw [if_neg e]
/-- behind a suite -/
theorem PostS.leave {D : Ends} {f : Fl} {ρ2 : ENV} (h : PostS K cc B G0 D (.ok f (ρ2.set i none))) (hp : i ∉ cc.pr) (hk : Same cc.kb G0) :
    PostS K (cc.hold i a G0) B G0 { nx := fun σ' H' => D.nx (σ'.set i none) H', rt := D.rt, bk := fun σ' H' => D.bk (σ'.set i none) H', ct := fun σ' H' => D.ct (σ'.set i none) H' } (.ok f ρ2) := by
  cases f with
  | nx => exact fun σ' G' H' e R => h _ G' H' e (R.leave hp hk)
  | bk => exact fun σ' G' H' e R => h _ G' H' e (R.leave hp hk)
  | ct => exact fun σ' G' H' e R => h _ G' H' e (R.leave hp hk)
  | ret v => cases v with
    | sh d => exact fun v σ' G' H' e R p => h v _ G' H' e (R.leave hp hk) p
    | ow m => exact fun p σ' G' H' e R o n => h p _ G' H' e (R.leave hp hk) o fun j m' hj hs => n j m' (setN_some hj).2 (by rw [List.getElem?_set_ne (Ne.symm (setN_some hj).1)] at hs; exact hs)
end
/-- try: body, except class c as (slot i): suite -/
def sTryAs (sub : Nat → Nat → Option Bool) (sb : ENV → R Fl) (c i : Nat) (ss : EX → ENV → R Fl) : ENV → R Fl := fun ρ => match sb ρ with
  | .exc e ρ1 => match sub e.c c with
    | some true => if i < ρ1.length then match ss e (ρ1.set i none) with
      | .ok f ρ2 => .ok f (ρ2.set i none)
      | _ => .bot else .bot
    | some false => .exc e ρ1
    | none => .bot
  | r => r
theorem pss_ex {X : Cx} {st : List Stmt} {α : Type} {p : α → Prop} {t : α → TS} (h : ∀ x, p x → PSs X st (t x)) : PSs X st (fun D σ H => ∃ x, p x ∧ t x D σ H) := by
  constructor
  intro pi s σ H D I ⟨x, hx, q⟩
  exact (h x hx).run pi s σ H D I q
section
variable {X : Cx} {cc : Cc} {sub : Nat → Nat → Option Bool} {pos : Pos}
theorem ds_try_as {x n : Str} {c i : Nat} {body suite : List Stmt} {b0 : Stmt} {np pos' : Pos} {sb : ENV → R Fl} {ss : EX → ENV → R Fl} (hs : X.stack = X.env :: X.outer) (hf : X.env.frame = some X.env.locals) (hN : X.N.Nodup) (hc : Names X x (.ref (cc.C c))) (tk : Takes X cc.W)
    (hsub : ∀ i j b, sub i j = some b → PySem.W.exmOne X.K (.ref (cc.C i)) (.ref (cc.C j)) = some b)
    (hb : ∀ (W : WX) (pn : List (Addr × Obj)) (xe : Value → Shared → Prop), Takes (X.tr pn xe) W → PassesOwn (model X.prog X.w) X.A X.env xe → DSs (X.tr pn xe) { cc with W := W } body sb)
    (hsu : ∀ (e : EX) (a : Addr) (oe : Obj) (d : Option Addr) (pn : List (Addr × Obj)) (G0 : Hp), Zc (.ref (cc.C e.c)) d oe → (∃ vs, oe.data = .fields vs) → ERp X.K cc.C G0 e (.ref (cc.C e.c)) d → DSs (X.suite a ((a, oe) :: pn)) (cc.hold i a G0) (b0 :: suite) (ss e))
    (hi : X.N[i]? = some n := by rfl) (hln : X.env.kindOf n = some .local := by rfl) (hp : cc.pr.contains i = false := by rfl) :
    DS X cc (.Try body [.ExceptHandler (some (.Name x np)) (some n) (b0 :: suite) pos'] [] [] pos) (sTryAs sub sb c i ss) := by
  have hpn : i ∉ cc.pr := Rf.np hp
  refine PS.imp (ps_try_as (tb := fun W => rS X.K { cc with W := W } sb) (ts := fun a cls d D σ H => ∃ z : EX × Hp, (cls = .ref (cc.C z.1.c) ∧ ERp X.K cc.C z.2 z.1 cls d) ∧ rS X.K (cc.hold i a z.2) (ss z.1) D σ H) hs hf hN hi hln hc tk (fun W pn xe tk' po => hb W pn xe tk' po)
    (fun a oe cls d pn hz hfl => pss_ex fun z hzz => by obtain ⟨rfl, er⟩ := hzz; exact hsu z.1 a oe d pn z.2 hz hfl er)) fun Dn σ H ⟨B, ρ, G, R0, h⟩ => ⟨B, ρ, G, R0.toW _, ?_⟩
  unfold sTryAs at h
  cases hr : sb ρ with
  | bot => rw [hr] at h; exact h
  | ok f ρ1 =>
    rw [hr] at h
    exact PostS.toW h fun e ρ q => by cases q
  | exc e ρ1 =>
    rw [hr] at h
    dsimp only at h
    refine fun cl dd σ' G' H' ex R er => ?_
    cases hq : sub e.c c with
    | none => rw [hq] at h; exact h.elim
    | some b =>
      rw [hq] at h
      have hm := hsub _ _ _ hq
      obtain ⟨ecl, _⟩ := id er
      subst ecl
      refine ⟨b, hm, fun hb a _ => ?_, fun hb => ?_⟩
      · subst hb
        dsimp only at h
        obtain ⟨hlt, h⟩ := ite_postS h
        refine ⟨(e, G'), ⟨rfl, er⟩, B, ρ1.set i none, G', R.ofW.enter hlt, ?_⟩
        have h := PostS.ext h ex
        cases hss : ss e (ρ1.set i none) with
        | bot => rw [hss] at h; exact h
        | exc _ _ => rw [hss] at h; exact h.elim
        | ok f ρ2 =>
          rw [hss] at h
          exact PostS.leave h hpn R.ofW.kg
      · subst hb
        exact h _ _ _ _ _ ex R.ofW er
/-! ### in the suite -/
theorem RpF.look {K : PySem.W.Frag} {C : Nat → Addr} {G : Hp} {f : Str} : ∀ {fl : List (Str × V)} {fs : List (Str × D)} {d : D}, RpF K C G fl fs → fs.lookup f = some d → ∃ v, fl.lookup f = some v ∧ Rp K C G v d
  | _, _, _, .nil, e => by cases e
  | _, _, d, @RpF.cons _ _ _ n v d0 vs ds h r, e => by
    by_cases q : f = n
    · subst q
      rw [List.lookup_cons_self] at e
      cases e
      exact ⟨v, List.lookup_cons_self, h⟩
    · have z : (f == n) = false := by simpa using q
      rw [List.lookup_cons, z] at e
      obtain ⟨u, h1, h2⟩ := r.look e
      exact ⟨u, by rw [List.lookup_cons, z]; exact h1, h2⟩
/-- e.f -/
def dXf (ok : Nat → Bool) (f : Str) (e : EX) : ENV → R D := fun ρ => if ok e.c = true then R.of (e.fs.lookup f) ρ else .bot
structure XfOk (K : PySem.W.Frag) (C : Nat → Addr) (f : Str) (ok : Nat → Bool) : Prop where
  at_ : ∀ c, ok c = true → XfC K (C c) ∧ PySem.W.findIn K (.ref (C c)) f = some none
theorem de_xf {f n : Str} {i : Nat} {e : EX} {ok : Nat → Bool} {a : Addr} {oe : Obj} {d : Option Addr} {pn : List (Addr × Obj)} {G0 : Hp} {p : Pos} (F : XfOk X.K cc.C f ok) (hz : Zc (.ref (cc.C e.c)) d oe) (hf : ∃ vs, oe.data = .fields vs) (er : ERp X.K cc.C G0 e (.ref (cc.C e.c)) d)
    (hi : X.N[i]? = some n := by rfl) (hv : Vis X.env.scope n := by first | exact Or.inl rfl | exact Or.inr (Or.inl rfl) | exact Or.inr (Or.inr rfl)) (hd : (n == ("__debug__" : Str)) = false := by decide) (hcd : (n == ("__classdict__" : Str)) = false := by decide)
    (hb : attributeBase (.Name n p) f X.env (eval (.Name n p) X.env) = eval (.Name n p) X.env := by rfl) : DE (X.suite a ((a, oe) :: pn)) (cc.hold i a G0) (.Attribute (.Name n p) f pos) (dXf ok f e) := by
  by_cases ho : ok e.c = true
  · obtain ⟨xc, hno⟩ := F.at_ _ ho
    have te : PE (X.suite a ((a, oe) :: pn)) (.Name n p) (tVar i) := pe_var hi hv hd hcd
    refine PE.imp (pe_xf xc hno hz hf te hb) fun σ H Q ⟨B, ρ, G, R0, h⟩ => ?_
    unfold dXf at h
    rw [if_pos ho] at h
    have pa := R0.pa i List.mem_cons_self
    have hai : (cc.hold i a G0).ad i = a := if_pos rfl
    rw [hai] at pa
    cases hl : e.fs.lookup f with
    | none => rw [hl] at h; exact h.elim
    | some v =>
      rw [hl] at h
      rcases er with ⟨_, ⟨e0, _⟩ | ⟨dx, fl, hd', hg, rf⟩⟩
      · rw [e0] at hl; cases hl
      · obtain ⟨u, h1, h2⟩ := rf.look hl
        exact ⟨_, pa, rfl, rfl, dx, fl, u, hd', R0.gk _ _ (R0.kg _ _ hg), h1, h u G H (Ext.refl _ _) R0 (h2.mono R0.kg)⟩
  · refine ⟨fun pi s σ H Q I ⟨B, ρ, G, R0, h⟩ => ?_⟩
    unfold dXf at h
    rw [if_neg ho] at h
    exact h.elim
end
end Rf
set_option Elab.async false
set_option linter.all false
set_option maxRecDepth 100000
/-! Rf14: isinstance(e, Y) in the suite of try .. except X as e -/
namespace Rf
open PySem PySem.Spec L2 PyProof.Rows
/-- e's class, for isinstance -/
structure XiOk (K : PySem.W.Frag) (D : Addr) : Prop where
  cl : (PySem.W.clsIn K D).isSome = true
  ga : PySem.W.findIn K (.ref D) "__getattribute__" = some (some (.builtin "BaseException.__getattribute__"))
  gt : PySem.W.findIn K (.ref D) "__getattr__" = some none
  sb : PySem.W.subIn K (.ref D) (.type "BaseException") = some true
  ca : PySem.W.findIn K (.ref D) "__class__" = some (some (.builtin "object.__class__"))
  sp : PySem.W.specialIn K (.builtin "object.__class__") "__get__" = some (some (.builtin "getset_descriptor.__get__"))
  tk : PySem.W.takesIn K (.builtin "object.__class__") = some true
  mo : PySem.W.mroIn K D (.type "object") = some true
def rXi (K : PySem.W.Frag) (D a : Addr) (d : Option Addr) : List V → Hp → VK → Prop := fun xs H Q => ∃ (c : V) (cv : Value) (b : Bool), xs = [.ref a, c] ∧ (∀ u, RelV c u → u = cv) ∧ PySem.W.kitOne K (.ref D) cv = some b ∧ (∀ dx, d = some dx → ∃ fl, H dx = some (.xd fl)) ∧ Q (.bl b) H
theorem cr_xi {X : Cx} {a D : Addr} {oe : Obj} {d : Option Addr} {pn : List (Addr × Obj)} (C : XiOk X.K D) (hz : Zc (.ref D) d oe) (hf : ∃ vs, oe.data = .fields vs) : CallR (X.suite a ((a, oe) :: pn)) (.builtin "isinstance") (rXi X.K D a d) := by
  intro pi s σ H xs us Q I r h
  obtain ⟨c, cv, b, rfl, hcv, e, hd, q⟩ := h
  match us, r with
  | [_, _], .cons rx (.cons rt .nil) =>
    cases rx
    cases hcv _ rt
    obtain ⟨hget, _⟩ := I.pin (a, oe) (List.mem_append.mpr (.inl List.mem_cons_self))
    obtain ⟨vs, hv⟩ := hf
    have J : ∃ od, PySem.W.InstAt s.heap a oe D od := by
      obtain ⟨h1, h2⟩ := hz
      have nc : PySem.W.notCls oe = true := by unfold PySem.W.notCls; rw [hv]
      cases d with
      | none => exact ⟨none, hget, h1, nc, by rw [h2]; trivial⟩
      | some dx =>
        obtain ⟨fl, hx⟩ := hd dx rfl
        have hxx : ObjOk X.prog X.w H s.heap dx (.xd fl) := I.hok dx _ hx
        obtain ⟨mA, hns, _⟩ := hxx
        obtain ⟨od, ho, _⟩ := lookIn_ns hns
        exact ⟨some od, hget, h1, nc, by rw [h2]; exact ho⟩
    obtain ⟨od, J⟩ := J
    exact PySem.W.kia_one (PySem.W.kitx_exc C.cl C.ga C.gt C.sb C.ca C.sp C.tk C.mo) I.kIn J e (fun z => nomatch z) fun tk => ⟨.bl b, H, I.kept (t' := tk) fun _ _ z => z, rfl, q⟩
/-- isinstance(e, Y) -/
def dXi (f : Nat → Option Bool) (e : EX) : ENV → R D := fun ρ => R.of ((f e.c).map D.bl) ρ
structure XiAll (K : PySem.W.Frag) (C : Nat → Addr) (cu : Value) (f : Nat → Option Bool) : Prop where
  at_ : ∀ c b, f c = some b → XiOk K (C c) ∧ PySem.W.kitOne K (.ref (C c)) cu = some b
section
variable {X : Cx} {cc : Cc} {pos : Pos}
theorem de_xi {x y n : Str} {i : Nat} {e : EX} {f : Nat → Option Bool} {cv : V} {cu : Value} {a : Addr} {oe : Obj} {d : Option Addr} {pn : List (Addr × Obj)} {G0 : Hp} {p p1 p2 : Pos} (F : XiAll X.K cc.C cu f) (hz : Zc (.ref (cc.C e.c)) d oe) (hf : ∃ vs, oe.data = .fields vs) (er : ERp X.K cc.C G0 e (.ref (cc.C e.c)) d)
    (hc : PE (X.suite a ((a, oe) :: pn)) (.Name y p2) (tC cv)) (hk : ∀ u, RelV cv u → u = cu) (hg : Gl X x) (hm : X.mg x = none) (hvx : bootBuiltins x = some (.builtin "isinstance"))
    (hi : X.N[i]? = some n := by rfl) (hv : Vis X.env.scope n := by first | exact Or.inl rfl | exact Or.inr (Or.inl rfl) | exact Or.inr (Or.inr rfl)) (hd : (n == ("__debug__" : Str)) = false := by decide) (hcd : (n == ("__classdict__" : Str)) = false := by decide)
    (hn : x ≠ "__name__" := by decide) (hdb : (x == ("__debug__" : Str)) = false := by decide) (he : starEach [.Name n p1, .Name y p2] X.env = (false, eval (.Name n p1) X.env) :: starEach [.Name y p2] X.env := by rfl)
    (hpl : (backTo pos (starEach [.Name y p2] X.env)).any (·.1) = false := by rfl) (hs2 : starEach [.Name y p2] X.env = (false, eval (.Name y p2) X.env) :: starEach [] X.env := by rfl) :
    DE (X.suite a ((a, oe) :: pn)) (cc.hold i a G0) (.Call (.Name x p) [.Name n p1, .Name y p2] [] pos) (dXi f e) := by
  cases hfc : f e.c with
  | none =>
    refine ⟨fun pi s σ H Q I ⟨B, ρ, G, R0, h⟩ => ?_⟩
    unfold dXi at h
    rw [hfc] at h
    exact h.elim
  | some b =>
    obtain ⟨xo, hko⟩ := F.at_ _ _ hfc
    have te : PE (X.suite a ((a, oe) :: pn)) (.Name n p1) (tVar i) := pe_var hi hv hd hcd
    refine PE.imp (pe_callB (cr_xi xo hz hf) hg hm hvx (pa_cons te (pa_cons hc pa_nil hs2) he) hn hdb he hpl) fun σ H Q ⟨B, ρ, G, R0, h⟩ => ?_
    unfold dXi at h
    rw [hfc] at h
    have pa := R0.pa i List.mem_cons_self
    have hai : (cc.hold i a G0).ad i = a := if_pos rfl
    rw [hai] at pa
    refine ⟨_, pa, cv, cu, b, rfl, hk, hko, fun dx hdx => ?_, h _ G H (Ext.refl _ _) R0 (.bl b)⟩
    rcases er with ⟨_, ⟨_, e0⟩ | ⟨dx', fl, hd', hg', _⟩⟩
    · rw [e0] at hdx; cases hdx
    · rw [hd'] at hdx; cases hdx
      exact ⟨fl, R0.gk _ _ (R0.kg _ _ hg')⟩
end
end Rf
set_option Elab.async false
set_option linter.all false
set_option maxRecDepth 100000
set_option maxHeartbeats 1000000
/-! Rf15: instances of classes of the program: fields read, fields set on an owned instance, instances made -/
namespace Rf
open PySem PySem.Spec L2 PyProof.Rows
/-- classes whose instances have the field f -/
structure FlOk (K : PySem.W.Frag) (C : Nat → Addr) (f : Str) (ok : Nat → Bool) : Prop where
  at_ : ∀ c, ok c = true → Cls K (C c) ∧ NoAttr K (C c) f
def vFld (ok : Nat → Bool) (f : Str) : D → Option D
  | .ins c fs => if ok c = true then fs.lookup f else none
  | _ => none
def dFld (ok : Nat → Bool) (f : Str) (da : ENV → R D) : ENV → R D := dUn (vFld ok f) da
section
variable {X : Cx} {cc : Cc} {pos : Pos} {e : Expr} {da : ENV → R D} {ok : Nat → Bool} {f : Str}
theorem de_fld (F : FlOk X.K cc.C f ok) (ha : DE X cc e da) (hb : attributeBase e f X.env (eval e X.env) = eval e X.env := by rfl) : DE X cc (.Attribute e f pos) (dFld ok f da) := by
  refine PE.imp (pe_fld ha hb) fun σ H Q ⟨B, ρ, G, R0, h⟩ => ⟨B, ρ, G, R0, h.bind fun d ρ1 G1 H1 x e1 R1 p1 h1 => ?_⟩
  cases p1 with
  | @ins a dx c fl fs hg r =>
    by_cases ho : ok c = true
    · have e0 : vFld ok f (.ins c fs) = fs.lookup f := if_pos ho
      rw [e0] at h1
      cases hl : fs.lookup f with
      | none => rw [hl] at h1; exact h1.elim
      | some d =>
        rw [hl] at h1
        obtain ⟨u, h2, h3⟩ := r.look hl
        obtain ⟨c1, c2⟩ := F.at_ c ho
        exact ⟨a, cc.C c, dx, fl, u, rfl, R1.gk _ _ hg, c1, c2, h2, Post.fin h1 R1 (Ext.refl _ _) (Grow.refl R1.gk) h3⟩
    · have e0 : vFld ok f (.ins c fs) = none := if_neg ho
      rw [e0] at h1
      exact h1.elim
  | _ => exact h1.elim
/-! ### a field of an owned instance is set -/
def putD (f : Str) (d : D) : List (Str × D) → List (Str × D)
  | [] => [(f, d)]
  | (g, x) :: r => if g = f then (g, d) :: r else (g, x) :: putD f d r
theorem RpF.put {K : PySem.W.Frag} {C : Nat → Addr} {G : Hp} {v : V} {d : D} (p : Rp K C G v d) : ∀ {fl : List (Str × V)} {fs : List (Str × D)}, RpF K C G fl fs → RpF K C G (putF f v fl) (putD f d fs)
  | _, _, .nil => .cons p .nil
  | _, _, @RpF.cons _ _ _ n u d0 _ _ h r => by
    unfold putF putD
    by_cases q : n = f
    · rw [if_pos q, if_pos q]; exact .cons p r
    · rw [if_neg q, if_neg q]; exact .cons h (r.put p)
theorem RpF.length {K : PySem.W.Frag} {C : Nat → Addr} {G : Hp} : ∀ {fl : List (Str × V)} {fs : List (Str × D)}, RpF K C G fl fs → fl.length = fs.length
  | _, _, .nil => rfl
  | _, _, .cons _ r => congrArg (· + 1) r.length
def sFld (ok : Nat → Bool) (f : Str) (i : Nat) (da : ENV → R D) : ENV → R Fl := fun ρ => (da ρ).bind fun d ρ1 => match ρ1[i]? with
  | some (some (.ow (.ins c fs))) => if ok c = true ∧ fs.length < 1000 then .ok .nx (ρ1.set i (some (.ow (.ins c (putD f d fs))))) else .bot
  | _ => .bot
theorem ds_fld (i : Nat) {x : Str} {p2 p3 : Pos} (F : FlOk X.K cc.C f ok) (ha : DE X cc e da) (hN : X.N[i]? = some x := by rfl) (hv : Vis X.env.scope x := by first | exact Or.inl rfl | exact Or.inr (Or.inl rfl) | exact Or.inr (Or.inr rfl)) (hd : (x == ("__debug__" : Str)) = false := by decide)
    (hcd : (x == ("__classdict__" : Str)) = false := by decide) (hs : swapsWith e (some (.Attribute (.Name x p2) f p3)) pos.line X.env = pure false := by rfl) : DS X cc (.Assign [.Attribute (.Name x p2) f p3] e pos) (sFld ok f i da) := by
  refine PS.imp (ps_fld (pe_var hN hv hd hcd) ha hs) fun Dn σ H ⟨B, ρ, G, R0, h⟩ => ⟨B, ρ, G, R0, h.bind fun d ρ1 G1 H1 y e1 R1 p1 h1 => ?_⟩
  split at h1
  rotate_left
  · exact h1.elim
  rename_i c fs e0
  obtain ⟨⟨ho, hl⟩, h1⟩ := ite_postS h1
  obtain ⟨p, hp, ow⟩ := R1.ow i _ e0
  obtain ⟨o, hx, dx, fl, rfl, r⟩ := ow.at_
  obtain ⟨c1, c2⟩ := F.at_ c ho
  refine ⟨_, hp, p, cc.C c, dx, fl, rfl, hx, c1, c2, by rw [r.length]; exact hl, ?_⟩
  exact h1 σ G1 _ (Ext.refl _ _) (R1.mutate e0 hp ⟨dx, _, rfl, r.put p1⟩)
end
/-! ### made -/
structure Ik (P : Program) (w : World) (K : PySem.W.Frag) (mg : Str → Option Value) (base : Heap) (C : Nat → Addr) (x : Str) (c n k : Nat) (F : List DV → FO) : Prop where
  gC : mg x = some (.ref (C c))
  ex : ∃ f fd ps, ps.length = n ∧ Mk K (C c) f ∧ FnOk P w K mg base (L2.CX P w) k f fd ps (spF K C n F) ∧ Binds K fd ps []
def mkR (ρ1 : ENV) : FO → R M
  | .ok (.sh .non) [m] => .ok m ρ1
  | .exc e _ => .exc e ρ1
  | _ => .bot
def fMake (c n : Nat) (F : List DV → FO) (da : ENV → R (List D)) : ENV → R M := fun ρ => (da ρ).bind fun ds ρ1 => if ds.length + 1 = n then mkR ρ1 (F (.ow (.ins c []) :: ds.map DV.sh)) else .bot
section
variable {X : Cx} {cc : Cc} {pos p : Pos} {x : Str} {c n k : Nat} {F : List DV → FO}
theorem run_makeS {CX : CXT} {C f : Addr} {fd : FuncData} {ps : List Str} {sp : Sp} {E : XK} {pi : List (Addr × Obj)} {σ : L2.St} {H : Hp} {s : Shared} {Q : VK} {us : List Value} {vs : List V} (M : Mk X.K C f) (F : FnOk X.prog X.w X.K X.mg X.base CX k f fd ps sp)
    (hr : Room (k + 1) X.A) (hb : Binds X.K fd ps []) (hx : PassesAt CX X σ E) (I : Inv X pi σ H s) (r : Vals vs us)
    (h : ∀ x dx, H x = none → H dx = none → dx ≠ x → sp (.ref x :: vs) (upd (upd H dx (.own x)) x (.ins C dx [])) (fun v H2 => v = .non ∧ Q (.ref x) H2) E) :
    wpAny (model X.prog X.w) X.A (call (.ref C) us) (EP X pi σ Q) X.xe s := by
  have hq := h (s.heap.objs.size + 1) s.heap.objs.size (I.hok.fresh (Nat.le_succ _)) (I.hok.fresh (Nat.le_refl _)) (Nat.ne_of_lt (Nat.lt_succ_self _))
  have J := Inv.made (C := C) I
  have r2 : Vals (V.ref (s.heap.objs.size + 1) :: vs) (Value.ref (s.heap.objs.size + 1) :: us) := .cons rfl r
  have hl : (Value.ref (s.heap.objs.size + 1) :: us).length = ps.length := by
    have e := r2.length
    rw [F.len _ _ _ _ hq] at e
    exact e.symm
  have hbb := fun s1 k1 => hb s1 (Value.ref (s.heap.objs.size + 1) :: us) k1 (by rw [List.append_nil]; exact hl)
  rw [List.append_nil] at hbb
  refine wpAny_call (make_map (f := f) I.kIn M.makes M.init (beq_iff_eq.mp M.fn) (codeAny_mono (F.run _ X.stack _ _ ⟨Value.ref (s.heap.objs.size + 1) :: us, []⟩ (Value.ref (s.heap.objs.size + 1) :: us) _ _ E (hr.make C us []) (J.env0.make C us []) (hbb _ J.kIn) r2 hq) fun r s' hq' => ?_))
  match r, hq' with
  | .error e, hq' => exact hx pi _ _ e s' J hq'
  | .ok (.ret u), hq' =>
    obtain ⟨v, H', I3, rv, ev, q3⟩ := J.after hq'
    subst ev
    exact ⟨rv, ⟨V.ref (s.heap.objs.size + 1), H', I3, rfl, q3⟩⟩
theorem apart1 {a : Addr} {m : M} {vs : List V} {ds : List D} : Apart (.ref a :: vs) (.ow m :: ds.map DV.sh) := by
  have z : ∀ (i : Nat) (m' : M), (DV.ow m :: ds.map DV.sh)[i]? = some (.ow m') → i = 0 := fun i m' h => by
    cases i with
    | zero => rfl
    | succ i => rw [List.getElem?_cons_succ, List.getElem?_map] at h; cases q : ds[i]? <;> rw [q] at h <;> cases h
  exact fun i j m1 m2 p h1 h2 _ _ => (z i m1 h1).trans (z j m2 h2).symm
theorem AR.shs {K : PySem.W.Frag} {C : Nat → Addr} {B G H : Hp} : ∀ {vs : List V} {ds : List D}, RpL K C G vs ds → AR K C B G H vs (ds.map DV.sh)
  | _, _, .nil => .nil
  | _, _, .cons h r => .sh h (AR.shs r)
theorem df_make {e : Expr} {es : List Expr} {da : ENV → R (List D)} (T : Ik X.prog X.w X.K X.mg X.base cc.C x c n k F) (hr : Room (k + 1) X.A) (tk : Takes X cc.W) (ha : DA X cc (e :: es) da) (hg : Gl X x := by rfl)
    (hdb : (x == ("__debug__" : Str)) = false := by decide) (he : starEach (e :: es) X.env = (false, eval e X.env) :: starEach es X.env := by rfl) (hpl : (backTo pos (starEach es X.env)).any (·.1) = false := by rfl) :
    DF X cc (.Call (.Name x p) (e :: es) [] pos) (fMake c n F da) := by
  obtain ⟨f, fd, ps, hps, M, G, hb⟩ := T.ex
  constructor
  intro pi s σ H Q I ⟨B, ρ, G0, R0, h⟩
  refine wpAny_Call_Name_kw (ld_glob I hg T.gC ?_ hdb)
  refine PySem.W.callWith_K (h₀ := X.base) I.ok.mod.kin M.kp (thn (ha.run pos pi s σ H (fun vs H1 => ∀ a dx, H1 a = none → H1 dx = none → dx ≠ a → spF X.K cc.C n F (.ref a :: vs) (upd (upd H1 dx (.own a)) a (.ins (cc.C c) dx [])) (fun v H2 => v = .non ∧ Q (.ref a) H2) (WE cc.W σ)) I
    ⟨B, ρ, G0, R0, h.bind fun ds ρ1 G1 H1 vs e1 R1 p1 h1 => ?_⟩) fun us s1 ⟨vs, H1, I1, r, q⟩ => ⟨I1.kIn, run_makeS M G hr hb (passAt tk σ) I1 r q⟩) he hpl
  intro a dx na nd ne
  by_cases hz : ds.length + 1 = n
  rotate_left
  · rw [if_neg hz] at h1; exact h1.elim
  rw [if_pos hz] at h1
  have keep : Same H1 (upd (upd H1 dx (.own a)) a (.ins (cc.C c) dx [])) := (same_upd nd).trans (same_upd (by rw [upd_ne (Ne.symm ne)]; exact na))
  have owM : ∀ {G' H' : Hp}, Same G1 G' → Ext H1 G1 G' → Same H1 H' → ∀ (i : Nat) (m : Rf.M), ρ1[i]? = some (some (.ow m)) → ∃ p, σ[i]? = some (some (.ref p)) ∧ Own X.K cc.C B G' H' p m := by
    intro G' H' s1 ex k1 i m q
    obtain ⟨p, h1, o⟩ := R1.ow i m q
    obtain ⟨u, h2, h3⟩ := o.at_
    refine ⟨p, h1, o.nb, ?_, u, k1 _ _ h2, h3.mono s1⟩
    cases hg : G' p with
    | none => rfl
    | some w =>
      rcases ex.nb p w hg with z | z
      · rw [o.ng] at z; cases z
      · rw [h2] at z; cases z
  have R2 : ∀ {G' H' : Hp}, Same G1 G' → Ext H1 G1 G' → Same H1 H' → Same G' H' → Rl X.K cc B ρ1 σ G' H' := fun {G' H'} s1 ex k1 k2 =>
    ⟨R1.bk.trans k1, k2, R1.ln, fun i d q => let ⟨v, h1, h2⟩ := R1.sh i d q; ⟨v, h1, h2.mono s1⟩, owM s1 ex k1, R1.df, R1.pa, R1.kg.trans s1⟩
  have notA : ∀ (i : Nat) (m' : Rf.M), ρ1[i]? = some (some (.ow m')) → σ[i]? ≠ some (some (.ref a)) := by
    intro i m' q1 q2
    obtain ⟨p, h3, o⟩ := R1.ow i m' q1
    rw [q2] at h3
    cases h3
    obtain ⟨u, h4, _⟩ := o.at_
    rw [na] at h4
    cases h4
  refine ⟨.ow (.ins c []) :: ds.map DV.sh, H1, G1, by rw [List.length_cons, p1.length]; exact hz, keep, R1.gk.trans keep, .ow ⟨na, R1.gk.free na, _, upd_same, dx, [], rfl, .nil⟩ (AR.shs p1), apart1, ?_⟩
  generalize hF : F (.ow (.ins c []) :: ds.map DV.sh) = r at h1 ⊢
  cases r with
  | bot => exact h1.elim
  | exc ex ms =>
    exact fun cl dd G' H' e2 k1 k2 os er => h1 cl dd G' H' ⟨e2.gg, fun b o q => (e2.nb b o q).imp id fun z => R1.bk.free z⟩ (R2 e2.gg e2 k1 k2) er
  | ok v ms =>
    match v, ms, h1 with
    | .sh .non, [m], h1 =>
      intro xv G' H' e2 k1 k2 os hv
      cases hv
      refine ⟨rfl, ?_⟩
      cases os with
      | ow ho _ => exact h1 a G' H' ⟨e2.gg, fun b o q => (e2.nb b o q).imp id fun z => R1.bk.free z⟩ (R2 e2.gg e2 k1 k2) ⟨R1.bk.free na, ho.ng, ho.at_⟩ notA
end
end Rf
set_option Elab.async false
set_option linter.all false
set_option maxRecDepth 100000
set_option maxHeartbeats 1000000
/-! Rf16: defs in classes; o.m(..) of an instance, the class found by its number -/
namespace Rf
open PySem PySem.Spec L2 PyProof.Rows
/-- a def of a class of the module -/
structure Dm (K : PySem.W.Frag) (Ca : Addr) (m qual : Str) (st : Stmt) (ps : List Str) : Prop where
  ex : ∃ f fd, Fun K m qual st f fd ∧ PySem.W.findIn K (.ref Ca) m = some (some (.ref f)) ∧ PySem.W.isFn K (.ref f) = true ∧ ∀ us : List Value, us.length = ps.length → bindArgs fd ⟨us, []⟩ = pure (ps.zip us)
theorem dm_mk {K : PySem.W.Frag} {Ca : Addr} {m qual : Str} {st : Stmt} {ps : List Str} {f : Addr} {oc : Value} {od an : Option Addr} {osl : Array (Option Value)} {kV doc pm cdv ct : Value} (a : PySem.W.findIn K (.ref Ca) m = some (some (.ref f)))
    (l : K.lookup f = some ⟨oc, od, .func (PySem.W.fnOf m qual (defArgs st) (defBody st) (defScope st) .none kV doc pm an cdv ct), osl⟩) (c : PySem.W.codeIn K cdv qual = true) (k : PySem.W.keepIn K (.ref f) = true) (fn : PySem.W.isFn K (.ref f) = true)
    (hb : ∀ (kV doc pm : Value) (an : Option Addr) (cdv ct : Value) (us : List Value), us.length = ps.length → bindArgs (PySem.W.fnOf m qual (defArgs st) (defBody st) (defScope st) .none kV doc pm an cdv ct) ⟨us, []⟩ = pure (ps.zip us)) : Dm K Ca m qual st ps :=
  ⟨f, _, fun_mk (st := st) l c k, a, fn, fun us hl => hb _ _ _ _ _ _ us hl⟩
/-- how instances of a class are made -/
structure Cm (K : PySem.W.Frag) (mg : Str → Option Value) (Ca : Addr) (x : Str) : Prop where
  gC : mg x = some (.ref Ca)
  mi : PySem.W.makesIn K Ca = true
  kp : PySem.W.keepIn K (.ref Ca) = true
section
variable {P : Program} {w : World} {K : PySem.W.Frag} {mg : Str → Option Value} {base : Heap} {C : Nat → Addr}
theorem ik_of {x qual : Str} {c : Nat} {st : Stmt} {N ps : List Str} {k : Nat} (h : Cm K mg (C c) x) (d : Dm K (C c) "__init__" qual st ps) (S : FnScope N ps (defScope st)) (pr : List Nat) {den : ENV → R Fl} (hlen : ps.length ≤ N.length)
    (hb : ∀ (f : Addr) (cdv : Value) (A : Around) (outer : List Env) (s : Shared) (H : Hp) (E : XK) (ad : Nat → Addr), Room k (A.deeper (PyProof.Rows.envOfC qual (defScope st) s.heap.objs.size f cdv)) →
      DSs (cxOf (L2.CX P w) P w K mg base N qual (defScope st) f cdv A outer s H E) ⟨C, fun cl d _ H => E cl d H, pr, ad, fun _ => none⟩ (defBody st) den) : Ik P w K mg base C x c ps.length (k + 1) (runF pr N.length den) := by
  obtain ⟨f, fd, F, hi, hf, hbd⟩ := d.ex
  exact ⟨h.gC, f, fd, ps, rfl, ⟨h.mi, hi, hf, h.kp⟩, fn_ok F S pr hlen (hb f), .all hbd⟩
/-- a method of some classes, by their numbers -/
structure Mf (P : Program) (w : World) (K : PySem.W.Frag) (mg : Str → Option Value) (base : Heap) (C : Nat → Addr) (m : Str) (n k : Nat) (tab : Nat → Option (List DV → FO)) : Prop where
  at_ : ∀ c F, tab c = some F → ∃ f fd ps, Cls K (C c) ∧ Meth K (C c) m f ∧ ps.length = n ∧ FnOk P w K mg base (L2.CX P w) k f fd ps (spF K C n F) ∧ Binds K fd ps []
theorem mf_of {m qual : Str} {c : Nat} {st : Stmt} {N ps : List Str} {k : Nat} (hc : Cls K (C c)) (d : Dm K (C c) m qual st ps) (S : FnScope N ps (defScope st)) (pr : List Nat) {den : ENV → R Fl} (hlen : ps.length ≤ N.length)
    (hb : ∀ (f : Addr) (cdv : Value) (A : Around) (outer : List Env) (s : Shared) (H : Hp) (E : XK) (ad : Nat → Addr), Room k (A.deeper (PyProof.Rows.envOfC qual (defScope st) s.heap.objs.size f cdv)) →
      DSs (cxOf (L2.CX P w) P w K mg base N qual (defScope st) f cdv A outer s H E) ⟨C, fun cl d _ H => E cl d H, pr, ad, fun _ => none⟩ (defBody st) den) : Mf P w K mg base C m ps.length (k + 1) (fun j => if j = c then some (runF pr N.length den) else none) := by
  refine ⟨fun j F hj => ?_⟩
  by_cases e : j = c
  · subst e
    rw [if_pos rfl] at hj
    cases hj
    obtain ⟨f, fd, G, hi, hf, hbd⟩ := d.ex
    exact ⟨f, fd, ps, hc, ⟨hi, hf, G.kp⟩, rfl, fn_ok G S pr hlen (hb f), .all hbd⟩
  · rw [if_neg e] at hj; cases hj
theorem Mf.mono {m : Str} {n k k' : Nat} {tab : Nat → Option (List DV → FO)} (h : Mf P w K mg base C m n k tab) (hk : k ≤ k') : Mf P w K mg base C m n k' tab :=
  ⟨fun c F e => let ⟨f, fd, ps, h1, h2, h3, h4, h5⟩ := h.at_ c F e; ⟨f, fd, ps, h1, h2, h3, h4.mono hk, h5⟩⟩
/-- two tables joined -/
theorem Mf.or {m : Str} {n k : Nat} {t u : Nat → Option (List DV → FO)} (h : Mf P w K mg base C m n k t) (g : Mf P w K mg base C m n k u) : Mf P w K mg base C m n k (fun c => match t c with | some F => some F | none => u c) :=
  ⟨fun c F e => by
    cases q : t c with
    | some F' => simp only [q] at e; cases e; exact h.at_ c _ q
    | none => simp only [q] at e; exact g.at_ c F e⟩
end
theorem RpF.lookN {K : PySem.W.Frag} {C : Nat → Addr} {G : Hp} {f : Str} : ∀ {fl : List (Str × V)} {fs : List (Str × D)}, RpF K C G fl fs → fs.lookup f = none → fl.lookup f = none
  | _, _, .nil, _ => rfl
  | _, _, @RpF.cons _ _ _ n _ _ _ _ _ r, e => by
    cases z : f == n with
    | true => rw [List.lookup_cons, z] at e; cases e
    | false =>
      rw [List.lookup_cons, z] at e ⊢
      exact r.lookN e
def metOf (tab : Nat → Option (List DV → FO)) (m : Str) : D → Option (List DV → FO)
  | .ins c fs => if fs.lookup m = none then tab c else none
  | _ => none
def metK (tab : Nat → Option (List DV → FO)) (m : Str) (dr : ENV → R (List Ag)) (x : D) (ρ1 : ENV) : R D := match metOf tab m x with
  | some F => ((dr ρ1).bind fun as ρ2 => stepR F (.inl x :: as) ρ2).bind onSh
  | none => .bot
def dMet (tab : Nat → Option (List DV → FO)) (m : Str) (da : ENV → R D) (dr : ENV → R (List Ag)) : ENV → R D := fun ρ => (da ρ).bind (metK tab m dr)
section
variable {X : Cx} {cc : Cc} {pos apos : Pos} {o e : Expr} {es : List Expr} {da : ENV → R D} {dr : ENV → R (List Ag)} {m : Str} {n k : Nat} {tab : Nat → Option (List DV → FO)}
theorem met_read {σ : L2.St} {Q : VK} {B G1 H1 : Hp} {ρ1 : ENV} {F : List DV → FO} {x : V} {d : D} (hn : Many n dr) (R1 : Rl X.K cc B ρ1 σ G1 H1) (p1 : Rp X.K cc.C G1 x d) (h : Post X.K cc (Rp X.K cc.C) B G1 σ Q (((dr ρ1).bind fun as ρ2 => stepR F (.inl d :: as) ρ2).bind onSh)) :
    rAg X.K cc dr σ H1 fun vs H2 => spF X.K cc.C (n + 1) F (x :: vs) H2 Q (WE cc.W σ) := by
  refine ⟨B, ρ1, G1, R1, ?_⟩
  have h := PostV.sh h
  cases hd : dr ρ1 with
  | exc e ρ2 => rw [hd] at h; exact h
  | bot => rw [hd] at h; exact h
  | ok as ρ2 =>
    rw [hd] at h
    intro vs G2 H2 e2 R2 ag
    exact call_core F R2 (.sh (p1.mono e2.gg) ag) (by rw [List.length_cons, ag.length, hn ρ1 as ρ2 hd]) (PostV.ext h e2)
theorem de_met {pl : Sem Bool} (T : Mf X.prog X.w X.K X.mg X.base cc.C m (n + 1) k tab) (hr : Room k X.A) (tk : Takes X cc.W) (ho : DE X cc o da) (ha : DAg X cc (e :: es) dr) (hn : Many n dr)
    (hst : starEach (e :: es) X.env = (false, eval e X.env) :: starEach es X.env := by rfl) (hpl : (backTo pos (starEach es X.env)).any (·.1) = false := by rfl)
    (ht : eval (.Call (.Attribute o m apos) (e :: es) [] pos) X.env = (eval o X.env >>= fun ov => standAt apos.atName >>= fun _ => holding [ov] (getMethod ov m pl) >>= fun fx =>
      callWith pos fx.1 fx.2 (backTo pos (starEach (e :: es) X.env)) (backToKw pos (keywordEach [] X.env))) := by rfl) : DE X cc (.Call (.Attribute o m apos) (e :: es) [] pos) (dMet tab m da dr) := by
  constructor
  intro pi s σ H Q I ⟨B, ρ, G0, R0, h⟩
  refine PySem.W.methodCall_KW (pl := pl) (thn (ho.run pi s σ H (fun x H1 => ∃ (a Ca : Addr) (dx : Addr) (fl : List (Str × V)) (F : List DV → FO) (f : Addr) (fd : FuncData) (ps : List Str), x = .ref a ∧ H1 a = some (.ins Ca dx fl) ∧ fl.lookup m = none ∧ Cls X.K Ca ∧ Meth X.K Ca m f ∧
      FnOk X.prog X.w X.K X.mg X.base (L2.CX X.prog X.w) k f fd ps (spF X.K cc.C (n + 1) F) ∧ Binds X.K fd ps [] ∧ rAg X.K cc dr σ H1 fun vs H2 => spF X.K cc.C (n + 1) F (x :: vs) H2 Q (WE cc.W σ)) I
    ⟨B, ρ, G0, R0, h.bind fun d ρ1 G1 H1 x e1 R1 p1 h1 => ?_⟩) fun u s1 ⟨x, H1, I1, rx, a, Ca, dx, fl, F, f, fd, ps, ex, ea, l, c, hm, G, hb, q⟩ => ?_) ht
  · unfold metK at h1
    cases p1 with
    | @ins a dx c fl fs hg r =>
      cases q : metOf tab m (.ins c fs) with
      | none => rw [q] at h1; exact h1.elim
      | some F =>
        rw [q] at h1
        have q : (if fs.lookup m = none then tab c else none) = some F := q
        by_cases hl : fs.lookup m = none
        · rw [if_pos hl] at q
          obtain ⟨f, fd, ps, c1, c2, c3, c4, c5⟩ := T.at_ c F q
          exact ⟨a, cc.C c, dx, fl, F, f, fd, ps, rfl, R1.gk _ _ hg, r.lookN hl, c1, c2, c4, c5, met_read hn R1 (.ins hg r) h1⟩
        · rw [if_neg hl] at q; cases q
    | _ => exact h1.elim
  · subst ex
    obtain rfl : u = Value.ref a := rx
    refine getmeth_ok I1 ea c hm l ?_
    refine PySem.W.callWith_K (first := [.ref a]) (h₀ := X.base) I.ok.mod.kin hm.kp (thn (ha.run pos pi s1 σ H1 _ I1 q) fun us s2 ⟨vs, H2, I2, r, q2⟩ => ⟨I2.kIn, ?_⟩) hst hpl
    exact run_fnS (us := .ref a :: us) (vs := .ref a :: vs) (E := WE cc.W) G hr hb (passAt tk σ) I2 (.cons rfl r) q2
end
end Rf
set_option Elab.async false
set_option linter.all false
set_option maxRecDepth 100000
set_option maxHeartbeats 1000000
/-! Rf17: what the end hands over: exception classes with fields, instances' classes, constants that are tuples -/
namespace Rf
open PySem PySem.Spec L2 PyProof.Rows
/-- an exception class of the text, whatever its __init__ -/
structure ExN (K : PySem.W.Frag) (mg : Str → Option Value) (c : Addr) (x : Str) : Prop where
  gC : mg x = some (.ref c)
  kC : PySem.W.keepIn K (.ref c) = true
  bP : PySem.W.subIn K (.ref c) (.type "BaseException") = some true
  tP : PySem.W.typeIn K (.ref c) = some (.type "type")
theorem ExN.names {X : Cx} {c : Addr} {x : Str} (h : ExN X.K X.mg c x) (hg : Gl X x) (hd : (x == ("__debug__" : Str)) = false := by decide) : Names X x (.ref c) := ⟨hg, hd, .inl h.gC⟩
theorem ExN.raises {X : Cx} {c : Addr} {x : Str} (h : ExN X.K X.mg c x) : Raises X (.ref c) := raises_own h.bP h.tP
theorem oex_mk {K : PySem.W.Frag} {C N : Addr} {nm q : Str} {bs bm : List Value} {sn : List Str} {sub : List Value} {ab : Bool} {col : Option Bool} {dd : Option Addr} {k0 k1 k2 k3 k5 : Option Value}
    (l : K.lookup C = some (excClassObj nm q C N bs bm true sn sub ab col dd k0 k1 k2 k3 k5 "ValueError.__new__")) (r : PySem.HandSPX.refsVE bm = true) (sa : PySem.W.findIn K (.ref C) "__setattr__" = some (some (.builtin "object.__setattr__")))
    (e : PySem.W.subIn K (.ref C) (.type "BaseException") = some true) (t : PySem.W.typeIn K (.ref C) = some (.type "type")) (k : PySem.W.keepIn K (.ref C) = true) : OexC K C :=
  ⟨⟨nm, q, N, bs, bm, sn, sub, ab, col, dd, k0, k1, k2, k3, k5, l, r⟩, sa, e, t, k⟩
theorem exi_of {P : Program} {w : World} {K : PySem.W.Frag} {mg : Str → Option Value} {base : Heap} {Ca : Addr} {x qual : Str} {fs : List Str} {st : Stmt} {N ps : List Str} (g : ExN K mg Ca x) (cl : OexC K Ca) (d : Dm K Ca "__init__" qual st ps) (S : FnScope N ps (defScope st)) (hl : ps.length = fs.length + 1)
    (hb : ∀ (f : Addr) (cdv : Value) (A : Around) (outer : List Env) (s : Shared) (H : Hp) (vs : List V) (Q : VK) (E : XK), Room 0 (A.deeper (envOfC qual (defScope st) s.heap.objs.size f cdv)) → spI Ca fs vs H Q E →
      ∃ t, PSs (cxOf CX0 P w K mg base N qual (defScope st) f cdv A outer s H E).nox (defBody st) t ∧ t { nx := fun _ H' => Q .non H', rt := Q } (L2.start N vs) H) : ExI P w K mg base Ca x fs 1 := by
  obtain ⟨f, fd, F, hi, hf, hbd⟩ := d.ex
  exact ⟨g.gC, cl, f, fd, ps, hi, beq_iff_eq.mp hf, F.ok S (fun vs H Q E h => (spI_len h).trans hl.symm) (hb f), .all hbd⟩
/-- a constant of the module that is a tuple -/
inductive RelL : List V → List Value → Prop
  | nil : RelL [] []
  | cons {v : V} {u : Value} {vs : List V} {us : List Value} (h : RelV v u) (r : RelL vs us) : RelL (v :: vs) (u :: us)
theorem xi_mk {K : PySem.W.Frag} {C : Nat → Addr} {cu : Value} {f : Nat → Option Bool} (h : ∀ c b, f c = some b → XiOk K (C c) ∧ PySem.W.kitOne K (.ref (C c)) cu = some b) : XiAll K C cu f := ⟨h⟩
end Rf
set_option Elab.async false
set_option linter.all false
set_option maxRecDepth 100000
set_option maxHeartbeats 1000000
/-! Rf18: enumerate over lists -/
namespace Rf
open PySem PySem.Spec L2 PyProof.Rows
def pairs (ds : List D) : List D := ds.mapIdx fun i d => .tup [.int (i : Nat), d]
theorem pairs_len (ds : List D) : (pairs ds).length = ds.length := by unfold pairs; rw [List.length_mapIdx]
theorem wk_enum {K : PySem.W.Frag} {C : Nat → Addr} {G : Hp} {a : Addr} {xs : List V} {ds : List D} (h : SqL K G a xs) (r : RpL K C G xs ds) : Wk K C G (Ite K a) (pairs ds) := by
  refine ⟨_, _, by rw [pairs_len, ← r.length]; exact walk_enum (xs := xs), fun G2 H2 s s2 => Same.seq s2 (Same.seq s h), fun i G2 H2 x H3 hi s s2 y => ?_⟩
  obtain ⟨T, u, v, rfl, nT, rfl, e1, e2⟩ := y
  cases e1
  obtain ⟨d, hd, p⟩ := r.getV e2
  have g := Grow.new (o := .tup [V.int (i : Nat), v]) s2 nT
  refine ⟨.tup [.int (i : Nat), d], _, ?_, g, .tup (.inl (.inl upd_same)) (.cons (.int _) (.cons ((p.mono s).mono g.gg) .nil))⟩
  unfold pairs
  rw [List.getElem?_mapIdx, hd]
  rfl
def enumK : D → ENV → R (List D) := fun x ρ1 => match x with
  | .lst ds => .ok (pairs ds) ρ1
  | .scr ds => .ok (pairs ds) ρ1
  | _ => .bot
def dEnum (da : ENV → R D) : ENV → R (List D) := fun ρ => (da ρ).bind enumK
section
variable {X : Cx} {cc : Cc} {a : Expr} {da : ENV → R D} {pos p tpos : Pos} {elts : List Expr} {kk : Nat}
theorem di_enum (hg : Gl X "enumerate") (hm : X.mg "enumerate" = none) (ha : DE X cc a da) (hs : starEach [a] X.env = [(false, eval a X.env)] := by rfl) (hs2 : starEach [a] X.env = (false, eval a X.env) :: starEach [] X.env := by rfl) :
    DI X cc (.Tuple elts kk tpos) (.Call (.Name "enumerate" p) [a] [] pos) (dEnum da) := by
  refine PI.imp (pi_enum hg hm (pa_cons ha pa_nil hs2) hs) fun σ H Q ⟨B, ρ, G, R0, h⟩ => ⟨B, ρ, G, R0, Post.bind (V2 := fun G' J ds => Wk X.K cc.C G' J ds) h fun d1 ρ1 G1 H1 x e1 R1 p1 h1 => ?_⟩
  cases p1 with
  | lst h r => exact ⟨_, _, rfl, .inl (.inl (R1.gk _ _ h)), h1 _ G1 H1 (Ext.refl _ _) R1 (wk_enum (.inl (.inl h)) r)⟩
  | scr h r => exact ⟨_, _, rfl, Same.seq R1.gk h, h1 _ G1 H1 (Ext.refl _ _) R1 (wk_enum h r)⟩
  | _ => exact h1.elim
/-! ### a if t else b, as a test -/
def ifBK (a b : ENV → R Bool) : Bool → ENV → R Bool := fun x ρ1 => if x = true then a ρ1 else b ρ1
def dIfB (t a b : ENV → R Bool) : ENV → R Bool := fun ρ => (t ρ).bind (ifBK a b)
theorem dt_ifexp {t b : Expr} {dt dA dB : ENV → R Bool} (ht : DT X cc t dt) (ha : DT X cc a dA) (hb : DT X cc b dB) : DT X cc (.IfExp t a b pos) (dIfB dt dA dB) := by
  constructor
  intro pi s σ H Q I ⟨B, ρ, G, R0, h⟩
  refine PyProof.Rows.isTrue_IfExp (thn (ht.run pi s σ H (fun c H1 => if c = true then rT X.K cc dA σ H1 Q else rT X.K cc dB σ H1 Q) I ⟨B, ρ, G, R0, Post.bind (V2 := fun _ b c => b = c) h fun d1 ρ1 G1 H1 x e1 R1 p1 h1 => ?_⟩) fun c s1 ⟨H1, I1, q⟩ => ?_)
  · subst p1
    cases x with
    | true => exact ⟨B, ρ1, G1, R1, h1⟩
    | false => exact ⟨B, ρ1, G1, R1, h1⟩
  · cases c with
    | true => exact ha.run pi s1 σ H1 Q I1 q
    | false => exact hb.run pi s1 σ H1 Q I1 q
/-! ### isinstance(x, Y), Y a class of the program -/
def isOwn (f : Nat → Option Bool) : D → Option Bool
  | .ins c _ => f c
  | _ => some false
structure IsO (K : PySem.W.Frag) (C : Nat → Addr) (cu : Value) (f : Nat → Option Bool) : Prop where
  own : ∀ c b, f c = some b → Cls K (C c) ∧ PySem.W.findIn K (.ref (C c)) "__class__" = some (some (.builtin "object.__class__")) ∧ PySem.W.mroIn K (C c) (.type "object") = some true ∧ PySem.W.kitOne K (.ref (C c)) cu = some b
  sp : PySem.W.specialIn K (.builtin "object.__class__") "__get__" = some (some (.builtin "getset_descriptor.__get__"))
  tk : PySem.W.takesIn K (.builtin "object.__class__") = some true
  b1 : PySem.W.kitOne K (.type "NoneType") cu = some false
  b2 : PySem.W.kitOne K (.type "bool") cu = some false
  b3 : PySem.W.kitOne K (.type "int") cu = some false
  b4 : PySem.W.kitOne K (.type "str") cu = some false
  b5 : PySem.W.kitOne K (.type "tuple") cu = some false
  b6 : PySem.W.kitOne K (.type "list") cu = some false
  b7 : PySem.W.kitOne K (.type "dict") cu = some false
theorem isOwn_ok {K : PySem.W.Frag} {C : Nat → Addr} {cu : Value} {f : Nat → Option Bool} (F : IsO K C cu f) {G H : Hp} {v : V} {d : D} {b : Bool} (s : Same G H) (p : Rp K C G v d) (e : isOwn f d = some b) : ∃ t, TyX K H v t ∧ PySem.W.kitOne K t cu = some b := by
  cases p with
  | non => cases e; exact ⟨_, .base .non, F.b1⟩
  | bl b => cases e; exact ⟨_, .base (.bl b), F.b2⟩
  | int b => cases e; exact ⟨_, .base (.int b), F.b3⟩
  | str b _ => cases e; exact ⟨_, .base (.str b), F.b4⟩
  | tup h r => cases e; exact ⟨_, sqT_ty (same_seqT s h), F.b5⟩
  | lst h r => cases e; exact ⟨_, .base (.lst (s _ _ h)), F.b6⟩
  | scr h r => cases e; exact ⟨_, sqL_ty (Same.seq s h), F.b6⟩
  | dic h r => cases e; exact ⟨_, .base (.dK (s _ _ h)), F.b7⟩
  | @ins a dx c fl fs h r =>
    obtain ⟨c1, c2, c3, c4⟩ := F.own c b e
    exact ⟨_, .base (.ins (s _ _ h) c1 c2 F.sp F.tk c3), c4⟩
theorem de_isO {j : Nat} {f : Nat → Option Bool} {x y : Str} {p2 : Pos} (F : IsO X.K cc.C (.ref (cc.C j)) f) (hmy : X.mg y = some (.ref (cc.C j))) (hg : Gl X x) (hm : X.mg x = none) (hv : bootBuiltins x = some (.builtin "isinstance")) (ha : DE X cc a da) (hgy : Gl X y := by rfl) (hdy : (y == ("__debug__" : Str)) = false := by decide)
    (hn : x ≠ "__name__" := by decide) (hdb : (x == ("__debug__" : Str)) = false := by decide) (he : starEach [a, .Name y p2] X.env = (false, eval a X.env) :: starEach [.Name y p2] X.env := by rfl)
    (hpl : (backTo pos (starEach [.Name y p2] X.env)).any (·.1) = false := by rfl) (hs2 : starEach [.Name y p2] X.env = (false, eval (.Name y p2) X.env) :: starEach [] X.env := by rfl) : DE X cc (.Call (.Name x p) [a, .Name y p2] [] pos) (dIs (isOwn f) da) :=
  de_isA (cv := .ref (cc.C j)) (cu := .ref (cc.C j)) (fun s p e => isOwn_ok F s p e) (pe_glob hgy hmy rfl hdy) (.own _) hg hm hv ha hn hdb he hpl hs2
end
end Rf
set_option Elab.async false
set_option linter.all false
set_option maxRecDepth 100000
set_option maxHeartbeats 1000000
/-! Rf19: == where the left side may be an instance with an own __eq__ -/
namespace Rf
open PySem PySem.Spec L2 PyProof.Rows
/-- what F says of two values, if it says a truth -/
def saysB : FO → Option D
  | .ok (.sh (.bl b)) [] => some (.bl b)
  | _ => none
/-- may y stand on the right of an own __eq__ -/
def rightOk (ok : Nat → Bool) : D → Bool
  | .ins c _ => ok c
  | _ => true
def vEqO (tab : Nat → Option (List DV → FO)) (ok : Nat → Bool) (x y : D) : Option D := match x with
  | .ins c fs => match tab c with
    | some F => if rightOk ok y = true then saysB (F [.sh x, .sh y]) else none
    | none => none
  | _ => vEq false x y
structure EqM (P : Program) (w : World) (K : PySem.W.Frag) (mg : Str → Option Value) (base : Heap) (C : Nat → Addr) (k : Nat) (tab : Nat → Option (List DV → FO)) (ok : Nat → Bool) : Prop where
  m : Mf P w K mg base C "__eq__" 2 k tab
  nb : ∀ c F, tab c = some F → ∀ T, T ∈ ["NoneType", "bool", "int", "str", "tuple", "list", "dict"] → PySem.W.notFirst K (C c) (.type T) = true
  no : ∀ c F c2, tab c = some F → ok c2 = true → PySem.W.notFirst K (C c) (.ref (C c2)) = true
  ty : ∀ c2, ok c2 = true → Cls K (C c2) ∧ PySem.W.findIn K (.ref (C c2)) "__class__" = some (some (.builtin "object.__class__")) ∧ PySem.W.mroIn K (C c2) (.type "object") = some true
  sp : PySem.W.specialIn K (.builtin "object.__class__") "__get__" = some (some (.builtin "getset_descriptor.__get__"))
  tk : PySem.W.takesIn K (.builtin "object.__class__") = some true
section
variable {X : Cx} {cc : Cc} {k : Nat} {tab : Nat → Option (List DV → FO)} {ok : Nat → Bool}
def rEqI (X : Cx) (C : Nat → Addr) (k : Nat) : R2 := fun x y H Q => ∃ (a Ca dx : Addr) (fl : List (Str × V)) (tb : Value) (f : Addr) (fd : FuncData) (ps : List Str) (F : List DV → FO), x = .ref a ∧ H a = some (.ins Ca dx fl) ∧ Meth X.K Ca "__eq__" f ∧
  FnOk X.prog X.w X.K X.mg X.base (L2.CX X.prog X.w) k f fd ps (spF X.K C 2 F) ∧ Binds X.K fd ps [] ∧ TyX X.K H y tb ∧ PySem.W.notFirst X.K Ca tb = true ∧ spF X.K C 2 F [x, y] H (fun v H' => (∃ b, v = .bl b) ∧ Q v H') E0
def rEqO (X : Cx) (C : Nat → Addr) (k : Nat) : R2 := fun x y H Q => rEqD X.K x y H Q ∨ rEqI X C k x y H Q
theorem op_eqO {C : Nat → Addr} (hr : Room k X.A) (hu : X.A.units + 65 < cLine) : OpR X (compareOp .Eq) (rEqO X C k) := by
  intro pi s σ H x y v u Q I rx ry h
  rcases h with h | ⟨a, Ca, dx, fl, tb, f, fd, ps, F, rfl, ha, hm, G, hb, ty, nf, sp⟩
  · exact op_eqD (by omega) pi s σ H x y v u Q I rx ry h
  · obtain rfl : v = Value.ref a := rx
    obtain ⟨mA, J, _⟩ := ins_get I.hok ha
    obtain ⟨od, J, _⟩ := J.look
    obtain ⟨m0, hF⟩ := I.fr
    obtain ⟨Pk, kx, hp, _⟩ := kit_of I ry ty
    show wpAny (model X.prog X.w) X.A (richCompare .Eq (.ref a) u) (EP X pi σ Q) X.xe s
    refine PySem.W.cmp_K (op := .Eq) (tb := tb) hr.units0 hF I.ok.mod.kin J (kx.ty _ _ I.kIn hp) nf hm.at_ hm.fn ?_
    refine wpAny_mono (run_fnS (us := [.ref a, u]) (vs := [.ref a, y]) (E := fun _ => E0) G hr hb (fun pi H s e s' I h => passL pi σ H s e s' I h) I (.cons rfl (.cons ry .nil)) sp) (fun v2 s2 z => ?_) fun _ _ z => z
    obtain ⟨vv, H2, I2, rv, ⟨b, rfl⟩, q⟩ := z
    obtain rfl : v2 = Value.bool b := rv
    exact ⟨.bl b, H2, I2, rfl, q⟩
theorem eqI_of (T : EqM X.prog X.w X.K X.mg X.base cc.C k tab ok) {G H : Hp} {y : V} {dy d : D} {Q : VK} {a d0 : Addr} {c : Nat} {fl : List (Str × V)} {fs : List (Str × D)} (s : Same G H) (hg : G a = some (.ins (cc.C c) d0 fl)) (r : RpF X.K cc.C G fl fs) (py : Rp X.K cc.C G y dy) (e : vEqO tab ok (.ins c fs) dy = some d)
    (kq : ∀ v G' H', Grow G H G' H' → Rp X.K cc.C G' v d → Q v H') : (∃ F, tab c = some F) ∧ rEqI X cc.C k (.ref a) y H Q := by
  have e : (match tab c with
    | some F => if rightOk ok dy = true then saysB (F [.sh (.ins c fs), .sh dy]) else none
    | none => none) = some d := e
  cases ht : tab c with
  | none => rw [ht] at e; cases e
  | some F =>
    rw [ht] at e
    dsimp only at e
    by_cases hh : rightOk ok dy = true
    · rw [if_pos hh] at e
      obtain ⟨f, fd, ps, c1, c2, c3, c4, c5⟩ := T.m.at_ c F ht
      have hty : ∃ tb, TyX X.K H y tb ∧ PySem.W.notFirst X.K (cc.C c) tb = true := by
        cases py with
        | non => exact ⟨_, .base .non, T.nb c F ht _ (by simp)⟩
        | bl b => exact ⟨_, .base (.bl b), T.nb c F ht _ (by simp)⟩
        | int b => exact ⟨_, .base (.int b), T.nb c F ht _ (by simp)⟩
        | str b _ => exact ⟨_, .base (.str b), T.nb c F ht _ (by simp)⟩
        | tup h r => exact ⟨_, sqT_ty (same_seqT s h), T.nb c F ht _ (by simp)⟩
        | lst h r => exact ⟨_, .base (.lst (s _ _ h)), T.nb c F ht _ (by simp)⟩
        | scr h r => exact ⟨_, sqL_ty (Same.seq s h), T.nb c F ht _ (by simp)⟩
        | dic h r => exact ⟨_, .base (.dK (s _ _ h)), T.nb c F ht _ (by simp)⟩
        | @ins a2 dx2 c2 fl2 fs2 h r =>
          obtain ⟨t1, t2, t3⟩ := T.ty c2 hh
          exact ⟨_, .base (.ins (s _ _ h) t1 t2 T.sp T.tk t3), T.no c F c2 ht hh⟩
      obtain ⟨tb, ty, nf⟩ := hty
      refine ⟨⟨F, rfl⟩, a, cc.C c, d0, fl, tb, f, fd, ps, F, rfl, s _ _ hg, c2, c4, c5, ty, nf, [.sh (.ins c fs), .sh dy], H, G, rfl, Same.refl H, s, .sh (.ins hg r) (.sh py .nil), fun i j m m' p h1 => ?_, ?_⟩
      · match i with
        | 0 => simp at h1
        | 1 => simp at h1
        | i + 2 => simp at h1
      · generalize F [.sh (.ins c fs), .sh dy] = o at e ⊢
        match o, e with
        | .ok (.sh (.bl b)) [], e =>
          cases e
          intro xv G' H' ex k1 k2 os hv
          cases hv
          exact ⟨⟨b, rfl⟩, kq _ G' H' ⟨ex.gg, k1, k2, ex.nb⟩ (.bl b)⟩
    · rw [if_neg hh] at e; cases e
theorem v2_eqO (T : EqM X.prog X.w X.K X.mg X.base cc.C k tab ok) : V2 X.K cc.C (vEqO tab ok) (rEqO X cc.C k) := by
  intro G H x y dx dy d Q s px py e kq
  cases px with
  | @ins a d0 c fl fs hg r =>
    right
    exact (eqI_of T s hg r py e kq).2
  | non => exact .inl (v2_eq s .non py e kq)
  | bl b => exact .inl (v2_eq s (.bl b) py e kq)
  | int b => exact .inl (v2_eq s (.int b) py e kq)
  | str b h => exact .inl (v2_eq s (.str b h) py e kq)
  | tup h r => exact .inl (v2_eq s (.tup h r) py e kq)
  | lst h r => exact .inl (v2_eq s (.lst h r) py e kq)
  | scr h r => exact .inl (v2_eq s (.scr h r) py e kq)
  | dic h r => exact .inl (v2_eq s (.dic h r) py e kq)
variable {a b : Expr} {da db : ENV → R D} {pos : Pos}
theorem de_eqO (T : EqM X.prog X.w X.K X.mg X.base cc.C k tab ok) (hr : Room k X.A) (hu : X.A.units + 65 < cLine) (ha : DE X cc a da) (hb : DE X cc b db) (hm : behindInMarks .Eq b = false := by rfl) : DE X cc (.Compare a [.Eq] [b] pos) (dOp (vEqO tab ok) da db) := de_cmp (op_eqO hr hu) (v2_eqO T) hm ha hb
theorem dt_eqO (T : EqM X.prog X.w X.K X.mg X.base cc.C k tab ok) (hr : Room k X.A) (hu : X.A.units + 65 < cLine) (ha : DE X cc a da) (hb : DE X cc b db) (hm : behindInMarks .Eq b = false := by rfl) : DT X cc (.Compare a [.Eq] [b] pos) (dT (dOp (vEqO tab ok) da db)) := dt_cmp (op_eqO hr hu) (v2_eqO T) hm ha hb
end
end Rf
set_option Elab.async false
set_option linter.all false
set_option maxRecDepth 100000
set_option maxHeartbeats 1000000
/-! Rf20: != where the left side is an instance with an own __eq__ and no __ne__ -/
namespace PySem
namespace NeK
open PySem.Spec PyProof.Rows Builtin
section
variable {prog : Program} {w : World} {A : Around} {E : Value → Shared → Prop} {s : Shared} {K : W.Frag} {x C f : Addr} {ox : Obj} {od : Option Obj} {b : Value}
theorem bound_ne {M : Model} {args : List Value} {Q : Option Value → Shared → Prop} (X : K.In s.heap) (I : W.InstAt s.heap x ox C od) (hs : W.findIn K (.ref C) "__ne__" = some (some (.builtin "object.__ne__")))
    (h : wpAny M A (call (.builtin "object.__ne__") (.ref x :: args)) (fun v s' => Q (some v) s') E s) : wpAny M A (callSpecialIfBound? (.ref x) "__ne__" args) Q E s := by
  have last : wpAny M A (call (.builtin "object.__ne__") ([.ref x] ++ args) >>= fun v => pure (some v)) Q E s := wpAny_bind (wpAny_mono h (fun _ _ z => wpAny_pure z) fun _ _ z => z)
  simp only [callSpecialIfBound?, bindSpecialIfBound?]
  refine wpAny_holding (wpAny_bind (wpAny_bind (wpAny_bind (I.type.here ((W.looks_findIn X hs).here (wpAny_bind (wpAny_askSetting (wpAny_ite ?_))))))))
  split
  · exact wpAny_bind (wpAny_of_eq (F.cmp_object.ne.bind _) (wpAny_pure (by exact last)))
  · exact wpAny_tryCatch (wpAny_bind (wpAny_of_eq (F.cmp_object.ne.bind _) (wpAny_pure (by exact last))))
theorem body_ne {Q : Fin → Shared → Prop} (hu : A.units < cLine) (X : K.In s.heap) (I : W.InstAt s.heap x ox C od) (he : W.findIn K (.ref C) "__eq__" = some (some (.ref f))) (hf : W.isFn K (.ref f) = true)
    (h : wpAny (model prog w) A (call (.ref f) [.ref x, b]) (fun v s' => ∃ r, v = .bool r ∧ Q (.done (.ret (.bool (!r)))) s') E s) : wpAny (model prog w) A (Builtin.«object.__ne__» ⟨[.ref x, b], []⟩) Q E s := by
  have h2 : wpAny (model prog w) A (callSpecialIfBound? (.ref x) (Str.ofString "__eq__") [b]) (fun o s' => ∃ r, o = some (.bool r) ∧ Q (.done (.ret (.bool (!r)))) s') E s :=
    W.ifBound_K X I he hf (wpAny_mono h (fun v s' z => by obtain ⟨r, rfl, q⟩ := z; exact ⟨r, rfl, q⟩) fun _ _ z => z)
  unfold Builtin.«object.__ne__»
  repeat (first
    | with_reducible refine wpAny_cRoomFor hu ?_
    | (refine wpAny_bind (m := callSpecialIfBound? (.ref x) (Str.ofString "__eq__") [b]) (wpAny_mono h2 (fun o s' z => ?_) fun _ _ z => z))
    | wp_step)
  obtain ⟨r, rfl, q⟩ := z
  repeat (first | exact q | exact wpAny_pure q | exact wpAny_truthy_bool q | (refine wpAny_bind (m := truthy (.bool _)) (wpAny_truthy_bool ?_)) | wp_step)
theorem try_ne {Q : Option Value → Shared → Prop} (hu : A.units + 1 < cLine) (X : K.In s.heap) (I : W.InstAt s.heap x ox C od) (hm : W.mroIn K C (.type "object") = some true) (hs : W.findIn K (.ref C) "__ne__" = some (some (.builtin "object.__ne__")))
    (he : W.findIn K (.ref C) "__eq__" = some (some (.ref f))) (hf : W.isFn K (.ref f) = true)
    (h : wpAny (model prog w) A.in1 (call (.ref f) [.ref x, b]) (fun v s' => ∃ r, v = .bool r ∧ Q (some (.bool (!r))) s') E s) : wpAny (model prog w) A (tryCompare (.ref x) "__ne__" b) Q E s := by
  unfold tryCompare
  refine wpAny_bind (bound_ne X I hs (wpAny_call (codeAny_call_builtin F.cmp_object.ne.plain F.cmpEntry_ne (W.check_slot F.cmpKind_ne F.cmpSplit_ne (I.type.andThen (W.looks_mroIn X hm)) (F.cmpArgs_ne _ _) (body_ne (A := A.in1) hu X I he hf (wpAny_mono h (fun v s' z => ?_) fun _ _ z => z))))))
  obtain ⟨r, rfl, q⟩ := z
  first | exact ⟨r, rfl, wpAny_pure q⟩ | exact ⟨r, rfl, wpAny_pure (wpAny_pure q)⟩ | exact ⟨r, rfl, q⟩
theorem rich_ne {tb : Value} {Q : Value → Shared → Prop} (hu : A.units + 1 < cLine) (X : K.In s.heap) (I : W.InstAt s.heap x ox C od) (hb : W.Looks (model prog w) s.heap (typeOf b) tb) (hn : W.notFirst K C tb = true) (hm : W.mroIn K C (.type "object") = some true)
    (hs : W.findIn K (.ref C) "__ne__" = some (some (.builtin "object.__ne__"))) (he : W.findIn K (.ref C) "__eq__" = some (some (.ref f))) (hf : W.isFn K (.ref f) = true)
    (h : wpAny (model prog w) A.in1 (call (.ref f) [.ref x, b]) (fun v s' => ∃ r, v = .bool r ∧ Q (.bool (!r)) s') E s) : wpAny (model prog w) A (richCompare .NotEq (.ref x) b) Q E s := by
  have one : wpAny (model prog w) A (tryCompare (.ref x) "__ne__" b) (fun o s' => ∃ v, o = some v ∧ Q v s') E s :=
    try_ne hu X I hm hs he hf (wpAny_mono h (fun v s' z => by obtain ⟨r, rfl, q⟩ := z; exact ⟨r, rfl, _, rfl, q⟩) fun _ _ z => z)
  unfold richCompare
  simp only [oneThing_ref]
  refine wpAny_holding (wpAny_bind (wpAny_cRoomFor (Nat.lt_of_succ_lt hu) (wpAny_bind (I.type.here (wpAny_bind (hb.here ?_))))))
  have last : ∀ {o : Option Value} {s' : Shared}, (∃ v, o = some v ∧ Q v s') → ∃ v, o = some v ∧ Q v s' := id
  split
  · rename_i q
    have e : W.subIn K tb (.ref C) = some false := by
      rcases Bool.or_eq_true_iff.mp hn with e | e
      · rw [beq_iff_eq.mp e] at q; simp at q
      · exact beq_iff_eq.mp e
    refine wpAny_bind ((W.looks_subIn X e).here ?_)
    simp only [Bool.false_eq_true, if_false]
    refine wpAny_bind (wpAny_mono one (fun o s' z => ?_) fun _ _ z => z)
    obtain ⟨v, rfl, hq⟩ := last z
    exact wpAny_pure hq
  · refine wpAny_bind (wpAny_pure ?_)
    simp only [Bool.false_eq_true, if_false]
    refine wpAny_bind (wpAny_mono one (fun o s' z => ?_) fun _ _ z => z)
    obtain ⟨v, rfl, hq⟩ := last z
    exact wpAny_pure hq
end
end NeK
end PySem

namespace Rf
open PySem PySem.Spec L2 PyProof.Rows
def negD : D → Option D
  | .bl b => some (.bl !b)
  | _ => none
def vNeO (tab : Nat → Option (List DV → FO)) (ok : Nat → Bool) (x y : D) : Option D := match x with
  | .ins _ _ => (vEqO tab ok x y).bind negD
  | _ => vEq true x y
structure NeM (K : PySem.W.Frag) (C : Nat → Addr) (tab : Nat → Option (List DV → FO)) : Prop where
  at_ : ∀ c F, tab c = some F → PySem.W.findIn K (.ref (C c)) "__ne__" = some (some (.builtin "object.__ne__")) ∧ PySem.W.mroIn K (C c) (.type "object") = some true
section
variable {X : Cx} {cc : Cc} {k : Nat} {tab : Nat → Option (List DV → FO)} {ok : Nat → Bool}
theorem run_in1 {f : Addr} {fd : FuncData} {ps : List Str} {sp : Sp} {pi : List (Addr × Obj)} {σ : L2.St} {H : Hp} {s : Shared} {Q : VK} {us : List Value} {vs : List V} (F : FnOk X.prog X.w X.K X.mg X.base (L2.CX X.prog X.w) k f fd ps sp) (hr : Room (k + 1) X.A) (hb : Binds X.K fd ps []) (I : Inv X pi σ H s)
    (r : Vals vs us) (h : sp vs H Q E0) : wpAny (model X.prog X.w) X.A.in1 (call (.ref f) us) (EP X pi σ Q) X.xe s := by
  have hl : us.length = ps.length := by rw [← r.length]; exact F.len _ _ _ _ h
  have b := hb s us I.kIn (by rw [List.append_nil]; exact hl)
  rw [List.append_nil] at b
  have e1 : Env0 X.prog X.w X.K X.mg X.base X.A.in1 X.stack s H := by
    have e := I.env0
    exact ⟨e.frames, e.mod, e.bs, e.bsz, e.funs, e.frf, e.hok, e.bare⟩
  refine wpAny_call (codeAny_mono (F.run X.A.in1 X.stack s H ⟨us, []⟩ us vs Q E0 hr.in1 e1 b r h) fun o s' hq => ?_)
  match o, hq with
  | .error e, hq => exact passL pi σ H s e s' I hq
  | .ok (.ret u), hq => exact I.after hq
def rNeO (X : Cx) (C : Nat → Addr) (k : Nat) : R2 := fun x y H Q => rNeD X.K x y H Q ∨ ∃ (a Ca dx : Addr) (fl : List (Str × V)) (tb : Value) (f : Addr) (fd : FuncData) (ps : List Str) (F : List DV → FO), x = .ref a ∧ H a = some (.ins Ca dx fl) ∧ Meth X.K Ca "__eq__" f ∧
  FnOk X.prog X.w X.K X.mg X.base (L2.CX X.prog X.w) k f fd ps (spF X.K C 2 F) ∧ Binds X.K fd ps [] ∧ TyX X.K H y tb ∧ PySem.W.notFirst X.K Ca tb = true ∧ (PySem.W.findIn X.K (.ref Ca) "__ne__" = some (some (.builtin "object.__ne__")) ∧ PySem.W.mroIn X.K Ca (.type "object") = some true) ∧
  spF X.K C 2 F [x, y] H (fun v H' => ∃ b, v = .bl b ∧ Q (.bl !b) H') E0
theorem op_neO {C : Nat → Addr} (hr : Room (k + 1) X.A) (hu : X.A.units + 65 < cLine) : OpR X (compareOp .NotEq) (rNeO X C k) := by
  intro pi s σ H x y v u Q I rx ry h
  rcases h with h | ⟨a, Ca, dx, fl, tb, f, fd, ps, F, rfl, ha, hm, G, hb, ty, nf, ⟨hne, hmr⟩, sp⟩
  · exact op_neD (by omega) pi s σ H x y v u Q I rx ry h
  · obtain rfl : v = Value.ref a := rx
    obtain ⟨mA, J, _⟩ := ins_get I.hok ha
    obtain ⟨od, J, _⟩ := J.look
    obtain ⟨Pk, kx, hp, _⟩ := kit_of I ry ty
    show wpAny (model X.prog X.w) X.A (richCompare .NotEq (.ref a) u) (EP X pi σ Q) X.xe s
    refine PySem.NeK.rich_ne (tb := tb) (by omega) I.kIn J (kx.ty _ _ I.kIn hp) nf hmr hne hm.at_ hm.fn ?_
    refine wpAny_mono (run_in1 (us := [.ref a, u]) (vs := [.ref a, y]) G hr hb I (.cons rfl (.cons ry .nil)) sp) (fun v2 s2 z => ?_) fun _ _ z => z
    obtain ⟨vv, H2, I2, rv, b, rfl, q⟩ := z
    obtain rfl : v2 = Value.bool b := rv
    exact ⟨b, rfl, .bl !b, H2, I2, rfl, q⟩
theorem v2_neO (T : EqM X.prog X.w X.K X.mg X.base cc.C k tab ok) (N : NeM X.K cc.C tab) : V2 X.K cc.C (vNeO tab ok) (rNeO X cc.C k) := by
  intro G H x y dx dy d Q s px py e kq
  cases px with
  | @ins a d0 c fl fs hg r =>
    have e : (vEqO tab ok (.ins c fs) dy).bind negD = some d := e
    cases hv : vEqO tab ok (.ins c fs) dy with
    | none => rw [hv] at e; cases e
    | some d1 =>
      rw [hv] at e
      obtain ⟨⟨F0, ht⟩, a', Ca, dx', fl', tb, f, fd, ps, F, e1, e2, c2, c4, c5, ty, nf, sp⟩ := eqI_of T (Q := fun v H' => ∃ b, v = .bl b ∧ Q (.bl !b) H') s hg r py hv (fun v G' H' g p => by
        match d1, e, p with
        | .bl b, e, p =>
          cases p
          cases e
          exact ⟨b, rfl, kq _ G' H' g (.bl !b)⟩)
      cases e1
      have hins : H a = some (.ins (cc.C c) d0 fl) := s _ _ hg
      rw [hins] at e2
      cases e2
      refine .inr ⟨a, _, d0, fl, tb, f, fd, ps, F, rfl, hins, c2, c4, c5, ty, nf, N.at_ c F0 ht, ?_⟩
      obtain ⟨ds, B, G1, h1, h2, h3, h4, h5, h6⟩ := sp
      refine ⟨ds, B, G1, h1, h2, h3, h4, h5, ?_⟩
      revert h6
      cases F ds with
      | ok v ms => exact fun h6 xv G' H' ex k1 k2 os hv => (h6 xv G' H' ex k1 k2 os hv).2
      | exc e ms => exact id
      | bot => exact id
  | non => exact .inl (v2_ne s .non py e kq)
  | bl b => exact .inl (v2_ne s (.bl b) py e kq)
  | int b => exact .inl (v2_ne s (.int b) py e kq)
  | str b h => exact .inl (v2_ne s (.str b h) py e kq)
  | tup h r => exact .inl (v2_ne s (.tup h r) py e kq)
  | lst h r => exact .inl (v2_ne s (.lst h r) py e kq)
  | scr h r => exact .inl (v2_ne s (.scr h r) py e kq)
  | dic h r => exact .inl (v2_ne s (.dic h r) py e kq)
variable {a b : Expr} {da db : ENV → R D} {pos : Pos}
theorem de_neO (T : EqM X.prog X.w X.K X.mg X.base cc.C k tab ok) (N : NeM X.K cc.C tab) (hr : Room (k + 1) X.A) (hu : X.A.units + 65 < cLine) (ha : DE X cc a da) (hb : DE X cc b db) (hm : behindInMarks .NotEq b = false := by rfl) : DE X cc (.Compare a [.NotEq] [b] pos) (dOp (vNeO tab ok) da db) := de_cmp (op_neO hr hu) (v2_neO T N) hm ha hb
theorem dt_neO (T : EqM X.prog X.w X.K X.mg X.base cc.C k tab ok) (N : NeM X.K cc.C tab) (hr : Room (k + 1) X.A) (hu : X.A.units + 65 < cLine) (ha : DE X cc a da) (hb : DE X cc b db) (hm : behindInMarks .NotEq b = false := by rfl) : DT X cc (.Compare a [.NotEq] [b] pos) (dT (dOp (vNeO tab ok) da db)) := dt_cmp (op_neO hr hu) (v2_neO T N) hm ha hb
end
end Rf
set_option Elab.async false
set_option linter.all false
set_option maxRecDepth 100000
set_option maxHeartbeats 1000000
/-! Rf21: enumerate over tuples -/
namespace Rf
open PySem PySem.Spec L2 PyProof.Rows
theorem enum_new1 {v0 : Value} {ob : Obj} {Z : Heap → Prop} (BB : Begins v0 ob Z) :
    Meets (Builtin.«enumerate.__new__» ⟨[.type "enumerate", v0], []⟩) (fun _ R s => Z s.heap ∧ R (.ok (.ret (.ref (s.heap.push ob).objs.size)))
      { s with heap := (s.heap.push ob).push { cls := .type "enumerate", data := .fields #[.none, .bool false, .ref s.heap.objs.size, rawInt 0, .none, .none] } }) :=
  .of_wp fun pg ww AA RR st hst => by
    obtain ⟨hp, gg, dd, tkk, oss⟩ := st; obtain ⟨z1, hst⟩ := hst
    have hsu := sub_enumerate
    have qq : ∀ {A' : Around} {E' Q' : Value → Shared → Prop}, Q' (.ref hp.objs.size) ⟨hp.push ob, gg, dd, tkk, oss⟩ → wpAny (model pg ww) A' (pyIter v0) Q' E' ⟨hp, gg, dd, tkk, oss⟩ :=
      fun q' => BB.iter pg ww _ _ ⟨hp, gg, dd, tkk, oss⟩ _ z1 q'
    wp_walk using qq
    refine wpAny_stack_any fun _ => wpAny_pure ?_
    split
    · rename_i c _ _ _ _ _
      by_cases hc : (c == Value.type "enumerate") = true
      · rw [hc]; wp_walk using qq; exact ⟨_, rfl, hst⟩
      · rw [Bool.eq_false_iff.mpr hc]; wp_walk using qq; exact ⟨_, rfl, hst⟩
    · wp_walk using qq; exact ⟨_, rfl, hst⟩
theorem call_enum1 {pg : Program} {ww : World} {AA : Around} {EE QQ : Value → Shared → Prop} {st : Shared} {v0 : Value} {ob : Obj} {Z : Heap → Prop} (BB : Begins v0 ob Z) (z1 : Z st.heap)
    (hQ : ∀ h', IsEnum h' (st.heap.objs.size + 1) st.heap.objs.size 0 .none → h'.get? st.heap.objs.size = some ob → (∀ b o, st.heap.get? b = some o → h'.get? b = some o) → QQ (.ref (st.heap.objs.size + 1)) { st with heap := h' }) :
    wpAny (model pg ww) AA (call (.type "enumerate") [v0]) QQ EE st := by
  refine callType_new F.called_enumerate (by decide) (F.typeCall_enumerate_1 _) (F.newCall_enumerate_1 _) (fun obj => F.args_object_init_2 obj _) F.entry_enumerate_new (enum_new1 BB) ⟨z1, ?_⟩
  have sz : (st.heap.push ob).objs.size = st.heap.objs.size + 1 := Heap.size_push ..
  show _ ∧ _
  rw [sz]
  have ie : IsEnum ((st.heap.push ob).push { cls := .type "enumerate", data := .fields #[.none, .bool false, .ref st.heap.objs.size, rawInt 0, .none, .none] }) (st.heap.objs.size + 1) st.heap.objs.size 0 .none := by
    have := Heap.get?_push_size (st.heap.push ob) (o := { cls := .type "enumerate", data := .fields #[.none, .bool false, .ref st.heap.objs.size, rawInt 0, .none, .none] }) rfl
    rw [sz] at this; exact this
  exact ⟨⟨_, ie, rfl⟩, hQ _ ie (Heap.get?_push_of_some _ (Heap.get?_push_size _ BB.free)) fun b o x => Heap.get?_push_of_some _ (Heap.get?_push_of_some _ x)⟩
/-- enumerate over the tuple at a -/
def Itet (K : PySem.W.Frag) (a : Addr) : It := ⟨fun i H => ∃ (xs : List V) (x : V), SqT K H a xs ∧ xs[i]? = some x,
  fun i H v H' => ∃ T x, v = .ref T ∧ H T = none ∧ H' = upd H T (.tup [.int (i : Nat), x]) ∧ ∀ xs, SqT K H a xs → xs[i]? = some x, fun i H => ∃ xs : List V, SqT K H a xs ∧ xs.length = i⟩
theorem walk_enumT {K : PySem.W.Frag} {a : Addr} {xs : List V} : Walk (Itet K a) xs.length (fun H => SqT K H a xs) (YPair (fun i => some (.int (i : Nat))) (fun i => xs[i]?)) := by
  refine ⟨fun i _ hi q => ⟨xs, xs[i], q, by simp [hi]⟩, fun _ q => ⟨xs, q, rfl⟩, fun i H v H' _ q y => ?_⟩
  obtain ⟨T, x, h1, h2, h3, h4⟩ := y
  exact ⟨T, .int (i : Nat), x, h1, h2, h3, rfl, h4 xs q⟩
theorem turn_enumT {P : Program} {w : World} {K : PySem.W.Frag} {elts : List Expr} {kk : Nat} {tpos : Pos} (a e it : Addr) :
    Turn P w K (.Tuple elts kk tpos) (Itet K a) [e, it] e (fun i h => (∃ old, IsEnum h e it ((i : Nat) : Int) old) ∧ h.IsTupleIter it a i ∧ e ≠ it) where
  mem := by simp
  obj := fun i h st b hb => by
    obtain ⟨⟨old, he⟩, ⟨o, ho, hc, hd⟩, _⟩ := st
    rcases (show b = e ∨ b = it by simpa using hb) with z | z
    · rw [z]; exact ⟨_, he, fun v q => nomatch q⟩
    · rw [z]; exact ⟨o, ho, fun v q => by rw [hd] at q; cases q⟩
  keep := fun i h h' st k => let ⟨⟨old, he⟩, hi, hne⟩ := st; ⟨⟨old, k e (by simp) _ he⟩, hi.at fun o q => k it (by simp) o q, hne⟩
  item := by
    intro X hP hw hK hc i pins s σ H E I hf st hg
    subst hP hw hK
    obtain ⟨⟨old, he⟩, hit, hne⟩ := st
    obtain ⟨xs, x, hq, hx⟩ := hg
    obtain ⟨its, rv, p, hz⟩ := I.tuple hq
    obtain ⟨u, hu, ru⟩ := rv.get hx
    have p : s.heap.IsTuple a its.toArray := p
    have hel : e < s.heap.objs.size := Heap.lt_size he
    have hil : it < s.heap.objs.size := by obtain ⟨_, q, _⟩ := hit; exact Heap.lt_size q
    have hea : e ≠ a := fun z => by
      subst z
      obtain ⟨o, ho, hc, _⟩ := p
      rw [show s.heap.get? e = _ from he] at ho
      cases ho
      have hc : Value.type "enumerate" = Value.type "tuple" := hc
      exact absurd hc (by decide)
    have hia : a ≠ it := fun z => by
      subst z
      obtain ⟨o, ho, hc, _⟩ := p
      obtain ⟨o2, ho2, hc2, _⟩ := hit
      rw [ho] at ho2
      cases ho2
      rw [hc] at hc2
      exact absurd hc2 (by decide)
    have Dr := Draws.tuple (prog := X.prog) (w := X.w) (A := X.A.in1) (show X.A.in1.handled = none from I.ok.hd hc) it a hia its.toArray
    obtain ⟨hl, hu'⟩ := List.getElem?_eq_some_iff.mp hu
    refine wpAny_pyNext_enum_itemD Dr he ⟨hit, p⟩ (by simpa using hl) hne (by simp [hne, hea]) fun v h' tk hP ho hit' hT hsz hk => ?_
    have hv : v = u := by simpa [hu] using hP.symm
    subst hv
    refine ⟨_, rfl, wpAny_letOwnedTupleGo_enum (s := { s with heap := h', toks := tk + 1 }) ho fun h'' he' sb => ?_⟩
    have hT2 : h''.get? s.heap.objs.size = some { cls := .type "tuple", data := .seq #[.int i tk, v] } := (sb.2 _ (Nat.ne_of_gt hel)).trans hT
    have new : ObjOk X.prog X.w (upd H s.heap.objs.size (.tup [.int (i : Nat), x])) h'' s.heap.objs.size (.tup [.int (i : Nat), x]) :=
      ⟨by show 2 ≤ sizeLine; decide, [.int i tk, v], .cons ⟨_, rfl⟩ (.cons ru .nil), ⟨_, hT2, rfl, _, rfl⟩⟩
    have I1 : Inv X pins σ (upd H s.heap.objs.size (.tup [.int (i : Nat), x])) { s with heap := h'', toks := tk + 1 } :=
      I.turnedNew (ch := [e, it]) (fun b ob hb q => (sb.2 b (fun z => hb (by simp [z]))).trans (hk b ob (fun z => hb (by simp [z])) (fun z => hb (by simp [z])) q)) hf (Nat.le_refl _) new
    refine ⟨.ref s.heap.objs.size, _, I1, rfl, ⟨_, x, rfl, I.hok.fresh (Nat.le_refl _), rfl, fun ys hy => ?_⟩, ⟨⟨v, ?_⟩, hit'.1.at fun o q => (sb.2 it (Ne.symm hne)).trans q, hne⟩, fun b hb => ?_⟩
    · obtain rfl : ys = xs := I.tuple_inj hy hq
      exact hx
    · have e1 : ((i + 1 : Nat) : Int) = (i : Int) + 1 := by omega
      rw [e1]; exact he'
    · have hb' : b < s.heap.objs.size := by
        rcases (show b = e ∨ b = it by simpa using hb) with z | z
        · rw [z]; exact hel
        · rw [z]; exact hil
      rw [upd_ne (Nat.ne_of_lt hb')]
      exact (hf b hb).1
  done := by
    intro X hP hw hK hc i pins s σ H E I hf st hg
    subst hP hw hK
    obtain ⟨⟨old, he⟩, hit, hne⟩ := st
    obtain ⟨xs, hq, hx⟩ := hg
    obtain ⟨its, rv, p, hz⟩ := I.tuple hq
    have p : s.heap.IsTuple a its.toArray := p
    obtain ⟨f0, f1, f2, f3, f4, f5⟩ := hf it (by simp)
    have hl := rv.length
    have hia : a ≠ it := fun z => by
      subst z
      obtain ⟨o, ho, hc, _⟩ := p
      obtain ⟨o2, ho2, hc2, _⟩ := hit
      rw [ho] at ho2
      cases ho2
      rw [hc] at hc2
      exact absurd hc2 (by decide)
    have Dr := Draws.tuple (prog := X.prog) (w := X.w) (A := X.A.in1) (show X.A.in1.handled = none from I.ok.hd hc) it a hia its.toArray
    have hn : its.toArray.size = i := by simp; omega
    exact wpAny_pyNext_enum_endD Dr he ⟨by rw [hn]; exact hit, p⟩ fun h' eb => ⟨rfl, I.turned (t' := s.toks) (fun b o hb q => eb b o hb q) f0 f1 f3 f4 f5⟩
  self := fun A i s Q E st h => let ⟨⟨_, he⟩, _⟩ := st; wpAny_pyIter_enum he h
def iEnumT (K : PySem.W.Frag) (ta : TA) : TI := fun σ H R => ta σ H fun vs H1 => ∃ a, vs = [.ref a] ∧ ((∃ xs, SqL K H1 a xs ∧ R (Ite K a) H1) ∨ ∃ xs, SqT K H1 a xs ∧ R (Itet K a) H1)
theorem pi_enumT {X : Cx} {e : Expr} {ta : TA} {p pos tpos : Pos} {elts : List Expr} {kk : Nat} (hg : Gl X "enumerate") (hm : X.mg "enumerate" = none) (ha : PA X [e] ta) (hs : starEach [e] X.env = [(false, eval e X.env)] := by rfl) :
    PI X (.Tuple elts kk tpos) (.Call (.Name "enumerate" p) [e] [] pos) (iEnumT X.K ta) := by
  refine ⟨fun pins s σ H R I h => ?_⟩
  refine Call_ (ld_blt I hg hm boot_enumerate (PyProof.Rows.callWith_type1 (thn (ha.run pos pins s σ H _ I h) fun us s1 ⟨vs, H1, I1, r1, q1⟩ => ?_) hs rfl))
  obtain ⟨a, ex, q⟩ := q1
  subst ex
  cases r1 with
  | cons r rr =>
    cases rr
    cases r
    rcases q with ⟨xs, hq, q⟩ | ⟨xs, hq, q⟩
    · obtain ⟨its, rv, p', hz⟩ := I1.list hq
      refine call_enum1 (begins_list a its.toArray) p'.isList fun h' he hit hk => wpAny_pyIter_enum he ?_
      have I2 : Inv X pins σ H1 { s1 with heap := h' } := I1.kept (t' := s1.toks) hk
      refine ⟨s1.heap.objs.size + 1, [s1.heap.objs.size + 1, s1.heap.objs.size], _, _, H1, rfl, I2, turn_enum a (s1.heap.objs.size + 1) s1.heap.objs.size, ⟨⟨.none, he⟩, ⟨_, hit, rfl, rfl⟩, Nat.succ_ne_self _⟩, fun b hb => ?_, q⟩
      have hle : s1.heap.objs.size ≤ b := by
        rcases (show b = s1.heap.objs.size + 1 ∨ b = s1.heap.objs.size by simpa using hb) with z | z
        · rw [z]; exact Nat.le_add_right _ _
        · rw [z]; exact Nat.le_refl _
      exact I1.fpOk hle (I1.hok.fresh hle)
    · obtain ⟨its, rv, p', hz⟩ := I1.tuple hq
      refine call_enum1 (begins_tuple a its.toArray) (show s1.heap.IsTuple a its.toArray from p') fun h' he hit hk => wpAny_pyIter_enum he ?_
      have I2 : Inv X pins σ H1 { s1 with heap := h' } := I1.kept (t' := s1.toks) hk
      refine ⟨s1.heap.objs.size + 1, [s1.heap.objs.size + 1, s1.heap.objs.size], _, _, H1, rfl, I2, turn_enumT a (s1.heap.objs.size + 1) s1.heap.objs.size, ⟨⟨.none, he⟩, ⟨_, hit, rfl, rfl⟩, Nat.succ_ne_self _⟩, fun b hb => ?_, q⟩
      have hle : s1.heap.objs.size ≤ b := by
        rcases (show b = s1.heap.objs.size + 1 ∨ b = s1.heap.objs.size by simpa using hb) with z | z
        · rw [z]; exact Nat.le_add_right _ _
        · rw [z]; exact Nat.le_refl _
      exact I1.fpOk hle (I1.hok.fresh hle)
theorem wk_enumT {K : PySem.W.Frag} {C : Nat → Addr} {G : Hp} {a : Addr} {xs : List V} {ds : List D} (h : SqT K G a xs) (r : RpL K C G xs ds) : Wk K C G (Itet K a) (pairs ds) := by
  refine ⟨_, _, by rw [pairs_len, ← r.length]; exact walk_enumT (xs := xs), fun G2 H2 s s2 => same_seqT s2 (same_seqT s h), fun i G2 H2 x H3 hi s s2 y => ?_⟩
  obtain ⟨T, u, v, rfl, nT, rfl, e1, e2⟩ := y
  cases e1
  obtain ⟨d, hd, p⟩ := r.getV e2
  have g := Grow.new (o := .tup [V.int (i : Nat), v]) s2 nT
  refine ⟨.tup [.int (i : Nat), d], _, ?_, g, .tup (.inl (.inl upd_same)) (.cons (.int _) (.cons ((p.mono s).mono g.gg) .nil))⟩
  unfold pairs
  rw [List.getElem?_mapIdx, hd]
  rfl
def enumKT : D → ENV → R (List D) := fun x ρ1 => match x with
  | .lst ds => .ok (pairs ds) ρ1
  | .scr ds => .ok (pairs ds) ρ1
  | .tup ds => .ok (pairs ds) ρ1
  | _ => .bot
def dEnumT (da : ENV → R D) : ENV → R (List D) := fun ρ => (da ρ).bind enumKT
theorem di_enumT {X : Cx} {cc : Cc} {a : Expr} {da : ENV → R D} {pos p tpos : Pos} {elts : List Expr} {kk : Nat} (hg : Gl X "enumerate") (hm : X.mg "enumerate" = none) (ha : DE X cc a da) (hs : starEach [a] X.env = [(false, eval a X.env)] := by rfl)
    (hs2 : starEach [a] X.env = (false, eval a X.env) :: starEach [] X.env := by rfl) : DI X cc (.Tuple elts kk tpos) (.Call (.Name "enumerate" p) [a] [] pos) (dEnumT da) := by
  refine PI.imp (pi_enumT hg hm (pa_cons ha pa_nil hs2) hs) fun σ H Q ⟨B, ρ, G, R0, h⟩ => ⟨B, ρ, G, R0, Post.bind (V2 := fun G' J ds => Wk X.K cc.C G' J ds) h fun d1 ρ1 G1 H1 x e1 R1 p1 h1 => ?_⟩
  cases p1 with
  | lst h r => exact ⟨_, rfl, .inl ⟨_, .inl (.inl (R1.gk _ _ h)), h1 _ G1 H1 (Ext.refl _ _) R1 (wk_enum (.inl (.inl h)) r)⟩⟩
  | scr h r => exact ⟨_, rfl, .inl ⟨_, Same.seq R1.gk h, h1 _ G1 H1 (Ext.refl _ _) R1 (wk_enum h r)⟩⟩
  | tup h r => exact ⟨_, rfl, .inr ⟨_, same_seqT R1.gk h, h1 _ G1 H1 (Ext.refl _ _) R1 (wk_enumT h r)⟩⟩
  | _ => exact h1.elim
end Rf
set_option Elab.async false
set_option linter.all false
set_option maxRecDepth 100000
/-! RfS: rewriting a denotation on given slots, as an interpreter does -/
namespace Rf
open PySem PySem.Spec L2
section
variable {α β : Type}
theorem e_bind (a : α) (ρ : ENV) (f : α → ENV → R β) : (R.ok a ρ).bind f = f a ρ := rfl
theorem e_bindX (e : EX) (ρ : ENV) (f : α → ENV → R β) : (R.exc e ρ).bind f = .exc e ρ := rfl
theorem e_bindB (f : α → ENV → R β) : (R.bot : R α).bind f = .bot := rfl
theorem e_of (a : α) (ρ : ENV) : R.of (some a) ρ = .ok a ρ := rfl
theorem c_bind {r r' : R α} {f : α → ENV → R β} (h : r = r') : r.bind f = r'.bind f := by rw [h]
/-! ### expressions -/
def look (o : Option (Option DV)) (i : Nat) (ρ : ENV) : R D := match o with
  | some (some (.sh d)) => .ok d ρ
  | some (some (.ow m)) => .ok m.toD (ρ.set i (some (.sh m.toD)))
  | _ => .bot
theorem e_var (i : Nat) (ρ : ENV) : dVar i ρ = look ρ[i]? i ρ := rfl
theorem e_lookS (d : D) (i : Nat) (ρ : ENV) : look (some (some (.sh d))) i ρ = .ok d ρ := rfl
theorem e_lookO (m : M) (i : Nat) (ρ : ENV) : look (some (some (.ow m))) i ρ = .ok m.toD (ρ.set i (some (.sh m.toD))) := rfl
theorem e_C (d : D) (ρ : ENV) : dC d ρ = .ok d ρ := rfl
def op2 (f : D → D → Option D) (db : ENV → R D) : D → ENV → R D := fun x ρ1 => (db ρ1).bind fun y ρ2 => R.of (f x y) ρ2
theorem e_op (f : D → D → Option D) (da db : ENV → R D) (ρ : ENV) : dOp f da db ρ = (da ρ).bind (op2 f db) := rfl
def op1 (f : D → Option D) : D → ENV → R D := fun y ρ2 => R.of (f y) ρ2
theorem e_op2 (f : D → D → Option D) (db : ENV → R D) (x : D) (ρ : ENV) : op2 f db x ρ = (db ρ).bind (op1 (f x)) := rfl
theorem e_op1 (f : D → Option D) (y : D) (ρ : ENV) : op1 f y ρ = R.of (f y) ρ := rfl
theorem e_un (f : D → Option D) (da : ENV → R D) (ρ : ENV) : dUn f da ρ = (da ρ).bind (op1 f) := rfl
theorem e_is (f : D → Option Bool) (da : ENV → R D) (ρ : ENV) : dIs f da ρ = (da ρ).bind (op1 fun d => (f d).map D.bl) := rfl
def toB : D → ENV → R Bool
  | .bl b, ρ => .ok b ρ
  | _, _ => .bot
theorem e_T (da : ENV → R D) (ρ : ENV) : dT da ρ = (da ρ).bind toB := by
  unfold dT asT
  cases da ρ with
  | ok d ρ => cases d <;> rfl
  | exc e ρ => rfl
  | bot => rfl
theorem e_toB (b : Bool) (ρ : ENV) : toB (.bl b) ρ = .ok b ρ := rfl
def truB : D → ENV → R Bool := fun d ρ => R.of (tru d) ρ
theorem e_Tru (da : ENV → R D) (ρ : ENV) : dTru da ρ = (da ρ).bind truB := rfl
theorem e_truB (d : D) (ρ : ENV) : truB d ρ = R.of (tru d) ρ := rfl
def andK (db : ENV → R Bool) : Bool → ENV → R Bool := fun x ρ1 => if x = true then db ρ1 else .ok false ρ1
def orK (db : ENV → R Bool) : Bool → ENV → R Bool := fun x ρ1 => if x = true then .ok true ρ1 else db ρ1
theorem e_And (da db : ENV → R Bool) (ρ : ENV) : dAnd da db ρ = (da ρ).bind (andK db) := rfl
theorem e_Or (da db : ENV → R Bool) (ρ : ENV) : dOr da db ρ = (da ρ).bind (orK db) := rfl
theorem e_andT (db : ENV → R Bool) (ρ : ENV) : andK db true ρ = db ρ := rfl
theorem e_andF (db : ENV → R Bool) (ρ : ENV) : andK db false ρ = .ok false ρ := rfl
theorem e_orT (db : ENV → R Bool) (ρ : ENV) : orK db true ρ = .ok true ρ := rfl
theorem e_orF (db : ENV → R Bool) (ρ : ENV) : orK db false ρ = db ρ := rfl
def notK : Bool → ENV → R Bool := fun x ρ1 => .ok (!x) ρ1
theorem e_Not (da : ENV → R Bool) (ρ : ENV) : dNot da ρ = (da ρ).bind notK := rfl
theorem e_notK (x : Bool) (ρ : ENV) : notK x ρ = .ok (!x) ρ := rfl
def andVK (db : ENV → R D) : D → ENV → R D := fun x ρ1 => match tru x with
  | some true => db ρ1
  | some false => .ok x ρ1
  | none => .bot
def orVK (db : ENV → R D) : D → ENV → R D := fun x ρ1 => match tru x with
  | some true => .ok x ρ1
  | some false => db ρ1
  | none => .bot
theorem e_AndV (da db : ENV → R D) (ρ : ENV) : dAndV da db ρ = (da ρ).bind (andVK db) := rfl
theorem e_OrV (da db : ENV → R D) (ρ : ENV) : dOrV da db ρ = (da ρ).bind (orVK db) := rfl
theorem e_andVT (db : ENV → R D) (ρ : ENV) : andVK db (.bl true) ρ = db ρ := rfl
theorem e_andVF (db : ENV → R D) (ρ : ENV) : andVK db (.bl false) ρ = .ok (.bl false) ρ := rfl
theorem e_orVT (db : ENV → R D) (ρ : ENV) : orVK db (.bl true) ρ = .ok (.bl true) ρ := rfl
theorem e_orVF (db : ENV → R D) (ρ : ENV) : orVK db (.bl false) ρ = db ρ := rfl
def notVK : D → ENV → R D := fun x ρ1 => R.of ((tru x).map fun k => .bl (!k)) ρ1
theorem e_NotV (da : ENV → R D) (ρ : ENV) : dNotV da ρ = (da ρ).bind notVK := rfl
theorem e_notVK (x : Bool) (ρ : ENV) : notVK (.bl x) ρ = .ok (.bl (!x)) ρ := rfl
def ifK (da db : ENV → R D) : Bool → ENV → R D := fun x ρ1 => if x = true then da ρ1 else db ρ1
theorem e_If (t : ENV → R Bool) (da db : ENV → R D) (ρ : ENV) : dIf t da db ρ = (t ρ).bind (ifK da db) := rfl
theorem e_ifT (da db : ENV → R D) (ρ : ENV) : ifK da db true ρ = da ρ := rfl
theorem e_ifF (da db : ENV → R D) (ρ : ENV) : ifK da db false ρ = db ρ := rfl
theorem e_Nil (ρ : ENV) : dNil ρ = .ok [] ρ := rfl
def consK (dr : ENV → R (List D)) : D → ENV → R (List D) := fun x ρ1 => (dr ρ1).bind fun xs ρ2 => .ok (x :: xs) ρ2
def consK2 (x : D) : List D → ENV → R (List D) := fun xs ρ2 => .ok (x :: xs) ρ2
theorem e_Cons (da : ENV → R D) (dr : ENV → R (List D)) (ρ : ENV) : dCons da dr ρ = (da ρ).bind (consK dr) := rfl
theorem e_consK (dr : ENV → R (List D)) (x : D) (ρ : ENV) : consK dr x ρ = (dr ρ).bind (consK2 x) := rfl
theorem e_consK2 (x : D) (xs : List D) (ρ : ENV) : consK2 x xs ρ = .ok (x :: xs) ρ := rfl
def tupK : List D → ENV → R D := fun xs ρ1 => if xs.length ≤ sizeLine then .ok (.tup xs) ρ1 else .bot
def lstK : List D → ENV → R D := fun xs ρ1 => if xs.length ≤ sizeLine then .ok (.lst xs) ρ1 else .bot
def lstF : List D → ENV → R M := fun xs ρ1 => if xs.length ≤ sizeLine then .ok (.lst xs) ρ1 else .bot
theorem e_Tup (dr : ENV → R (List D)) (ρ : ENV) : dTup dr ρ = (dr ρ).bind tupK := rfl
theorem e_Lst (dr : ENV → R (List D)) (ρ : ENV) : dLst dr ρ = (dr ρ).bind lstK := rfl
theorem e_LstF (dr : ENV → R (List D)) (ρ : ENV) : fLst dr ρ = (dr ρ).bind lstF := rfl
theorem e_tupK (xs : List D) (ρ : ENV) (h : xs.length ≤ sizeLine) : tupK xs ρ = .ok (.tup xs) ρ := by unfold tupK; rw [if_pos h]
theorem e_lstK (xs : List D) (ρ : ENV) (h : xs.length ≤ sizeLine) : lstK xs ρ = .ok (.lst xs) ρ := by unfold lstK; rw [if_pos h]
theorem e_lstF (xs : List D) (ρ : ENV) (h : xs.length ≤ sizeLine) : lstF xs ρ = .ok (.lst xs) ρ := by unfold lstF; rw [if_pos h]
/-- short written displays -/
theorem e_tup0 (ρ : ENV) : tupK [] ρ = .ok (.tup []) ρ := rfl
theorem e_lst0 (ρ : ENV) : lstK [] ρ = .ok (.lst []) ρ := rfl
theorem e_lstF0 (ρ : ENV) : lstF [] ρ = .ok (.lst []) ρ := rfl
def bK (f : List D → Option D) : List D → ENV → R D := fun xs ρ1 => R.of (f xs) ρ1
theorem e_B (f : List D → Option D) (dr : ENV → R (List D)) (ρ : ENV) : dB f dr ρ = (dr ρ).bind (bK f) := rfl
theorem e_bK (f : List D → Option D) (xs : List D) (ρ : ENV) : bK f xs ρ = R.of (f xs) ρ := rfl
/-- owned lists -/
def ixO (i : Nat) : D → ENV → R D := fun k ρ1 => match k, ρ1[i]? with
  | .int k, some (some (.ow (.lst ds))) => R.of (atI ds k) ρ1
  | _, _ => .bot
theorem e_ixO (i : Nat) (dk : ENV → R D) (ρ : ENV) (ds : List D) (h : ρ[i]? = some (some (.ow (.lst ds)))) : dIxO i dk ρ = (dk ρ).bind (ixO i) := by
  unfold dIxO; rw [h]; rfl
theorem e_ixO2 (i : Nat) (k : Int) (ρ : ENV) (ds : List D) (h : ρ[i]? = some (some (.ow (.lst ds)))) : ixO i (.int k) ρ = R.of (atI ds k) ρ := by
  unfold ixO; rw [h]
theorem e_lenO (i : Nat) (ρ : ENV) (ds : List D) (h : ρ[i]? = some (some (.ow (.lst ds)))) : dLenO i ρ = .ok (.int ds.length) ρ := by unfold dLenO; rw [h]
theorem at0 {α : Type} (x : α) (xs : List α) : L2.atI (x :: xs) 0 = some x := by
  unfold L2.atI ixN
  rw [if_pos (Int.le_refl 0), if_pos (by simp only [List.length_cons]; omega)]; rfl
theorem at1 {α : Type} (x y : α) (xs : List α) : L2.atI (x :: y :: xs) 1 = some y := by
  unfold L2.atI ixN
  rw [if_pos (by decide), if_pos (by simp only [List.length_cons]; omega)]; rfl
theorem at2 {α : Type} (x y z : α) (xs : List α) : L2.atI (x :: y :: z :: xs) 2 = some z := by
  unfold L2.atI ixN
  rw [if_pos (by decide), if_pos (by simp only [List.length_cons]; omega)]; rfl
theorem at3 {α : Type} (x y z u : α) (xs : List α) : L2.atI (x :: y :: z :: u :: xs) 3 = some u := by
  unfold L2.atI ixN
  rw [if_pos (by decide), if_pos (by simp only [List.length_cons]; omega)]; rfl
theorem atN {α : Type} {xs : List α} {i : Int} {x : α} (h0 : 0 ≤ i) (h : xs[i.toNat]? = some x) : L2.atI xs i = some x := by
  obtain ⟨hl, _⟩ := List.getElem?_eq_some_iff.mp h
  unfold L2.atI ixN
  rw [if_pos h0, if_pos (by omega)]
  exact h
theorem e_vEq (neg : Bool) (i j : Int) : vEq neg (.int i) (.int j) = some (.bl (if neg then !(i == j) else (i == j))) := by cases neg <;> rfl
theorem e_eqI (i j : Int) : CK.f .eq (.int i) (.int j) = some (.bl (i == j)) := rfl
theorem e_neI (i j : Int) : CK.f .ne (.int i) (.int j) = some (.bl (!(i == j))) := rfl
theorem e_ltI (i j : Int) : CK.f .lt (.int i) (.int j) = some (.bl (decide (i < j))) := rfl
theorem e_leI (i j : Int) : CK.f .le (.int i) (.int j) = some (.bl (decide (i ≤ j))) := rfl
theorem e_gtI (i j : Int) : CK.f .gt (.int i) (.int j) = some (.bl (decide (j < i))) := rfl
theorem e_geI (i j : Int) : CK.f .ge (.int i) (.int j) = some (.bl (decide (j ≤ i))) := rfl
theorem e_add (i j : Int) : vAdd (.int i) (.int j) = some (.int (i + j)) := rfl
theorem e_vI (f : Int → Int → Int) (i j : Int) : vI f (.int i) (.int j) = some (.int (f i j)) := rfl
theorem e_vIc (c : Int → Int → Bool) (f : Int → Int → Int) (i j : Int) (h : c i j = true) : vIc c f (.int i) (.int j) = some (.int (f i j)) := by
  show (if c i j = true then some (D.int (f i j)) else none) = _
  rw [if_pos h]
theorem e_neg (i : Int) : vNeg (.int i) = some (.int (-i)) := rfl
theorem e_fInt (i : Int) : fInt [.int i] = some (.int i) := rfl
theorem e_fIntB (b : Bool) : fInt [.bl b] = some (.int (if b then 1 else 0)) := rfl
theorem e_lenL (ds : List D) : fLen [.lst ds] = some (.int ds.length) := rfl
theorem e_lenT (ds : List D) : fLen [.tup ds] = some (.int ds.length) := rfl
theorem e_lenR (ds : List D) : fLen [.scr ds] = some (.int ds.length) := rfl
theorem e_lenS (z : Str) : fLen [.str z] = some (.int z.length) := rfl
theorem e_ixL (ds : List D) (i : Int) : vIxI (.lst ds) (.int i) = atI ds i := rfl
theorem e_ixT (ds : List D) (i : Int) : vIxI (.tup ds) (.int i) = atI ds i := rfl
theorem e_tupL (ds : List D) : fTuple [.lst ds] = some (.tup ds) := rfl
theorem e_tupT (ds : List D) : fTuple [.tup ds] = some (.tup ds) := rfl
theorem e_lstT (ds : List D) : fList [.tup ds] = some (.lst ds) := rfl
/-! ### statements -/
def sqK (b : ENV → R Fl) : Fl → ENV → R Fl
  | .nx, ρ => b ρ
  | f, ρ => .ok f ρ
theorem e_Seq (a b : ENV → R Fl) (ρ : ENV) : sSeq a b ρ = (a ρ).bind (sqK b) := by
  unfold sSeq
  cases a ρ with
  | ok f ρ => cases f <;> rfl
  | exc e ρ => rfl
  | bot => rfl
theorem e_sqN (b : ENV → R Fl) (ρ : ENV) : sqK b .nx ρ = b ρ := rfl
theorem e_sqR (b : ENV → R Fl) (v : DV) (ρ : ENV) : sqK b (.ret v) ρ = .ok (.ret v) ρ := rfl
theorem e_sqB (b : ENV → R Fl) (ρ : ENV) : sqK b .bk ρ = .ok .bk ρ := rfl
theorem e_sqC (b : ENV → R Fl) (ρ : ENV) : sqK b .ct ρ = .ok .ct ρ := rfl
theorem e_sNil (ρ : ENV) : sNil ρ = .ok .nx ρ := rfl
def sifK (a b : ENV → R Fl) : Bool → ENV → R Fl := fun x ρ1 => if x = true then a ρ1 else b ρ1
theorem e_sIf (c : ENV → R Bool) (a b : ENV → R Fl) (ρ : ENV) : sIf c a b ρ = (c ρ).bind (sifK a b) := rfl
theorem e_sifT (a b : ENV → R Fl) (ρ : ENV) : sifK a b true ρ = a ρ := rfl
theorem e_sifF (a b : ENV → R Fl) (ρ : ENV) : sifK a b false ρ = b ρ := rfl
def retK : D → ENV → R Fl := fun d ρ1 => .ok (.ret (.sh d)) ρ1
def retFK : M → ENV → R Fl := fun d ρ1 => .ok (.ret (.ow d)) ρ1
theorem e_Ret (da : ENV → R D) (ρ : ENV) : sRet da ρ = (da ρ).bind retK := rfl
theorem e_retK (d : D) (ρ : ENV) : retK d ρ = .ok (.ret (.sh d)) ρ := rfl
theorem e_RetF (da : ENV → R M) (ρ : ENV) : sRetF da ρ = (da ρ).bind retFK := rfl
theorem e_retFK (d : M) (ρ : ENV) : retFK d ρ = .ok (.ret (.ow d)) ρ := rfl
def exprK : D → ENV → R Fl := fun _ ρ1 => .ok .nx ρ1
theorem e_Expr (da : ENV → R D) (ρ : ENV) : sExpr da ρ = (da ρ).bind exprK := rfl
theorem e_exprK (d : D) (ρ : ENV) : exprK d ρ = .ok .nx ρ := rfl
def stK (o : Option ENV) : R Fl := match o with
  | some ρ => .ok .nx ρ
  | none => .bot
def asgK (g : D → ENV → Option ENV) : D → ENV → R Fl := fun d ρ1 => stK (g d ρ1)
theorem e_Asg (da : ENV → R D) (g : D → ENV → Option ENV) (ρ : ENV) : sAsg da g ρ = (da ρ).bind (asgK g) := by
  unfold sAsg
  cases da ρ with
  | ok d ρ => show (match g d ρ with | some ρ2 => R.ok Fl.nx ρ2 | none => .bot) = stK (g d ρ); unfold stK; cases g d ρ <;> rfl
  | exc e ρ => rfl
  | bot => rfl
theorem e_asgK (g : D → ENV → Option ENV) (d : D) (ρ : ENV) : asgK g d ρ = stK (g d ρ) := rfl
theorem e_stK (ρ : ENV) : stK (some ρ) = .ok .nx ρ := rfl
theorem e_gSet (i : Nat) (d : D) (ρ : ENV) (h : i < ρ.length) : gSet i d ρ = some (ρ.set i (some (.sh d))) := by unfold gSet; rw [if_pos h]
def ownK (i : Nat) : M → ENV → R Fl := fun m ρ1 => if i < ρ1.length then .ok .nx (ρ1.set i (some (.ow m))) else .bot
theorem e_Own (fa : ENV → R M) (i : Nat) (ρ : ENV) : sOwn fa i ρ = (fa ρ).bind (ownK i) := rfl
theorem e_ownK (i : Nat) (m : M) (ρ : ENV) (h : i < ρ.length) : ownK i m ρ = .ok .nx (ρ.set i (some (.ow m))) := by unfold ownK; rw [if_pos h]
/-- xs[k] = e -/
def subK (i : Nat) (di : ENV → R D) : D → ENV → R Fl := fun d ρ1 => match ρ1[i]? with
  | some (some (.ow (.lst _))) => (di ρ1).bind fun k ρ2 => match k, ρ2[i]? with
    | .int k, some (some (.ow (.lst ds))) => match ixN ds.length k with
      | some j => .ok .nx (ρ2.set i (some (.ow (.lst (ds.set j d)))))
      | none => .bot
    | _, _ => .bot
  | _ => .bot
theorem e_Sub (i : Nat) (da di : ENV → R D) (ρ : ENV) : sSub i da di ρ = (da ρ).bind (subK i di) := rfl
/-- .. at a written place -/
theorem e_subK (i : Nat) (k : Int) (d : D) (ρ : ENV) (ds : List D) (h : ρ[i]? = some (some (.ow (.lst ds)))) (hk : 0 ≤ k) (hl : k < ds.length) : subK i (dC (.int k)) d ρ = .ok .nx (ρ.set i (some (.ow (.lst (ds.set k.toNat d))))) := by
  unfold subK
  rw [h]
  dsimp only [dC, R.bind]
  rw [h]
  dsimp only [ixN]
  rw [if_pos hk, if_pos hl]
def appK (i : Nat) : D → ENV → R Fl := fun d ρ1 => match ρ1[i]? with
  | some (some (.ow (.lst ds))) => if ds.length < sizeLine then .ok .nx (ρ1.set i (some (.ow (.lst (ds ++ [d]))))) else .bot
  | _ => .bot
theorem e_App (i : Nat) (da : ENV → R D) (ρ : ENV) (ds : List D) (h : ρ[i]? = some (some (.ow (.lst ds)))) : sApp i da ρ = (da ρ).bind (appK i) := by
  unfold sApp; rw [h]; rfl
theorem e_appK (i : Nat) (d : D) (ρ : ENV) (ds : List D) (h : ρ[i]? = some (some (.ow (.lst ds)))) (hl : ds.length < sizeLine) : appK i d ρ = .ok .nx (ρ.set i (some (.ow (.lst (ds ++ [d]))))) := by
  unfold appK; rw [h]; dsimp only; rw [if_pos hl]
def forK (g : D → ENV → Option ENV) (body : ENV → R Fl) : List D → ENV → R Fl := fun ds ρ1 => forL g body ds ρ1
theorem e_For (di : ENV → R (List D)) (g : D → ENV → Option ENV) (body : ENV → R Fl) (ρ : ENV) : sFor di g body ρ = (di ρ).bind (forK g body) := rfl
def itK : D → ENV → R (List D) := fun x ρ1 => R.of (items x) ρ1
theorem e_Items (da : ENV → R D) (ρ : ENV) : dItems da ρ = (da ρ).bind itK := rfl
theorem e_itL (ds : List D) (ρ : ENV) : itK (.lst ds) ρ = .ok ds ρ := rfl
theorem e_itT (ds : List D) (ρ : ENV) : itK (.tup ds) ρ = .ok ds ρ := rfl
theorem e_itR (ds : List D) (ρ : ENV) : itK (.scr ds) ρ = .ok ds ρ := rfl
/-! ### calls -/
theorem e_Call (F : List DV → FO) (dr : ENV → R (List Ag)) (ρ : ENV) : dCall F dr ρ = ((dr ρ).bind (stepR F)).bind onSh := rfl
theorem e_CallF (F : List DV → FO) (dr : ENV → R (List Ag)) (ρ : ENV) : fCall F dr ρ = ((dr ρ).bind (stepR F)).bind onOw := rfl
theorem e_aNil (ρ : ENV) : aNil ρ = .ok [] ρ := rfl
def aVK (dr : ENV → R (List Ag)) : D → ENV → R (List Ag) := fun x ρ1 => (dr ρ1).bind fun xs ρ2 => .ok (.inl x :: xs) ρ2
def aVK2 (x : Ag) : List Ag → ENV → R (List Ag) := fun xs ρ2 => .ok (x :: xs) ρ2
theorem e_aVal (da : ENV → R D) (dr : ENV → R (List Ag)) (ρ : ENV) : aVal da dr ρ = (da ρ).bind (aVK dr) := rfl
theorem e_aVK (dr : ENV → R (List Ag)) (x : D) (ρ : ENV) : aVK dr x ρ = (dr ρ).bind (aVK2 (.inl x)) := rfl
theorem e_aVK2 (x : Ag) (xs : List Ag) (ρ : ENV) : aVK2 x xs ρ = .ok (x :: xs) ρ := rfl
theorem e_aIo (i : Nat) (dr : ENV → R (List Ag)) (ρ : ENV) (m : M) (h : ρ[i]? = some (some (.ow m))) : aIo i dr ρ = (dr ρ).bind (aVK2 (.inr i)) := by unfold aIo; rw [h]; rfl
def outK (as : List Ag) (ρ : ENV) : FO → R DV
  | .ok v ms => match putB as ms ρ with | some ρ2 => .ok v ρ2 | none => .bot
  | .exc e ms => match putB as ms ρ with | some ρ2 => .exc e ρ2 | none => .bot
  | .bot => .bot
/-- values alone -/
def vals : List Ag → Option (List DV)
  | [] => some []
  | .inl d :: r => (vals r).map (.sh d :: ·)
  | .inr _ :: _ => none
theorem step0 (F : List DV → FO) (ρ : ENV) : stepR F [] ρ = outK [] ρ (F []) := by show (match F [] with | .ok v ms => _ | .exc e ms => _ | .bot => _) = _; cases F [] <;> rfl
theorem step1 (F : List DV → FO) (a : D) (ρ : ENV) : stepR F [.inl a] ρ = outK [.inl a] ρ (F [.sh a]) := by show (match F [.sh a] with | .ok v ms => _ | .exc e ms => _ | .bot => _) = _; cases F [.sh a] <;> rfl
theorem step2 (F : List DV → FO) (a b : D) (ρ : ENV) : stepR F [.inl a, .inl b] ρ = outK [.inl a, .inl b] ρ (F [.sh a, .sh b]) := by show (match F [.sh a, .sh b] with | .ok v ms => _ | .exc e ms => _ | .bot => _) = _; cases F [.sh a, .sh b] <;> rfl
theorem step3 (F : List DV → FO) (a b c : D) (ρ : ENV) : stepR F [.inl a, .inl b, .inl c] ρ = outK [.inl a, .inl b, .inl c] ρ (F [.sh a, .sh b, .sh c]) := by show (match F [.sh a, .sh b, .sh c] with | .ok v ms => _ | .exc e ms => _ | .bot => _) = _; cases F [.sh a, .sh b, .sh c] <;> rfl
theorem stepO1 (F : List DV → FO) (i : Nat) (ρ : ENV) (m : M) (h : ρ[i]? = some (some (.ow m))) : stepR F [.inr i] ρ = outK [.inr i] ρ (F [.ow m]) := by
  unfold stepR
  have e : (if nodupB (slots [Sum.inr i]) = true then reso ρ [Sum.inr i] else none) = some [.ow m] := by
    have : nodupB (slots [(Sum.inr i : Ag)]) = true := by simp [slots, nodupB]
    rw [if_pos this]; unfold reso; rw [h]; rfl
  rw [e]
  show (match F [.ow m] with | .ok v ms => (match putB [.inr i] ms ρ with | some ρ2 => R.ok v ρ2 | none => .bot) | .exc e ms => (match putB [.inr i] ms ρ with | some ρ2 => .exc e ρ2 | none => .bot) | .bot => .bot) = outK [.inr i] ρ (F [.ow m])
  cases F [.ow m] <;> rfl
theorem stepO2 (F : List DV → FO) (i : Nat) (a : D) (ρ : ENV) (m : M) (h : ρ[i]? = some (some (.ow m))) : stepR F [.inr i, .inl a] ρ = outK [.inr i, .inl a] ρ (F [.ow m, .sh a]) := by
  unfold stepR
  have e : (if nodupB (slots [Sum.inr i, Sum.inl a]) = true then reso ρ [Sum.inr i, Sum.inl a] else none) = some [.ow m, .sh a] := by
    have : nodupB (slots [(Sum.inr i : Ag), Sum.inl a]) = true := by simp [slots, nodupB]
    rw [if_pos this]; unfold reso; rw [h]; rfl
  rw [e]
  show (match F [.ow m, .sh a] with | .ok v ms => (match putB [.inr i, .inl a] ms ρ with | some ρ2 => R.ok v ρ2 | none => .bot) | .exc e ms => (match putB [.inr i, .inl a] ms ρ with | some ρ2 => .exc e ρ2 | none => .bot) | .bot => .bot) = outK [.inr i, .inl a] ρ (F [.ow m, .sh a])
  cases F [.ow m, .sh a] <;> rfl
theorem stepO3 (F : List DV → FO) (i : Nat) (a b : D) (ρ : ENV) (m : M) (h : ρ[i]? = some (some (.ow m))) : stepR F [.inr i, .inl a, .inl b] ρ = outK [.inr i, .inl a, .inl b] ρ (F [.ow m, .sh a, .sh b]) := by
  unfold stepR
  have e : (if nodupB (slots [Sum.inr i, Sum.inl a, Sum.inl b]) = true then reso ρ [Sum.inr i, Sum.inl a, Sum.inl b] else none) = some [.ow m, .sh a, .sh b] := by
    have : nodupB (slots [(Sum.inr i : Ag), Sum.inl a, Sum.inl b]) = true := by simp [slots, nodupB]
    rw [if_pos this]; unfold reso; rw [h]; rfl
  rw [e]
  show (match F [.ow m, .sh a, .sh b] with | .ok v ms => (match putB [.inr i, .inl a, .inl b] ms ρ with | some ρ2 => R.ok v ρ2 | none => .bot) | .exc e ms => (match putB [.inr i, .inl a, .inl b] ms ρ with | some ρ2 => .exc e ρ2 | none => .bot) | .bot => .bot) = outK [.inr i, .inl a, .inl b] ρ (F [.ow m, .sh a, .sh b])
  cases F [.ow m, .sh a, .sh b] <;> rfl
/-- out of a call without owned arguments -/
theorem out1 (a : D) (ρ : ENV) (v : DV) : outK [.inl a] ρ (.ok v []) = .ok v ρ := rfl
theorem out0 (ρ : ENV) (v : DV) : outK [] ρ (.ok v []) = .ok v ρ := rfl
theorem out2 (a b : D) (ρ : ENV) (v : DV) : outK [.inl a, .inl b] ρ (.ok v []) = .ok v ρ := rfl
theorem out3 (a b c : D) (ρ : ENV) (v : DV) : outK [.inl a, .inl b, .inl c] ρ (.ok v []) = .ok v ρ := rfl
theorem outX1 (a : D) (ρ : ENV) (v : EX) : outK [.inl a] ρ (.exc v []) = .exc v ρ := rfl
theorem outX2 (a b : D) (ρ : ENV) (v : EX) : outK [.inl a, .inl b] ρ (.exc v []) = .exc v ρ := rfl
theorem outO1 (i : Nat) (ρ : ENV) (v : DV) (m : M) : outK [.inr i] ρ (.ok v [m]) = .ok v (ρ.set i (some (.ow m))) := rfl
theorem outO2 (i : Nat) (a : D) (ρ : ENV) (v : DV) (m : M) : outK [.inr i, .inl a] ρ (.ok v [m]) = .ok v (ρ.set i (some (.ow m))) := rfl
theorem outO3 (i : Nat) (a b : D) (ρ : ENV) (v : DV) (m : M) : outK [.inr i, .inl a, .inl b] ρ (.ok v [m]) = .ok v (ρ.set i (some (.ow m))) := rfl
theorem e_onSh (d : D) (ρ : ENV) : onSh (.sh d) ρ = .ok d ρ := rfl
theorem e_onOw (d : M) (ρ : ENV) : onOw (.ow d) ρ = .ok d ρ := rfl
/-! ### defs -/
def finF (ds : List DV) : R Fl → FO
  | .ok (.ret v) ρ => match outsE 0 ds ρ with | some ms => .ok v ms | none => .bot
  | .ok .nx ρ => match outsE 0 ds ρ with | some ms => .ok (.sh .non) ms | none => .bot
  | .exc e ρ => match outsE 0 ds ρ with | some ms => .exc e ms | none => .bot
  | _ => .bot
theorem e_run (pr : List Nat) (n : Nat) (den : ENV → R Fl) (ds : List DV) (h : owPos 0 ds = pr) : runF pr n den ds = finF ds (den (startE n ds)) := by
  unfold runF
  rw [if_pos h]
  cases den (startE n ds) with
  | ok f ρ => cases f <;> rfl
  | exc e ρ => rfl
  | bot => rfl
end
end Rf
set_option Elab.async false
set_option linter.all false
set_option maxRecDepth 100000
/-! RfT: more rules: comprehensions, data compared, loops -/
namespace Rf
open PySem PySem.Spec L2
/-! ### comprehensions whose parts leave the slots alone -/
theorem e_frzL (di : ENV → R (List D)) (g : D → ENV → Option ENV) (tt : ENV → R Bool) (te : ENV → R D) (vs : List Nat) (ρ : ENV) (ds : List D) (ρ' : ENV) (h : fLc di g tt te vs ρ = .ok (.lst ds) ρ') : frz (fLc di g tt te vs ρ) = .ok (.lst ds) ρ' := by
  rw [h]; rfl
theorem set2 (ρ : ENV) (i : Nat) (x y : Option DV) : (ρ.set i x).set i y = ρ.set i y := List.set_set ..
theorem set_back (ρ : ENV) (i : Nat) (x : Option DV) (h : ρ[i]? = some none) : back ρ [i] (ρ.set i x) = ρ := by
  unfold back
  rw [h]
  dsimp only [back]
  rw [set2]
  refine List.ext_getElem? fun j => ?_
  by_cases e : i = j
  · subst e
    rw [List.getElem?_set_self (List.getElem?_eq_some_iff.mp h).1, h]
  · rw [List.getElem?_set_ne e]
theorem noOwn1 (ρ : ENV) (i : Nat) (h : ρ[i]? = some none) : noOwn ρ [i] = true := by
  unfold noOwn
  simp only [List.all_cons, List.all_nil, h, Bool.and_true]
theorem comp_map {ρ : ENV} {i : Nat} {te : ENV → R D} {f : D → D} (hi : i < ρ.length) : ∀ (ds acc : List D) (x : Option DV), (∀ d ∈ ds, te (ρ.set i (some (.sh d))) = .ok (f d) (ρ.set i (some (.sh d)))) → acc.length + ds.length ≤ sizeLine →
    ∃ y, compL (gSet i) dYes te [i] ds acc (ρ.set i x) = .ok (acc ++ ds.map f) (ρ.set i y)
  | [], acc, x, _, _ => ⟨x, by unfold compL; simp⟩
  | d :: ds, acc, x, h, hz => by
    obtain ⟨y, hy⟩ := comp_map hi ds (acc ++ [f d]) (some (.sh d)) (fun e he => h e (List.mem_cons_of_mem _ he)) (by simp only [List.length_append, List.length_cons, List.length_nil] at hz ⊢; omega)
    refine ⟨y, ?_⟩
    unfold compL
    have e1 : wipeE (ρ.set i x) [i] = ρ.set i none := by unfold wipeE; exact set2 ..
    have e2 : gSet i d (ρ.set i none) = some (ρ.set i (some (.sh d))) := by unfold gSet; rw [if_pos (by rw [List.length_set]; exact hi), set2]
    have e3 : acc.length < sizeLine := by simp only [List.length_cons] at hz; omega
    rw [e1, e2]
    simp only [dYes, h d List.mem_cons_self, if_pos e3, hy]
    simp
/-- [te for x in ds] -/
theorem lc_map {ρ : ENV} {i : Nat} {te : ENV → R D} {di : ENV → R (List D)} {ds : List D} (f : D → D) (hd : di ρ = .ok ds ρ) (hi : ρ[i]? = some none) (h : ∀ d ∈ ds, te (ρ.set i (some (.sh d))) = .ok (f d) (ρ.set i (some (.sh d)))) (hz : ds.length ≤ sizeLine) :
    fLc di (gSet i) dYes te [i] ρ = .ok (.lst (ds.map f)) ρ := by
  have e0 : ρ = ρ.set i none := by
    refine List.ext_getElem? fun j => ?_
    by_cases e : i = j
    · subst e; rw [List.getElem?_set_self (List.getElem?_eq_some_iff.mp hi).1, hi]
    · rw [List.getElem?_set_ne e]
  obtain ⟨y, hy⟩ := comp_map (List.getElem?_eq_some_iff.mp hi).1 ds [] none h (by simpa using hz)
  unfold fLc
  rw [hd]
  dsimp only [R.bind]
  rw [noOwn1 ρ i hi]
  rw [← e0] at hy
  rw [hy]
  dsimp only
  rw [set_back ρ i y hi]
  simp
theorem comp_filt {ρ : ENV} {i : Nat} {tt : ENV → R Bool} {te : ENV → R D} {p : D → Bool} {f : D → D} (hi : i < ρ.length) : ∀ (ds acc : List D) (x : Option DV), (∀ d ∈ ds, tt (ρ.set i (some (.sh d))) = .ok (p d) (ρ.set i (some (.sh d)))) → (∀ d ∈ ds, p d = true → te (ρ.set i (some (.sh d))) = .ok (f d) (ρ.set i (some (.sh d)))) → acc.length + ds.length ≤ sizeLine →
    ∃ y, compL (gSet i) tt te [i] ds acc (ρ.set i x) = .ok (acc ++ (ds.filter p).map f) (ρ.set i y)
  | [], acc, x, _, _, _ => ⟨x, by unfold compL; simp⟩
  | d :: ds, acc, x, h, h2, hz => by
    have e1 : wipeE (ρ.set i x) [i] = ρ.set i none := by unfold wipeE; exact set2 ..
    have e2 : gSet i d (ρ.set i none) = some (ρ.set i (some (.sh d))) := by unfold gSet; rw [if_pos (by rw [List.length_set]; exact hi), set2]
    have e3 : acc.length < sizeLine := by simp only [List.length_cons] at hz; omega
    cases hp : p d with
    | true =>
      obtain ⟨y, hy⟩ := comp_filt hi ds (acc ++ [f d]) (some (.sh d)) (fun e he => h e (List.mem_cons_of_mem _ he)) (fun e he => h2 e (List.mem_cons_of_mem _ he)) (by simp only [List.length_append, List.length_cons, List.length_nil] at hz ⊢; omega)
      refine ⟨y, ?_⟩
      unfold compL
      rw [e1, e2]
      simp only [h d List.mem_cons_self, hp, h2 d List.mem_cons_self hp, if_pos e3, hy]
      simp [hp]
    | false =>
      obtain ⟨y, hy⟩ := comp_filt hi ds acc (some (.sh d)) (fun e he => h e (List.mem_cons_of_mem _ he)) (fun e he => h2 e (List.mem_cons_of_mem _ he)) (by simp only [List.length_cons] at hz ⊢; omega)
      refine ⟨y, ?_⟩
      unfold compL
      rw [e1, e2]
      simp only [h d List.mem_cons_self, hp, hy]
      simp [hp]
/-- [te for x in ds if tt] -/
theorem lc_filt {ρ : ENV} {i : Nat} {tt : ENV → R Bool} {te : ENV → R D} {di : ENV → R (List D)} {ds : List D} (p : D → Bool) (f : D → D) (hd : di ρ = .ok ds ρ) (hi : ρ[i]? = some none) (h : ∀ d ∈ ds, tt (ρ.set i (some (.sh d))) = .ok (p d) (ρ.set i (some (.sh d))))
    (h2 : ∀ d ∈ ds, p d = true → te (ρ.set i (some (.sh d))) = .ok (f d) (ρ.set i (some (.sh d)))) (hz : ds.length ≤ sizeLine) :
    fLc di (gSet i) tt te [i] ρ = .ok (.lst ((ds.filter p).map f)) ρ := by
  have e0 : ρ = ρ.set i none := by
    refine List.ext_getElem? fun j => ?_
    by_cases e : i = j
    · subst e; rw [List.getElem?_set_self (List.getElem?_eq_some_iff.mp hi).1, hi]
    · rw [List.getElem?_set_ne e]
  obtain ⟨y, hy⟩ := comp_filt (List.getElem?_eq_some_iff.mp hi).1 ds [] none h h2 (by simpa using hz)
  unfold fLc
  rw [hd]
  dsimp only [R.bind]
  rw [noOwn1 ρ i hi]
  rw [← e0] at hy
  rw [hy]
  dsimp only
  rw [set_back ρ i y hi]
  simp
/-- .. over ints -/
theorem lc_mapI {ρ : ENV} {i : Nat} {te : ENV → R D} {di : ENV → R (List D)} {ns : List Int} (f : Int → Int) (hd : di ρ = .ok (ns.map D.int) ρ) (hi : ρ[i]? = some none) (h : ∀ n ∈ ns, te (ρ.set i (some (.sh (.int n)))) = .ok (.int (f n)) (ρ.set i (some (.sh (.int n))))) (hz : ns.length ≤ sizeLine) :
    fLc di (gSet i) dYes te [i] ρ = .ok (.lst ((ns.map f).map D.int)) ρ := by
  have := lc_map (te := te) (fun d => match d with | .int n => .int (f n) | d => d) hd hi (fun d hd => by
    obtain ⟨n, hn, rfl⟩ := List.mem_map.mp hd
    exact h n hn) (by rw [List.length_map]; exact hz)
  rw [this, List.map_map, List.map_map]
  rfl
theorem filt_ints (p : D → Bool) : ∀ ns : List Int, (ns.map D.int).filter p = (ns.filter fun n => p (.int n)).map D.int
  | [] => rfl
  | n :: ns => by
    rw [List.map_cons, List.filter_cons, List.filter_cons, filt_ints p ns]
    cases p (.int n) <;> rfl
theorem lc_filtI {ρ : ENV} {i : Nat} {tt : ENV → R Bool} {te : ENV → R D} {di : ENV → R (List D)} {ns : List Int} (p : Int → Bool) (f : Int → Int) (hd : di ρ = .ok (ns.map D.int) ρ) (hi : ρ[i]? = some none) (h : ∀ n ∈ ns, tt (ρ.set i (some (.sh (.int n)))) = .ok (p n) (ρ.set i (some (.sh (.int n)))))
    (h2 : ∀ n ∈ ns, p n = true → te (ρ.set i (some (.sh (.int n)))) = .ok (.int (f n)) (ρ.set i (some (.sh (.int n))))) (hz : ns.length ≤ sizeLine) :
    fLc di (gSet i) tt te [i] ρ = .ok (.lst (((ns.filter p).map f).map D.int)) ρ := by
  have := lc_filt (tt := tt) (te := te) (fun d => match d with | .int n => p n | _ => false) (fun d => match d with | .int n => .int (f n) | d => d) hd hi (fun d hd => by
    obtain ⟨n, hn, rfl⟩ := List.mem_map.mp hd
    exact h n hn) (fun d hd hp => by
    obtain ⟨n, hn, rfl⟩ := List.mem_map.mp hd
    exact h2 n hn hp) (by rw [List.length_map]; exact hz)
  rw [this, filt_ints, List.map_map, List.map_map]
  rfl
/-! ### ints compared -/
theorem toPyL_map (f : Int → D) (g : Int → PyData) (h : ∀ i, (f i).toPy = g i) : ∀ l : List Int, toPyL (l.map f) = l.map g
  | [] => rfl
  | a :: l => by show (f a).toPy :: toPyL (l.map f) = _; rw [h, toPyL_map f g h l]; rfl
theorem lay_ints : ∀ l : List Int, PyData.canLayAll0 (l.map PyData.int) = true
  | [] => by simp [PyData.canLayAll0]
  | a :: l => by simp [PyData.canLayAll0, PyData.canLay0, lay_ints l]
theorem depth_ints : ∀ l : List Int, PyData.depthAll (l.map PyData.int) ≤ 1
  | [] => by simp [PyData.depthAll]
  | a :: l => by
    have := depth_ints l
    simp only [List.map_cons, PyData.depthAll, PyData.depth]
    omega
theorem eqv_ints : ∀ a b : List Int, PyData.eqvAll (a.map PyData.int) (b.map PyData.int) = decide (a = b)
  | [], [] => by simp [PyData.eqvAll]
  | [], b :: bs => by simp [PyData.eqvAll]
  | a :: as, [] => by simp [PyData.eqvAll]
  | a :: as, b :: bs => by
    simp only [List.map_cons, PyData.eqvAll, PyData.eqv, eqv_ints as bs]
    by_cases h1 : a = b <;> by_cases h2 : as = bs <;> simp [h1, h2]
theorem shaped_tup (l : List Int) : SeqAt.shaped (D.tup (l.map D.int)).toPy = true := by
  show ((PyData.tuple (toPyL (l.map D.int))).canLay0 && decide ((PyData.tuple (toPyL (l.map D.int))).depth ≤ 64)) = true
  rw [toPyL_map D.int PyData.int (fun _ => rfl)]
  refine Bool.and_eq_true_iff.mpr ⟨by rw [PyData.canLay0]; exact lay_ints l, decide_eq_true ?_⟩
  have := depth_ints l
  rw [PyData.depth]
  omega
theorem shaped_lst (l : List Int) : SeqAt.shaped (D.lst (l.map D.int)).toPy = true := by
  show ((PyData.list (toPyL (l.map D.int))).canLay0 && decide ((PyData.list (toPyL (l.map D.int))).depth ≤ 64)) = true
  rw [toPyL_map D.int PyData.int (fun _ => rfl)]
  refine Bool.and_eq_true_iff.mpr ⟨by rw [PyData.canLay0]; exact lay_ints l, decide_eq_true ?_⟩
  have := depth_ints l
  rw [PyData.depth]
  omega
theorem vEq_tup (neg : Bool) (a b : List Int) : vEq neg (.tup (a.map D.int)) (.tup (b.map D.int)) = some (.bl (if neg then !decide (a = b) else decide (a = b))) := by
  unfold vEq
  rw [if_pos ⟨shaped_tup a, shaped_tup b⟩]
  have : PyData.eqv (D.tup (a.map D.int)).toPy (D.tup (b.map D.int)).toPy = decide (a = b) := by
    show PyData.eqv (.tuple (toPyL (a.map D.int))) (.tuple (toPyL (b.map D.int))) = _
    rw [toPyL_map D.int PyData.int (fun _ => rfl), toPyL_map D.int PyData.int (fun _ => rfl), PyData.eqv, eqv_ints]
  rw [this]
theorem e_eqT (a b : List Int) : CK.f .eq (.tup (a.map D.int)) (.tup (b.map D.int)) = some (.bl (decide (a = b))) := vEq_tup false a b
theorem e_neT (a b : List Int) : CK.f .ne (.tup (a.map D.int)) (.tup (b.map D.int)) = some (.bl (!decide (a = b))) := vEq_tup true a b
theorem intsOf_map : ∀ l : List Int, intsOf (l.map D.int) = some l
  | [] => rfl
  | a :: l => by show (intsOf (l.map D.int)).map (a :: ·) = _; rw [intsOf_map l]; rfl
theorem e_minT (a : Int) (l : List Int) : fMin [.tup ((a :: l).map D.int)] = some (.int (minI a l)) := by show (intsOf ((a :: l).map D.int)).bind minOf = _; rw [intsOf_map]; rfl
theorem e_maxT (a : Int) (l : List Int) : fMax [.tup ((a :: l).map D.int)] = some (.int (maxI a l)) := by show (intsOf ((a :: l).map D.int)).bind maxOf = _; rw [intsOf_map]; rfl
theorem minI_eq {a x : Int} {l : List Int} (h1 : x ∈ a :: l) (h2 : ∀ y ∈ a :: l, x ≤ y) : minI a l = x := by
  obtain ⟨m1, m2⟩ := minI_mem l a
  have := m2 x h1
  have := h2 _ m1
  omega
theorem maxI_eq {a x : Int} {l : List Int} (h1 : x ∈ a :: l) (h2 : ∀ y ∈ a :: l, y ≤ x) : maxI a l = x := by
  obtain ⟨m1, m2⟩ := maxI_mem l a
  have := m2 x h1
  have := h2 _ m1
  omega
theorem bools_map (f : Int → Bool) : ∀ l : List Int, bools (l.map fun i => D.bl (f i)) = some (l.map f)
  | [] => rfl
  | a :: l => by show (bools (l.map fun i => D.bl (f i))).map (f a :: ·) = _; rw [bools_map f l]; rfl
theorem rng7 : rng 0 7 = [.int 0, .int 1, .int 2, .int 3, .int 4, .int 5, .int 6] := by kernel_rfl
def rng1K : D → ENV → R (List D) := fun x ρ1 => match x with
  | .int j => if rngOk j = true then .ok (rng 0 j) ρ1 else .bot
  | _ => .bot
theorem e_Rng1 (da : ENV → R D) (ρ : ENV) : dRng1 da ρ = (da ρ).bind rng1K := rfl
theorem e_rng1K (j : Int) (ρ : ENV) (h : rngOk j = true) : rng1K (.int j) ρ = .ok (rng 0 j) ρ := by
  show (if rngOk j = true then R.ok (rng 0 j) ρ else .bot) = _
  rw [if_pos h]
theorem rngOk7 : rngOk 7 = true := by decide
theorem d_rng7 (ρ : ENV) : dRng1 (dC (.int 7)) ρ = .ok [.int 0, .int 1, .int 2, .int 3, .int 4, .int 5, .int 6] ρ := by
  show (if rngOk 7 = true then R.ok (rng 0 7) ρ else .bot) = _
  rw [if_pos rngOk7, rng7]
/-! ### loops, turn by turn -/
def turnK (k : ENV → R Fl) : Fl → ENV → R Fl
  | .nx, ρ => k ρ
  | .ct, ρ => k ρ
  | .bk, ρ => .ok .nx ρ
  | .ret v, ρ => .ok (.ret v) ρ
theorem forL_nil (g : D → ENV → Option ENV) (body : ENV → R Fl) (ρ : ENV) : forL g body [] ρ = .ok .nx ρ := rfl
theorem forL_cons (g : D → ENV → Option ENV) (body : ENV → R Fl) (d : D) (ds : List D) (ρ ρ1 : ENV) (h : g d ρ = some ρ1) : forL g body (d :: ds) ρ = (body ρ1).bind (turnK (forL g body ds)) := by
  unfold forL
  rw [h]
  dsimp only
  cases body ρ1 with
  | ok f ρ => cases f <;> rfl
  | exc e ρ => rfl
  | bot => rfl
theorem e_forK (g : D → ENV → Option ENV) (body : ENV → R Fl) (ds : List D) (ρ : ENV) : forK g body ds ρ = forL g body ds ρ := rfl
theorem forL_set (i : Nat) (body : ENV → R Fl) (d : D) (ds : List D) (ρ : ENV) (h : i < ρ.length) : forL (gSet i) body (d :: ds) ρ = (body (ρ.set i (some (.sh d)))).bind (turnK (forL (gSet i) body ds)) :=
  forL_cons _ _ _ _ _ _ (e_gSet i d ρ h)
theorem e_tnN (k : ENV → R Fl) (ρ : ENV) : turnK k .nx ρ = k ρ := rfl
theorem e_tnC (k : ENV → R Fl) (ρ : ENV) : turnK k .ct ρ = k ρ := rfl
theorem e_tnB (k : ENV → R Fl) (ρ : ENV) : turnK k .bk ρ = .ok .nx ρ := rfl
theorem e_tnR (k : ENV → R Fl) (v : DV) (ρ : ENV) : turnK k (.ret v) ρ = .ok (.ret v) ρ := rfl
theorem e_frz (m : M) (ρ : ENV) : frz (.ok m ρ) = .ok m.toD ρ := rfl
/-! ### while -/
def whK (c : ENV → R Bool) (body : ENV → R Fl) (n : Nat) : Bool → ENV → R Fl := fun b ρ1 => if b = true then (body ρ1).bind (turnK (whileF c body n)) else .ok .nx ρ1
theorem whileF_succ (c : ENV → R Bool) (body : ENV → R Fl) (n : Nat) (ρ : ENV) : whileF c body (n + 1) ρ = (c ρ).bind (whK c body n) := by
  show (c ρ).bind _ = _
  refine congrArg (fun f => (c ρ).bind f) ?_
  funext b ρ1
  unfold whK
  cases b with
  | false => rfl
  | true =>
    simp only [if_true]
    cases body ρ1 with
    | ok f ρ => cases f <;> rfl
    | exc e ρ => rfl
    | bot => rfl
theorem e_whT (c : ENV → R Bool) (body : ENV → R Fl) (n : Nat) (ρ : ENV) : whK c body n true ρ = (body ρ).bind (turnK (whileF c body n)) := rfl
theorem e_whF (c : ENV → R Bool) (body : ENV → R Fl) (n : Nat) (ρ : ENV) : whK c body n false ρ = .ok .nx ρ := rfl
end Rf
set_option Elab.async false
set_option linter.all false
set_option maxRecDepth 100000
/-! RfU: more rules; tuples of ints kept folded -/
namespace Rf
open PySem PySem.Spec L2
theorem e_Raise (e : EX) (ρ : ENV) : sRaise e ρ = .exc e ρ := rfl
def parK (i j : Nat) (db : ENV → R D) : D → ENV → R Fl := fun x ρ1 => (db ρ1).bind fun y ρ2 => if i < ρ2.length ∧ j < ρ2.length then .ok .nx ((ρ2.set i (some (.sh x))).set j (some (.sh y))) else .bot
def parK2 (i j : Nat) (x : D) : D → ENV → R Fl := fun y ρ2 => if i < ρ2.length ∧ j < ρ2.length then .ok .nx ((ρ2.set i (some (.sh x))).set j (some (.sh y))) else .bot
theorem e_Par (i j : Nat) (da db : ENV → R D) (ρ : ENV) : sPar i j da db ρ = (da ρ).bind (parK i j db) := rfl
theorem e_parK (i j : Nat) (db : ENV → R D) (x : D) (ρ : ENV) : parK i j db x ρ = (db ρ).bind (parK2 i j x) := rfl
theorem e_parK2 (i j : Nat) (x y : D) (ρ : ENV) (hi : i < ρ.length) (hj : j < ρ.length) : parK2 i j x y ρ = .ok .nx ((ρ.set i (some (.sh x))).set j (some (.sh y))) := by unfold parK2; rw [if_pos ⟨hi, hj⟩]
def augK (i : Nat) (f : Int → Int → Int) (a : Int) : D → ENV → R Fl := fun d ρ1 => match d with
    | .int b => if i < ρ1.length then .ok .nx (ρ1.set i (some (.sh (.int (f a b))))) else .bot
    | _ => .bot
theorem e_Aug (i : Nat) (f : Int → Int → Int) (da : ENV → R D) (ρ : ENV) (a : Int) (h : ρ[i]? = some (some (.sh (.int a)))) : sAug i f da ρ = (da ρ).bind (augK i f a) := by unfold sAug; rw [h]; rfl
theorem e_augK (i : Nat) (f : Int → Int → Int) (a b : Int) (ρ : ENV) (hi : i < ρ.length) : augK i f a (.int b) ρ = .ok .nx (ρ.set i (some (.sh (.int (f a b))))) := by unfold augK; exact if_pos hi
def chK1 (f g : D → D → Option D) (db dc : ENV → R D) : D → ENV → R D := fun x ρ1 => (db ρ1).bind fun y ρ2 => match f x y with
  | some (.bl true) => (dc ρ2).bind fun z ρ3 => R.of (g y z) ρ3
  | some (.bl false) => .ok (.bl false) ρ2
  | _ => .bot
def chK3 (g : D → D → Option D) (dc : ENV → R D) (y : D) : Option D → ENV → R D := fun o ρ2 => match o with
  | some (.bl true) => (dc ρ2).bind (op1 (g y))
  | some (.bl false) => .ok (.bl false) ρ2
  | _ => .bot
def chK2 (f g : D → D → Option D) (dc : ENV → R D) (x : D) : D → ENV → R D := fun y ρ2 => chK3 g dc y (f x y) ρ2
theorem e_Ch (f g : D → D → Option D) (da db dc : ENV → R D) (ρ : ENV) : dChain f g da db dc ρ = (da ρ).bind (chK1 f g db dc) := rfl
theorem e_chK1 (f g : D → D → Option D) (db dc : ENV → R D) (x : D) (ρ : ENV) : chK1 f g db dc x ρ = (db ρ).bind (chK2 f g dc x) := by
  unfold chK1
  refine congrArg (fun k => (db ρ).bind k) ?_
  funext y ρ2
  unfold chK2 chK3
  cases f x y with
  | none => rfl
  | some d => cases d with
    | bl b => cases b <;> rfl
    | _ => rfl
theorem e_chK2 (f g : D → D → Option D) (dc : ENV → R D) (x y : D) (ρ : ENV) : chK2 f g dc x y ρ = chK3 g dc y (f x y) ρ := rfl
theorem e_chT (g : D → D → Option D) (dc : ENV → R D) (y : D) (ρ : ENV) : chK3 g dc y (some (.bl true)) ρ = (dc ρ).bind (op1 (g y)) := rfl
theorem e_chF (g : D → D → Option D) (dc : ENV → R D) (y : D) (ρ : ENV) : chK3 g dc y (some (.bl false)) ρ = .ok (.bl false) ρ := rfl
/-- a try-statement -/
def tryK (sub : Nat → Nat → Option Bool) (c : Nat) (ss : ENV → R Fl) : R Fl → R Fl
  | .exc e ρ1 => match sub e.c c with
    | some true => match ss ρ1 with
      | .exc _ _ => .bot
      | r => r
    | some false => .exc e ρ1
    | none => .bot
  | r => r
theorem e_Try (sub : Nat → Nat → Option Bool) (sb : ENV → R Fl) (c : Nat) (ss : ENV → R Fl) (ρ : ENV) : sTry sub sb c ss ρ = tryK sub c ss (sb ρ) := by
  unfold sTry tryK
  cases sb ρ <;> rfl
theorem e_tryO (sub : Nat → Nat → Option Bool) (c : Nat) (ss : ENV → R Fl) (f : Fl) (ρ : ENV) : tryK sub c ss (.ok f ρ) = .ok f ρ := rfl
theorem e_tryX (sub : Nat → Nat → Option Bool) (c : Nat) (ss : ENV → R Fl) (e : EX) (ρ ρ' : ENV) (f : Fl) (h : sub e.c c = some true) (h2 : ss ρ = .ok f ρ') : tryK sub c ss (.exc e ρ) = .ok f ρ' := by
  show (match sub e.c c with
    | some true => match ss ρ with
      | .exc _ _ => R.bot
      | r => r
    | some false => .exc e ρ
    | none => .bot) = _
  rw [h]
  dsimp only
  rw [h2]
theorem e_tru (b : Bool) : tru (.bl b) = some b := rfl
theorem e_truI (i : Int) : tru (.int i) = some (!(i == 0)) := by
  rfl
theorem line8 : (8 : Nat) ≤ sizeLine := by rw [sizeLine_eq]; decide
theorem e_tup1 (a : D) (ρ : ENV) : tupK [a] ρ = .ok (.tup [a]) ρ := e_tupK _ ρ (Nat.le_trans (show 1 ≤ 8 by decide) line8)
theorem e_lst1 (a : D) (ρ : ENV) : lstK [a] ρ = .ok (.lst [a]) ρ := e_lstK _ ρ (Nat.le_trans (show 1 ≤ 8 by decide) line8)
theorem e_tup2 (a b : D) (ρ : ENV) : tupK [a, b] ρ = .ok (.tup [a, b]) ρ := e_tupK _ ρ (Nat.le_trans (show 2 ≤ 8 by decide) line8)
theorem e_lst2 (a b : D) (ρ : ENV) : lstK [a, b] ρ = .ok (.lst [a, b]) ρ := e_lstK _ ρ (Nat.le_trans (show 2 ≤ 8 by decide) line8)
theorem e_tup3 (a b c : D) (ρ : ENV) : tupK [a, b, c] ρ = .ok (.tup [a, b, c]) ρ := e_tupK _ ρ (Nat.le_trans (show 3 ≤ 8 by decide) line8)
theorem e_lst3 (a b c : D) (ρ : ENV) : lstK [a, b, c] ρ = .ok (.lst [a, b, c]) ρ := e_lstK _ ρ (Nat.le_trans (show 3 ≤ 8 by decide) line8)
theorem e_tup4 (a b c d : D) (ρ : ENV) : tupK [a, b, c, d] ρ = .ok (.tup [a, b, c, d]) ρ := e_tupK _ ρ (Nat.le_trans (show 4 ≤ 8 by decide) line8)
theorem e_lst4 (a b c d : D) (ρ : ENV) : lstK [a, b, c, d] ρ = .ok (.lst [a, b, c, d]) ρ := e_lstK _ ρ (Nat.le_trans (show 4 ≤ 8 by decide) line8)
theorem e_tup5 (a b c d e : D) (ρ : ENV) : tupK [a, b, c, d, e] ρ = .ok (.tup [a, b, c, d, e]) ρ := e_tupK _ ρ (Nat.le_trans (show 5 ≤ 8 by decide) line8)
theorem e_lst5 (a b c d e : D) (ρ : ENV) : lstK [a, b, c, d, e] ρ = .ok (.lst [a, b, c, d, e]) ρ := e_lstK _ ρ (Nat.le_trans (show 5 ≤ 8 by decide) line8)
theorem e_tup6 (a b c d e f : D) (ρ : ENV) : tupK [a, b, c, d, e, f] ρ = .ok (.tup [a, b, c, d, e, f]) ρ := e_tupK _ ρ (Nat.le_trans (show 6 ≤ 8 by decide) line8)
theorem e_lst6 (a b c d e f : D) (ρ : ENV) : lstK [a, b, c, d, e, f] ρ = .ok (.lst [a, b, c, d, e, f]) ρ := e_lstK _ ρ (Nat.le_trans (show 6 ≤ 8 by decide) line8)
theorem e_tup7 (a b c d e f g : D) (ρ : ENV) : tupK [a, b, c, d, e, f, g] ρ = .ok (.tup [a, b, c, d, e, f, g]) ρ := e_tupK _ ρ (Nat.le_trans (show 7 ≤ 8 by decide) line8)
theorem e_lst7 (a b c d e f g : D) (ρ : ENV) : lstK [a, b, c, d, e, f, g] ρ = .ok (.lst [a, b, c, d, e, f, g]) ρ := e_lstK _ ρ (Nat.le_trans (show 7 ≤ 8 by decide) line8)
theorem e_tup8 (a b c d e f g h : D) (ρ : ENV) : tupK [a, b, c, d, e, f, g, h] ρ = .ok (.tup [a, b, c, d, e, f, g, h]) ρ := e_tupK _ ρ (Nat.le_trans (show 8 ≤ 8 by decide) line8)
theorem e_lst8 (a b c d e f g h : D) (ρ : ENV) : lstK [a, b, c, d, e, f, g, h] ρ = .ok (.lst [a, b, c, d, e, f, g, h]) ρ := e_lstK _ ρ (Nat.le_trans (show 8 ≤ 8 by decide) line8)
theorem e_While (n : ENV → Nat) (c : ENV → R Bool) (body : ENV → R Fl) (ρ : ENV) : sWhile n c body ρ = whileF c body (n ρ) ρ := rfl
theorem e_abs (i : Int) : fAbs [.int i] = some (.int (if i < 0 then -i else i)) := rfl
theorem e_max2 (i j : Int) : fMax [.int i, .int j] = some (.int (if j > i then j else i)) := rfl
theorem e_min2 (i j : Int) : fMin [.int i, .int j] = some (.int (if j < i then j else i)) := rfl
theorem e_gSq2 (i j : Nat) (a b : D) (ρ : ENV) (hi : i < ρ.length) (hj : j < ρ.length) : gSeq 2 (gsCons (gSet i) (gsCons (gSet j) gsNil)) (.tup [a, b]) ρ = some ((ρ.set i (some (.sh a))).set j (some (.sh b))) := by
  show (gSet i a ρ).bind (fun ρ1 => (gSet j b ρ1).bind fun ρ2 => some ρ2) = _
  rw [e_gSet i a ρ hi]
  show (gSet j b _).bind _ = _
  rw [e_gSet j b _ (by rw [List.length_set]; exact hj)]
  rfl
theorem e_addT (a b : List D) (h : a.length + b.length ≤ sizeLine) : vAdd (.tup a) (.tup b) = some (.tup (a ++ b)) := by
  show (if a.length + b.length ≤ sizeLine then some (D.tup (a ++ b)) else none) = _
  rw [if_pos h]
/-! ### tuples of ints -/
def tupI (l : List Int) : D := .tup (l.map D.int)
theorem t_fld (l : List Int) : D.tup (l.map D.int) = tupI l := rfl
theorem t_eq (a b : List Int) : CK.f .eq (tupI a) (tupI b) = some (.bl (decide (a = b))) := vEq_tup false a b
theorem t_ne (a b : List Int) : CK.f .ne (tupI a) (tupI b) = some (.bl (!decide (a = b))) := vEq_tup true a b
theorem t_len (l : List Int) : fLen [tupI l] = some (.int l.length) := by unfold tupI; rw [e_lenT, List.length_map]
theorem t_is (l : List Int) : (isTy "tuple" (tupI l)) = some true := rfl
theorem t_itm (l : List Int) (ρ : ENV) : itK (tupI l) ρ = .ok (l.map D.int) ρ := rfl
theorem t_of (l : List Int) : fTuple [.lst (l.map D.int)] = some (tupI l) := rfl
theorem t_of2 (l : List Int) : fTuple [.tup (l.map D.int)] = some (tupI l) := rfl
theorem t_lst (l : List Int) : fList [tupI l] = some (.lst (l.map D.int)) := rfl
theorem atI_map (f : Int → D) : ∀ (l : List Int) (i : Int) (x : Int), L2.atI l i = some x → L2.atI (l.map f) i = some (f x) := by
  intro l i x h
  unfold L2.atI at h ⊢
  rw [List.length_map]
  cases e : ixN l.length i with
  | none => rw [e] at h; cases h
  | some j =>
    rw [e] at h
    show (l.map f)[j]? = _
    rw [List.getElem?_map, show l[j]? = some x from h]; rfl
theorem t_ix {l : List Int} {i x : Int} (h : L2.atI l i = some x) : vIxI (tupI l) (.int i) = some (.int x) := atI_map D.int l i x h
theorem t_min (a : Int) (l : List Int) : fMin [tupI (a :: l)] = some (.int (minI a l)) := e_minT a l
theorem t_max (a : Int) (l : List Int) : fMax [tupI (a :: l)] = some (.int (maxI a l)) := e_maxT a l
theorem vEq_lst (neg : Bool) (a b : List Int) : vEq neg (.lst (a.map D.int)) (.lst (b.map D.int)) = some (.bl (if neg then !decide (a = b) else decide (a = b))) := by
  unfold vEq
  rw [if_pos ⟨shaped_lst a, shaped_lst b⟩]
  have : PyData.eqv (D.lst (a.map D.int)).toPy (D.lst (b.map D.int)).toPy = decide (a = b) := by
    show PyData.eqv (.list (toPyL (a.map D.int))) (.list (toPyL (b.map D.int))) = _
    rw [toPyL_map D.int PyData.int (fun _ => rfl), toPyL_map D.int PyData.int (fun _ => rfl), PyData.eqv, eqv_ints]
  rw [this]
theorem allTrue {α : Type} : ∀ l : List α, bools (l.map fun _ => D.bl true) = some (l.map fun _ => true)
  | [] => rfl
  | a :: l => by show (bools (l.map fun _ => D.bl true)).map (true :: ·) = _; rw [allTrue l]; rfl
theorem t_all {α : Type} (l : List α) : fAll [.lst (l.map fun _ => D.bl true)] = some (.bl true) := by
  show (bools _).map _ = _
  rw [allTrue]
  show some (D.bl ((l.map fun _ => true).all id)) = _
  have : (l.map fun _ => true).all id = true := by rw [List.all_map]; exact List.all_eq_true.mpr fun _ _ => rfl
  rw [this]
end Rf
set_option Elab.async false
set_option linter.all false
set_option maxRecDepth 100000
/-! RfV: the interpreter's rules for exceptions with fields, instances, methods, enumerate, texts -/
namespace Rf
open PySem PySem.Spec L2
/-! ### a statement behind another -/
theorem seq_ok {a b : ENV → R Fl} {ρ ρ1 : ENV} (h : a ρ = .ok .nx ρ1) : sSeq a b ρ = b ρ1 := by unfold sSeq; rw [h]
theorem seq_ret {a b : ENV → R Fl} {ρ ρ1 : ENV} {v : DV} (h : a ρ = .ok (.ret v) ρ1) : sSeq a b ρ = .ok (.ret v) ρ1 := by unfold sSeq; rw [h]
/-! ### raising -/
def raFK (c : Nat) (fs : List Str) : List D → ENV → R Fl := fun ds ρ1 => if ds.length = fs.length ∧ ds.length ≤ 1000 then .exc ⟨c, (fs.zip ds).reverse⟩ ρ1 else .bot
theorem e_RaF (c : Nat) (fs : List Str) (dr : ENV → R (List D)) (ρ : ENV) : sRaiseF c fs dr ρ = (dr ρ).bind (raFK c fs) := rfl
theorem e_raF1 (c : Nat) (f : Str) (d : D) (ρ : ENV) : raFK c [f] [d] ρ = .exc ⟨c, [(f, d)]⟩ ρ := rfl
theorem e_raF2 (c : Nat) (f g : Str) (d e : D) (ρ : ENV) : raFK c [f, g] [d, e] ρ = .exc ⟨c, [(g, e), (f, d)]⟩ ρ := rfl
def tryAK (sub : Nat → Nat → Option Bool) (c i : Nat) (ss : EX → ENV → R Fl) : R Fl → R Fl
  | .exc e ρ1 => match sub e.c c with
    | some true => if i < ρ1.length then match ss e (ρ1.set i none) with
      | .ok f ρ2 => .ok f (ρ2.set i none)
      | _ => .bot else .bot
    | some false => .exc e ρ1
    | none => .bot
  | r => r
def asgnK (i : Nat) : R Fl → R Fl
  | .ok f ρ2 => .ok f (ρ2.set i none)
  | _ => .bot
theorem e_TryA (sub : Nat → Nat → Option Bool) (sb : ENV → R Fl) (c i : Nat) (ss : EX → ENV → R Fl) (ρ : ENV) : sTryAs sub sb c i ss ρ = tryAK sub c i ss (sb ρ) := by
  unfold sTryAs tryAK
  cases sb ρ <;> rfl
theorem e_tryAO (sub : Nat → Nat → Option Bool) (c i : Nat) (ss : EX → ENV → R Fl) (f : Fl) (ρ : ENV) : tryAK sub c i ss (.ok f ρ) = .ok f ρ := rfl
theorem e_tryAX (sub : Nat → Nat → Option Bool) (c i : Nat) (ss : EX → ENV → R Fl) (e : EX) (ρ : ENV) (h : sub e.c c = some true) (hi : i < ρ.length) : tryAK sub c i ss (.exc e ρ) = asgnK i (ss e (ρ.set i none)) := by
  unfold tryAK
  dsimp only
  rw [h]
  dsimp only
  rw [if_pos hi]
  cases ss e (ρ.set i none) <;> rfl
theorem e_asgnK (i : Nat) (f : Fl) (ρ : ENV) : asgnK i (.ok f ρ) = .ok f (ρ.set i none) := rfl
theorem e_Xf (ok : Nat → Bool) (f : Str) (c : Nat) (d : D) (r : List (Str × D)) (ρ : ENV) (h : ok c = true) : dXf ok f ⟨c, (f, d) :: r⟩ ρ = .ok d ρ := by
  show (if ok c = true then R.of (List.lookup f ((f, d) :: r)) ρ else .bot) = _
  rw [if_pos h, List.lookup_cons_self]
  rfl
theorem e_frzX (e : EX) (ρ : ENV) : frz (.exc e ρ) = .exc e ρ := rfl
theorem e_sqX (b : ENV → R Fl) : ∀ (e : EX) (ρ : ENV), (R.exc e ρ).bind (sqK b) = .exc e ρ := fun _ _ => rfl
/-! ### instances -/
theorem e_Fld (ok : Nat → Bool) (f : Str) (da : ENV → R D) (ρ : ENV) : dFld ok f da ρ = (da ρ).bind (op1 (vFld ok f)) := rfl
theorem e_vFld (ok : Nat → Bool) (f : Str) (c : Nat) (fs : List (Str × D)) (h : ok c = true) : vFld ok f (.ins c fs) = fs.lookup f := if_pos h
def fldK (ok : Nat → Bool) (f : Str) (i : Nat) : D → ENV → R Fl := fun d ρ1 => match ρ1[i]? with
  | some (some (.ow (.ins c fs))) => if ok c = true ∧ fs.length < 1000 then .ok .nx (ρ1.set i (some (.ow (.ins c (putD f d fs))))) else .bot
  | _ => .bot
theorem e_SFld (ok : Nat → Bool) (f : Str) (i : Nat) (da : ENV → R D) (ρ : ENV) : sFld ok f i da ρ = (da ρ).bind (fldK ok f i) := rfl
theorem e_fldK0 (ok : Nat → Bool) (f : Str) (d : D) (c : Nat) (fs : List (Str × D)) (r : ENV) (h : ok c = true) (hl : fs.length < 1000) : fldK ok f 0 d (some (.ow (.ins c fs)) :: r) = .ok .nx (some (.ow (.ins c (putD f d fs))) :: r) :=
  if_pos ⟨h, hl⟩
def mkK (c n : Nat) (F : List DV → FO) : List D → ENV → R M := fun ds ρ1 => if ds.length + 1 = n then mkR ρ1 (F (.ow (.ins c []) :: ds.map DV.sh)) else .bot
theorem e_Mk (c n : Nat) (F : List DV → FO) (da : ENV → R (List D)) (ρ : ENV) : fMake c n F da ρ = (da ρ).bind (mkK c n F) := rfl
theorem e_mkK1 (c : Nat) (F : List DV → FO) (x : D) (ρ : ENV) : mkK c 2 F [x] ρ = mkR ρ (F [.ow (.ins c []), .sh x]) := rfl
theorem e_mkK2 (c : Nat) (F : List DV → FO) (x y : D) (ρ : ENV) : mkK c 3 F [x, y] ρ = mkR ρ (F [.ow (.ins c []), .sh x, .sh y]) := rfl
theorem e_mkK3 (c : Nat) (F : List DV → FO) (x y z : D) (ρ : ENV) : mkK c 4 F [x, y, z] ρ = mkR ρ (F [.ow (.ins c []), .sh x, .sh y, .sh z]) := rfl
theorem e_mkK4 (c : Nat) (F : List DV → FO) (x y z u : D) (ρ : ENV) : mkK c 5 F [x, y, z, u] ρ = mkR ρ (F [.ow (.ins c []), .sh x, .sh y, .sh z, .sh u]) := rfl
theorem e_mkO (m : M) (ρ : ENV) : mkR ρ (.ok (.sh .non) [m]) = .ok m ρ := rfl
theorem e_mkX (e : EX) (ms : List M) (ρ : ENV) : mkR ρ (.exc e ms) = .exc e ρ := rfl
def metK2 (F : List DV → FO) (x : D) : List Ag → ENV → R DV := fun as ρ2 => stepR F (.inl x :: as) ρ2
theorem e_Met (tab : Nat → Option (List DV → FO)) (m : Str) (da : ENV → R D) (dr : ENV → R (List Ag)) (ρ : ENV) : dMet tab m da dr ρ = (da ρ).bind (metK tab m dr) := rfl
theorem e_metK (tab : Nat → Option (List DV → FO)) (m : Str) (dr : ENV → R (List Ag)) (x : D) (ρ : ENV) (F : List DV → FO) (h : metOf tab m x = some F) : metK tab m dr x ρ = ((dr ρ).bind (metK2 F x)).bind onSh := by unfold metK; rw [h]; rfl
theorem e_metK2 (F : List DV → FO) (x : D) (as : List Ag) (ρ : ENV) : metK2 F x as ρ = stepR F (.inl x :: as) ρ := rfl
/-! ### enumerate -/
theorem e_Enum (da : ENV → R D) (ρ : ENV) : dEnumT da ρ = (da ρ).bind enumKT := rfl
theorem e_enumL (ds : List D) (ρ : ENV) : enumKT (.lst ds) ρ = .ok (pairs ds) ρ := rfl
theorem e_enumT (ds : List D) (ρ : ENV) : enumKT (.tup ds) ρ = .ok (pairs ds) ρ := rfl
theorem forL_gS2 (i j : Nat) (a b : D) (ds : List D) (body : ENV → R Fl) (ρ : ENV) (hi : i < ρ.length) (hj : j < ρ.length) : forL (gSeq 2 (gsCons (gSet i) (gsCons (gSet j) gsNil))) body (.tup [a, b] :: ds) ρ
    = (body ((ρ.set i (some (.sh a))).set j (some (.sh b)))).bind (turnK (forL (gSeq 2 (gsCons (gSet i) (gsCons (gSet j) gsNil))) body ds)) := forL_cons _ _ _ _ _ _ (e_gSq2 i j a b ρ hi hj)
theorem pairs2 (a b : D) : pairs [a, b] = [.tup [.int 0, a], .tup [.int 1, b]] := by kernel_rfl
theorem pairs3 (a b c : D) : pairs [a, b, c] = [.tup [.int 0, a], .tup [.int 1, b], .tup [.int 2, c]] := by kernel_rfl
theorem pairs4 (a b c d : D) : pairs [a, b, c, d] = [.tup [.int 0, a], .tup [.int 1, b], .tup [.int 2, c], .tup [.int 3, d]] := by kernel_rfl
/-! ### tests -/
theorem e_IfB (t a b : ENV → R Bool) (ρ : ENV) : dIfB t a b ρ = (t ρ).bind (ifBK a b) := rfl
theorem e_ifBT (a b : ENV → R Bool) (ρ : ENV) : ifBK a b true ρ = a ρ := rfl
theorem e_ifBF (a b : ENV → R Bool) (ρ : ENV) : ifBK a b false ρ = b ρ := rfl
theorem e_notB (a b : Bool) : CK.f .notB (.bl a) (.bl b) = some (.bl (!decide (a = b))) := rfl
theorem e_isB (a b : Bool) : CK.f .isB (.bl a) (.bl b) = some (.bl (decide (a = b))) := rfl
section
variable {tab : Nat → Option (List DV → FO)} {ok : Nat → Bool}
theorem o_int (i : Int) (y : D) : vEqO tab ok (.int i) y = vEq false (.int i) y := rfl
theorem o_str (i : Str) (y : D) : vEqO tab ok (.str i) y = vEq false (.str i) y := rfl
theorem o_tup (i : List D) (y : D) : vEqO tab ok (.tup i) y = vEq false (.tup i) y := rfl
theorem o_lst (i : List D) (y : D) : vEqO tab ok (.lst i) y = vEq false (.lst i) y := rfl
theorem o_non (y : D) : vEqO tab ok .non y = vEq false .non y := rfl
theorem o_bl (i : Bool) (y : D) : vEqO tab ok (.bl i) y = vEq false (.bl i) y := rfl
theorem n_int (i : Int) (y : D) : vNeO tab ok (.int i) y = vEq true (.int i) y := rfl
theorem n_str (i : Str) (y : D) : vNeO tab ok (.str i) y = vEq true (.str i) y := rfl
theorem n_tup (i : List D) (y : D) : vNeO tab ok (.tup i) y = vEq true (.tup i) y := rfl
theorem n_lst (i : List D) (y : D) : vNeO tab ok (.lst i) y = vEq true (.lst i) y := rfl
theorem n_non (y : D) : vNeO tab ok .non y = vEq true .non y := rfl
theorem n_bl (i : Bool) (y : D) : vNeO tab ok (.bl i) y = vEq true (.bl i) y := rfl
theorem n_of {x y : D} {b : Bool} (hx : ∃ c fs, x = .ins c fs) (h : vEqO tab ok x y = some (.bl b)) : vNeO tab ok x y = some (.bl !b) := by
  obtain ⟨c, fs, rfl⟩ := hx
  show (vEqO tab ok _ y).bind negD = _
  rw [h]; rfl
end
theorem e_lst9 (a0 a1 a2 a3 a4 a5 a6 a7 a8 : D) (ρ : ENV) : lstK [a0, a1, a2, a3, a4, a5, a6, a7, a8] ρ = .ok (.lst [a0, a1, a2, a3, a4, a5, a6, a7, a8]) ρ := e_lstK _ ρ (by rw [sizeLine_eq]; show 9 ≤ _; decide)
theorem e_tup9 (a0 a1 a2 a3 a4 a5 a6 a7 a8 : D) (ρ : ENV) : tupK [a0, a1, a2, a3, a4, a5, a6, a7, a8] ρ = .ok (.tup [a0, a1, a2, a3, a4, a5, a6, a7, a8]) ρ := e_tupK _ ρ (by rw [sizeLine_eq]; show 9 ≤ _; decide)
theorem e_lst10 (a0 a1 a2 a3 a4 a5 a6 a7 a8 a9 : D) (ρ : ENV) : lstK [a0, a1, a2, a3, a4, a5, a6, a7, a8, a9] ρ = .ok (.lst [a0, a1, a2, a3, a4, a5, a6, a7, a8, a9]) ρ := e_lstK _ ρ (by rw [sizeLine_eq]; show 10 ≤ _; decide)
theorem e_tup10 (a0 a1 a2 a3 a4 a5 a6 a7 a8 a9 : D) (ρ : ENV) : tupK [a0, a1, a2, a3, a4, a5, a6, a7, a8, a9] ρ = .ok (.tup [a0, a1, a2, a3, a4, a5, a6, a7, a8, a9]) ρ := e_tupK _ ρ (by rw [sizeLine_eq]; show 10 ≤ _; decide)
theorem e_lst11 (a0 a1 a2 a3 a4 a5 a6 a7 a8 a9 a10 : D) (ρ : ENV) : lstK [a0, a1, a2, a3, a4, a5, a6, a7, a8, a9, a10] ρ = .ok (.lst [a0, a1, a2, a3, a4, a5, a6, a7, a8, a9, a10]) ρ := e_lstK _ ρ (by rw [sizeLine_eq]; show 11 ≤ _; decide)
theorem e_tup11 (a0 a1 a2 a3 a4 a5 a6 a7 a8 a9 a10 : D) (ρ : ENV) : tupK [a0, a1, a2, a3, a4, a5, a6, a7, a8, a9, a10] ρ = .ok (.tup [a0, a1, a2, a3, a4, a5, a6, a7, a8, a9, a10]) ρ := e_tupK _ ρ (by rw [sizeLine_eq]; show 11 ≤ _; decide)
theorem e_lst12 (a0 a1 a2 a3 a4 a5 a6 a7 a8 a9 a10 a11 : D) (ρ : ENV) : lstK [a0, a1, a2, a3, a4, a5, a6, a7, a8, a9, a10, a11] ρ = .ok (.lst [a0, a1, a2, a3, a4, a5, a6, a7, a8, a9, a10, a11]) ρ := e_lstK _ ρ (by rw [sizeLine_eq]; show 12 ≤ _; decide)
theorem e_tup12 (a0 a1 a2 a3 a4 a5 a6 a7 a8 a9 a10 a11 : D) (ρ : ENV) : tupK [a0, a1, a2, a3, a4, a5, a6, a7, a8, a9, a10, a11] ρ = .ok (.tup [a0, a1, a2, a3, a4, a5, a6, a7, a8, a9, a10, a11]) ρ := e_tupK _ ρ (by rw [sizeLine_eq]; show 12 ≤ _; decide)
/-! ### loops by what stays -/
theorem for_inv {g : D → ENV → Option ENV} {body : ENV → R Fl} (P : ENV → Prop) : ∀ (ds : List D) (ρ : ENV), (∀ d ∈ ds, ∀ ρ, P ρ → ∃ ρ1 ρ2, g d ρ = some ρ1 ∧ (body ρ1 = .ok .nx ρ2 ∨ body ρ1 = .ok .ct ρ2) ∧ P ρ2) → P ρ →
    ∃ ρ', forL g body ds ρ = .ok .nx ρ' ∧ P ρ'
  | [], ρ, _, h => ⟨ρ, rfl, h⟩
  | d :: ds, ρ, hb, h => by
    obtain ⟨ρ1, ρ2, e1, e2, h2⟩ := hb d List.mem_cons_self ρ h
    obtain ⟨ρ', e3, h3⟩ := for_inv P ds ρ2 (fun d hd => hb d (List.mem_cons_of_mem _ hd)) h2
    refine ⟨ρ', ?_, h3⟩
    rw [forL_cons _ _ _ _ _ _ e1]
    rcases e2 with e2 | e2 <;> rw [e2] <;> exact e3
/-- over a list, turn by turn, with what holds before turn i -/
theorem for_run {g : D → ENV → Option ENV} {body : ENV → R Fl} (P : Nat → ENV → Prop) : ∀ (ds : List D) (k : Nat) (ρ : ENV), (∀ i d, ds[i]? = some d → ∀ ρ, P (k + i) ρ → ∃ ρ1 ρ2, g d ρ = some ρ1 ∧ (body ρ1 = .ok .nx ρ2 ∨ body ρ1 = .ok .ct ρ2) ∧ P (k + i + 1) ρ2) → P k ρ →
    ∃ ρ', forL g body ds ρ = .ok .nx ρ' ∧ P (k + ds.length) ρ'
  | [], k, ρ, _, h => ⟨ρ, rfl, h⟩
  | d :: ds, k, ρ, hb, h => by
    obtain ⟨ρ1, ρ2, e1, e2, h2⟩ := hb 0 d rfl ρ h
    obtain ⟨ρ', e3, h3⟩ := for_run P ds (k + 1) ρ2 (fun i d hd ρ hp => by
      have e : k + 1 + i = k + (i + 1) := by omega
      rw [e] at hp ⊢
      exact hb (i + 1) d (by simpa using hd) ρ hp) h2
    refine ⟨ρ', ?_, by rw [List.length_cons, show k + (ds.length + 1) = k + 1 + ds.length by omega]; exact h3⟩
    rw [forL_cons _ _ _ _ _ _ e1]
    rcases e2 with e2 | e2 <;> rw [e2] <;> exact e3
theorem gSet_at {i : Nat} {d : D} {ρ : ENV} (h : i < ρ.length) : gSet i d ρ = some (ρ.set i (some (.sh d))) := e_gSet i d ρ h
/-! ### xs[e] = d -/
def subK3 (i : Nat) (d : D) : D → ENV → R Fl := fun k ρ2 => match k, ρ2[i]? with
    | .int k, some (some (.ow (.lst ds))) => match ixN ds.length k with
      | some j => .ok .nx (ρ2.set i (some (.ow (.lst (ds.set j d)))))
      | none => .bot
    | _, _ => .bot
theorem e_subK0 (i : Nat) (di : ENV → R D) (d : D) (ρ : ENV) (ds : List D) (h : ρ[i]? = some (some (.ow (.lst ds)))) : subK i di d ρ = (di ρ).bind (subK3 i d) := by
  unfold subK
  rw [h]
  rfl
theorem e_subK3 (i : Nat) (k : Int) (d : D) (ρ : ENV) (ds : List D) (h : ρ[i]? = some (some (.ow (.lst ds)))) (hk : 0 ≤ k) (hl : k < ds.length) : subK3 i d (.int k) ρ = .ok .nx (ρ.set i (some (.ow (.lst (ds.set k.toNat d))))) := by
  unfold subK3
  rw [h]
  dsimp only [ixN]
  rw [if_pos hk, if_pos hl]
/-- list(x), fresh -/
def listFK : D → ENV → R M := fun x ρ1 => match x with
  | .lst ds => .ok (.lst ds) ρ1
  | .scr ds => .ok (.lst ds) ρ1
  | .tup ds => .ok (.lst ds) ρ1
  | _ => .bot
theorem e_ListF (da : ENV → R D) (ρ : ENV) : fListF da ρ = (da ρ).bind listFK := rfl
theorem e_listFT (ds : List D) (ρ : ENV) : listFK (.tup ds) ρ = .ok (.lst ds) ρ := rfl
theorem e_listFL (ds : List D) (ρ : ENV) : listFK (.lst ds) ρ = .ok (.lst ds) ρ := rfl
/-! ### texts compared -/
theorem shaped_str {x : Str} (h : PyData.strOk x = true) : SeqAt.shaped (D.str x).toPy = true := by simp [SeqAt.shaped, D.toPy, PyData.canLay0, PyData.depth, h]
theorem vEq_str (neg : Bool) {a b : Str} (ha : PyData.strOk a = true) (hb : PyData.strOk b = true) : vEq neg (.str a) (.str b) = some (.bl (if neg then !decide (a = b) else decide (a = b))) := by
  have e : PyData.eqv (D.str a).toPy (D.str b).toPy = decide (a = b) := by
    simp only [D.toPy, PyData.eqv]
    by_cases q : a = b
    · subst q; simp
    · simp [q]
  unfold vEq
  rw [if_pos ⟨shaped_str ha, shaped_str hb⟩, e]
theorem vEq_strT (neg : Bool) {a : Str} (ha : PyData.strOk a = true) : vEq neg (.str a) (.str a) = some (.bl (!neg)) := by rw [vEq_str neg ha ha]; cases neg <;> simp
theorem e_addS (a b : Str) (h : a.length + b.length ≤ sizeLine) : vAdd (.str a) (.str b) = some (.str (a ++ b)) := if_pos h
theorem e_ixS (z : Str) (i : Int) : vIxI (.str z) (.int i) = (L2.atI z.cps.toList i).map fun c => .str ⟨#[c]⟩ := rfl
theorem e_itS (z : Str) (ρ : ENV) : itK (.str z) ρ = .ok (signs z) ρ := rfl
theorem bools_f {α : Type} (f : α → Bool) : ∀ l : List α, bools (l.map fun i => D.bl (f i)) = some (l.map f)
  | [] => rfl
  | a :: l => by show (bools (l.map fun i => D.bl (f i))).map (f a :: ·) = _; rw [bools_f f l]; rfl
theorem all_f {α : Type} (f : α → Bool) (l : List α) : fAll [.lst (l.map fun i => D.bl (f i))] = some (.bl (l.all f)) := by
  show (bools _).map _ = _
  rw [bools_f]
  show some (D.bl ((l.map f).all id)) = _
  rw [List.all_map]
  rfl
/-- [te for sign in text] -/
theorem lc_text {ρ : ENV} {i : Nat} {te : ENV → R D} {di : ENV → R (List D)} {z : Str} (f : Nat → D) (hd : di ρ = .ok (signs z) ρ) (hi : ρ[i]? = some none) (h : ∀ n, te (ρ.set i (some (.sh (.str ⟨#[n]⟩)))) = .ok (f n) (ρ.set i (some (.sh (.str ⟨#[n]⟩))))) (hz : z.length ≤ sizeLine) :
    fLc di (gSet i) dYes te [i] ρ = .ok (.lst (z.cps.toList.map f)) ρ := by
  have := lc_map (te := te) (fun d => match d with | .str x => f (x.cps.toList.headD 0) | d => d) hd hi (fun d hd => by
    obtain ⟨n, hn, rfl⟩ := List.mem_map.mp hd
    exact h n) (by unfold signs; rw [List.length_map, Array.length_toList]; exact hz)
  rw [this]
  unfold signs
  rw [List.map_map]
  rfl
end Rf
set_option Elab.async false
set_option linter.all false
set_option maxRecDepth 100000
namespace L05
open PySem PySem.Spec L2 Rf
def FUEL : Nat := 1000000000
/-- which class stands under which -/
def subT (i j : Nat) : Option Bool := if i = 1 ∧ j = 1 then some true else if i = 1 ∧ j = 2 then some false else if i = 2 ∧ j = 1 then some false else if i = 2 ∧ j = 2 then some true else none
def io_Situation (c : Nat) : Option Bool := if c = 3 then some false else if c = 4 then some true else none
def io_Tongue (c : Nat) : Option Bool := if c = 3 then some true else if c = 4 then some false else none
abbrev g_LETTERS : D := .str "abcdefghijklmnopqrstuvwxyz"
/-- _law_hand(_law_script) -/
def b__law_hand : ENV → R Fl := sSeq (sAsg (dAdd (dB fLen (dCons (dVar 0) (dNil))) (dC (.int 17))) (gSet 1))
  (sSeq (sOwn (fLst (dNil)) 2)
  (sSeq (sFor (dItems (dVar 0)) (gSet 3) (sSeq (sAsg (dMod (dB fInt (dCons (dAdd (dMul (dVar 1) (dC (.int 1009))) (dB fInt (dCons (dVar 3) (dNil)))) (dNil))) (dC (.int 2147483629))) (gSet 1))
  (sApp 2 (dIf (dT (dCmp .ge (dVar 3) (dC (.int 0)))) (dB fInt (dCons (dVar 3) (dNil))) (dNeg (dB fInt (dCons (dVar 3) (dNil))))))))
  (sRetF (fLst (dCons (dVar 2) (dCons (dC (.int 0)) (dCons (dC (.int 0)) (dCons (dVar 1) (dNil)))))))))
def m__law_hand : List DV → FO := runF [] 4 b__law_hand
/-- _law_mixed(_law_number, _law_turn) -/
def b__law_mixed : ENV → R Fl := sSeq (sAsg (dMod (dB fInt (dCons (dAdd (dAdd (dMul (dVar 0) (dC (.int 48271))) (dMul (dVar 1) (dC (.int 7919)))) (dC (.int 12345))) (dNil))) (dC (.int 2147483647))) (gSet 2))
  (sSeq (sAsg (dMod (dB fInt (dCons (dAdd (dAdd (dMul (dVar 2) (dVar 2)) (dMul (dVar 1) (dC (.int 104729)))) (dDiv (dVar 2) (dC (.int 127)))) (dNil))) (dC (.int 2147483629))) (gSet 3))
  (sRet (dDiv (dB fInt (dCons (dMod (dB fInt (dCons (dAdd (dMul (dVar 3) (dC (.int 69621))) (dDiv (dVar 2) (dC (.int 3)))) (dNil))) (dC (.int 2147483587))) (dNil))) (dC (.int 8)))))
def m__law_mixed : List DV → FO := runF [] 4 b__law_mixed
/-- _law_take(_law_hand_here, _law_many) -/
def b__law_take : ENV → R Fl := sSeq (sIf (dAnd (dT (dCmp .eq (dIxO 0 (dC (.int 2))) (dC (.int 0)))) (dT (dCmp .lt (dIxO 0 (dC (.int 1))) (dB fLen (dCons (dIxO 0 (dC (.int 0))) (dNil)))))) (sSeq (sAsg (dIx (dIxO 0 (dC (.int 0))) (dIxO 0 (dC (.int 1)))) (gSet 2))
  (sSeq (sSub 0 (dAdd (dIxO 0 (dC (.int 1))) (dC (.int 1))) (dC (.int 1)))
  (sSeq (sIf (dT (dCmp .lt (dVar 2) (dPow (dC (.int 10)) (dC (.int 18))))) (sRet (dMod (dB fInt (dCons (dCall m__law_mixed (aVal (dMod (dB fInt (dCons (dVar 2) (dNil))) (dC (.int 2147483647))) (aVal (dIxO 0 (dC (.int 1))) (aNil)))) (dNil))) (dVar 1))) (sNil))
  (sSub 0 (dVar 2) (dC (.int 2)))))) (sNil))
  (sSeq (sIf (dT (dCmp .gt (dIxO 0 (dC (.int 2))) (dC (.int 0)))) (sSeq (sAsg (dIxO 0 (dC (.int 2))) (gSet 3))
  (sSeq (sSub 0 (dDiv (dB fInt (dCons (dVar 3) (dNil))) (dVar 1)) (dC (.int 2)))
  (sRet (dMod (dB fInt (dCons (dVar 3) (dNil))) (dVar 1))))) (sNil))
  (sSeq (sSub 0 (dMod (dB fInt (dCons (dAdd (dIxO 0 (dC (.int 3))) (dC (.int 1))) (dNil))) (dC (.int 2147483629))) (dC (.int 3)))
  (sRet (dMod (dB fInt (dCons (dCall m__law_mixed (aVal (dIxO 0 (dC (.int 3))) (aVal (dIxO 0 (dC (.int 1))) (aNil)))) (dNil))) (dVar 1)))))
def m__law_take : List DV → FO := runF [0] 4 b__law_take
/-- _law_name(_law_hand_here) -/
def b__law_name : ENV → R Fl := sSeq (sAsg (dC (.str "")) (gSet 1))
  (sSeq (sFor (dRng1 (dAdd (dC (.int 1)) (dCall m__law_take (aIo 0 (aVal (dC (.int 8)) (aNil)))))) (gSet 2) (sAsg (dAdd (dVar 1) (dIx (dC (.str "abcdefghijklmnopqrstuvwxyz")) (dCall m__law_take (aIo 0 (aVal (dC (.int 26)) (aNil)))))) (gSet 1)))
  (sRet (dVar 1)))
def m__law_name : List DV → FO := runF [0] 3 b__law_name
/-- _law_names(_law_hand_here, _law_many) -/
def b__law_names : ENV → R Fl := sSeq (sOwn (fLst (dNil)) 2)
  (sSeq (sFor (dRng1 (dVar 1)) (gSet 3) (sSeq (sAsg (dCall m__law_name (aIo 0 (aNil))) (gSet 4))
  (sSeq (sIf (dT (dInO false (dVar 4) 2)) (sAsg (dIx ((fun ρ => frz ((fLc (dItems (dLst (dCons (dC (.str "q")) (dCons (dC (.str "r")) (dCons (dC (.str "s")) (dCons (dC (.str "t")) (dNil))))))) (gSet 5) (dT (dInO true (dVar 5) 2)) (dVar 5) [5]) ρ))) (dC (.int 0))) (gSet 4)) (sNil))
  (sApp 2 (dVar 4)))))
  (sRet (dVar 2)))
def m__law_names : List DV → FO := runF [0] 6 b__law_names
/-- _law_world(_law_hand_here) -/
def b__law_world : ENV → R Fl := sRet (dLst (dCons (dCall m__law_names (aIo 0 (aVal (dC (.int 3)) (aNil)))) (dCons (dCall m__law_names (aIo 0 (aVal (dC (.int 2)) (aNil)))) (dNil))))
def m__law_world : List DV → FO := runF [0] 1 b__law_world
/-- Tongue___init__(self, person, you, today, here) -/
def b_Tongue___init__ : ENV → R Fl := sSeq (sFor (dItems (dTup (dCons (dVar 1) (dCons (dVar 2) (dCons (dVar 3) (dCons (dVar 4) (dNil))))))) (gSet 5) (sIf (dNot (dTru (dIs (isTy "bool") (dVar 5)))) (sRaise ⟨1, []⟩) (sNil)))
  (sSeq (sFld (fun c => c == 3) "shifts_person" 0 (dVar 1))
  (sSeq (sFld (fun c => c == 3) "shifts_you" 0 (dVar 2))
  (sSeq (sFld (fun c => c == 3) "shifts_today" 0 (dVar 3))
  (sSeq (sFld (fun c => c == 3) "shifts_here" 0 (dVar 4))
  (sFld (fun c => c == 3) "shifts" 0 (dTup (dCons (dVar 1) (dCons (dVar 2) (dCons (dVar 3) (dCons (dVar 4) (dNil)))))))))))
def m_Tongue___init__ : List DV → FO := runF [0] 6 b_Tongue___init__
/-- all_tongues() -/
def b_all_tongues : ENV → R Fl := sSeq (sOwn (fLst (dNil)) 0)
  (sSeq (sFor (dRng1 (dC (.int 16))) (gSet 1) (sApp 0 ((fun ρ => frz ((fMake 3 5 m_Tongue___init__ (dCons (dCmp .ge (dVar 1) (dC (.int 8))) (dCons (dCmp .eq (dMod (dDiv (dVar 1) (dC (.int 4))) (dC (.int 2))) (dC (.int 1))) (dCons (dCmp .eq (dMod (dDiv (dVar 1) (dC (.int 2))) (dC (.int 2))) (dC (.int 1))) (dCons (dCmp .eq (dMod (dVar 1) (dC (.int 2))) (dC (.int 1))) (dNil)))))) ρ)))))
  (sRet (dB fTuple (dCons (dVar 0) (dNil)))))
def m_all_tongues : List DV → FO := runF [] 2 b_all_tongues
/-- _law_tongue_tried(_law_shifts) -/
def b__law_tongue_tried : ENV → R Fl := sSeq (sAsg (dVar 0) (gSeq 4 (gsCons (gSet 1) (gsCons (gSet 2) (gsCons (gSet 3) (gsCons (gSet 4) (gsNil)))))))
  (sSeq (sTry subT (sAsg ((fun ρ => frz ((fMake 3 5 m_Tongue___init__ (dCons (dVar 1) (dCons (dVar 2) (dCons (dVar 3) (dCons (dVar 4) (dNil)))))) ρ))) (gSet 5)) 1 (sRet (dC (.str "refused"))))
  (sRet (dVar 5)))
def m__law_tongue_tried : List DV → FO := runF [] 6 b__law_tongue_tried
/-- _law_unlike(_law_told, _law_due_here) -/
def b__law_unlike : ENV → R Fl := sRet (dIf (dTru (dVar 1)) (dCmp .notB (dVar 0) (dC (.bl true))) (dCmp .notB (dVar 0) (dC (.bl false))))
def m__law_unlike : List DV → FO := runF [] 2 b__law_unlike
/-- Tongue___eq__(self, other) -/
def b_Tongue___eq__ : ENV → R Fl := sRet (dAndV (dIs (isOwn io_Tongue) (dVar 1)) (dCmp .eq (dFld (fun c => c == 3) "shifts" (dVar 0)) (dFld (fun c => c == 3) "shifts" (dVar 1))))
def m_Tongue___eq__ : List DV → FO := runF [] 2 b_Tongue___eq__
/-- Situation___eq__(self, other) -/
def b_Situation___eq__ : ENV → R Fl := sRet (dAndV (dIs (isOwn io_Situation) (dVar 1)) (dAndV (dCmp .eq (dFld (fun c => c == 4) "teller" (dVar 0)) (dFld (fun c => c == 4) "teller" (dVar 1))) (dAndV (dCmp .eq (dFld (fun c => c == 4) "hearer" (dVar 0)) (dFld (fun c => c == 4) "hearer" (dVar 1))) (dAndV (dCmp .eq (dFld (fun c => c == 4) "day" (dVar 0)) (dFld (fun c => c == 4) "day" (dVar 1))) (dCmp .eq (dFld (fun c => c == 4) "place" (dVar 0)) (dFld (fun c => c == 4) "place" (dVar 1)))))))
def m_Situation___eq__ : List DV → FO := runF [] 2 b_Situation___eq__
def t___eq__ : Nat → Option (List DV → FO) := fun c => match (fun j => if j = 3 then some m_Tongue___eq__ else none) c with | some F => some F | none => (fun j => if j = 4 then some m_Situation___eq__ else none) c
def eq_is (c : Nat) : Bool := c == 3 || c == 4
theorem eq_dom {c : Nat} {F : List DV → FO} (h : t___eq__ c = some F) : eq_is c = true := by
  by_cases h3 : c = 3
  · subst h3; rfl
  by_cases h4 : c = 4
  · subst h4; rfl
  unfold t___eq__ at h
  simp [h3, h4] at h
/-- _law_tongues_right(_law_hand_here) -/
def b__law_tongues_right : ENV → R Fl := sSeq (sAsg (dCall m_all_tongues aNil) (gSet 1))
  (sSeq (sIf (dOr (dNot (dTru (dIs (isTy "tuple") (dVar 1)))) (dT (dOp (vNeO t___eq__ eq_is) (dB fLen (dCons (dVar 1) (dNil))) (dC (.int 16))))) (sRet (dC (.bl false))) (sNil))
  (sSeq (sFor (dEnumT (dVar 1)) (gSeq 2 (gsCons (gSet 2) (gsCons (gSet 3) (gsNil)))) (sSeq (sAsg (dTup (dCons (dCmp .ge (dVar 2) (dC (.int 8))) (dCons (dOp (vEqO t___eq__ eq_is) (dMod (dB fInt (dCons (dDiv (dVar 2) (dC (.int 4))) (dNil))) (dC (.int 2))) (dC (.int 1))) (dCons (dOp (vEqO t___eq__ eq_is) (dMod (dB fInt (dCons (dDiv (dVar 2) (dC (.int 2))) (dNil))) (dC (.int 2))) (dC (.int 1))) (dCons (dOp (vEqO t___eq__ eq_is) (dMod (dB fInt (dCons (dVar 2) (dNil))) (dC (.int 2))) (dC (.int 1))) (dNil)))))) (gSet 4))
  (sSeq (sAsg (dTup (dCons (dFld (fun c => c == 3) "shifts_person" (dVar 3)) (dCons (dFld (fun c => c == 3) "shifts_you" (dVar 3)) (dCons (dFld (fun c => c == 3) "shifts_today" (dVar 3)) (dCons (dFld (fun c => c == 3) "shifts_here" (dVar 3)) (dNil)))))) (gSet 5))
  (sSeq (sIf (dOr (dT (dOp (vNeO t___eq__ eq_is) (dVar 5) (dVar 4))) (dOr (dT (dOp (vNeO t___eq__ eq_is) (dFld (fun c => c == 3) "shifts" (dVar 3)) (dVar 4))) (dOr (dNot (dTru (dIs (isTy "tuple") (dFld (fun c => c == 3) "shifts" (dVar 3))))) (dNot (dTru (dB fAll (dCons ((fun ρ => frz ((fLc (dItems (dAdd (dVar 5) (dFld (fun c => c == 3) "shifts" (dVar 3)))) (gSet 9) (dYes) (dIs (isTy "bool") (dVar 9)) [9]) ρ))) (dNil)))))))) (sRet (dC (.bl false))) (sNil))
  (sSeq (sFor (dEnumT (dVar 1)) (gSeq 2 (gsCons (gSet 6) (gsCons (gSet 7) (gsNil)))) (sIf (dOr (dTru (dCall m__law_unlike (aVal (dOp (vEqO t___eq__ eq_is) (dVar 3) (dVar 7)) (aVal (dOp (vEqO t___eq__ eq_is) (dVar 6) (dVar 2)) (aNil))))) (dTru (dCall m__law_unlike (aVal (dOp (vNeO t___eq__ eq_is) (dVar 3) (dVar 7)) (aVal (dOp (vNeO t___eq__ eq_is) (dVar 6) (dVar 2)) (aNil)))))) (sRet (dC (.bl false))) (sNil)))
  (sSeq (sIf (dOr (dT (dOp (vNeO t___eq__ eq_is) (dCall m__law_tongue_tried (aVal (dVar 4) (aNil))) (dVar 3))) (dT (dOp (vEqO t___eq__ eq_is) (dVar 3) (dVar 4)))) (sRet (dC (.bl false))) (sNil))
  (sSeq (sOwn (fListF (dVar 4)) 8)
  (sSeq (sSub 8 (dIx (dLst (dCons (dC (.int 0)) (dCons (dC (.int 1)) (dCons (dC .non) (dCons (dC (.str "True")) (dCons (dTup (dCons (dC (.bl true)) (dNil))) (dCons (dNeg (dC (.int 1))) (dNil)))))))) (dCall m__law_take (aIo 0 (aVal (dC (.int 6)) (aNil))))) (dCall m__law_take (aIo 0 (aVal (dC (.int 4)) (aNil)))))
  (sIf (dT (dOp (vNeO t___eq__ eq_is) (dCall m__law_tongue_tried (aVal (dVar 8) (aNil))) (dC (.str "refused")))) (sRet (dC (.bl false))) (sNil))))))))))
  (sRet (dC (.bl true)))))
def m__law_tongues_right : List DV → FO := runF [0] 10 b__law_tongues_right
/-- _law_date(_law_hand_here) -/
def b__law_date : ENV → R Fl := sRet (dIf (dT (dCmp .eq (dCall m__law_take (aIo 0 (aVal (dC (.int 8)) (aNil)))) (dC (.int 0)))) (dSub (dCall m__law_take (aIo 0 (aVal (dMul (dC (.int 2)) (dPow (dC (.int 10)) (dC (.int 12)))) (aNil)))) (dPow (dC (.int 10)) (dC (.int 12)))) (dSub (dCall m__law_take (aIo 0 (aVal (dC (.int 17)) (aNil)))) (dC (.int 3))))
def m__law_date : List DV → FO := runF [0] 1 b__law_date
/-- _law_situation(_law_hand_here, _law_world_here) -/
def b__law_situation : ENV → R Fl := sSeq (sAsg (dIx (dVar 1) (dC (.int 0))) (gSet 2))
  (sRet (dTup (dCons (dIx (dVar 2) (dCall m__law_take (aIo 0 (aVal (dB fLen (dCons (dVar 2) (dNil))) (aNil))))) (dCons (dIx (dVar 2) (dCall m__law_take (aIo 0 (aVal (dB fLen (dCons (dVar 2) (dNil))) (aNil))))) (dCons (dCall m__law_date (aIo 0 (aNil))) (dCons (dIx (dIx (dVar 1) (dC (.int 1))) (dCall m__law_take (aIo 0 (aVal (dB fLen (dCons (dIx (dVar 1) (dC (.int 1))) (dNil))) (aNil))))) (dNil)))))))
def m__law_situation : List DV → FO := runF [0] 3 b__law_situation
/-- is_name(thing) -/
def b_is_name : ENV → R Fl := sSeq (sIf (dOr (dNot (dTru (dIs (isTy "str") (dVar 0)))) (dNot (dT (dChain (CK.f .le) (CK.f .le) (dC (.int 1)) (dB fLen (dCons (dVar 0) (dNil))) (dC (.int 8)))))) (sRet (dC (.bl false))) (sNil))
  (sRet (dB fAll (dCons ((fun ρ => frz ((fLc (dItems (dVar 0)) (gSet 1) (dYes) (dCmp .in_ (dVar 1) (dC g_LETTERS)) [1]) ρ))) (dNil))))
def m_is_name : List DV → FO := runF [] 2 b_is_name
/-- is_whole(thing) -/
def b_is_whole : ENV → R Fl := sRet (dAndV (dIs (isTy "int") (dVar 0)) (dNotV (dIs (isTy "bool") (dVar 0))))
def m_is_whole : List DV → FO := runF [] 1 b_is_whole
/-- Situation___init__(self, teller, hearer, day, place) -/
def b_Situation___init__ : ENV → R Fl := sSeq (sIf (dNot (dTru (dCall m_is_name (aVal (dVar 1) (aNil))))) (sRaiseF 2 ["what"] (dCons (dC (.str "teller")) (dNil))) (sNil))
  (sSeq (sIf (dNot (dTru (dCall m_is_name (aVal (dVar 2) (aNil))))) (sRaiseF 2 ["what"] (dCons (dC (.str "hearer")) (dNil))) (sNil))
  (sSeq (sIf (dNot (dTru (dCall m_is_whole (aVal (dVar 3) (aNil))))) (sRaiseF 2 ["what"] (dCons (dC (.str "day")) (dNil))) (sNil))
  (sSeq (sIf (dNot (dTru (dCall m_is_name (aVal (dVar 4) (aNil))))) (sRaiseF 2 ["what"] (dCons (dC (.str "place")) (dNil))) (sNil))
  (sSeq (sFld (fun c => c == 4) "teller" 0 (dVar 1))
  (sSeq (sFld (fun c => c == 4) "hearer" 0 (dVar 2))
  (sSeq (sFld (fun c => c == 4) "day" 0 (dVar 3))
  (sFld (fun c => c == 4) "place" 0 (dVar 4))))))))
def m_Situation___init__ : List DV → FO := runF [0] 5 b_Situation___init__
/-- _law_tried(_law_args) -/
def b__law_tried : ENV → R Fl := sSeq (sAsg (dVar 0) (gSeq 4 (gsCons (gSet 1) (gsCons (gSet 2) (gsCons (gSet 3) (gsCons (gSet 4) (gsNil)))))))
  (sSeq (sTryAs subT (sAsg ((fun ρ => frz ((fMake 4 5 m_Situation___init__ (dCons (dVar 1) (dCons (dVar 2) (dCons (dVar 3) (dCons (dVar 4) (dNil)))))) ρ))) (gSet 5)) 2 6 (fun ex_ => sRet (dXf (fun c => c == 2) "what" ex_)))
  (sRet (dVar 5)))
def m__law_tried : List DV → FO := runF [] 7 b__law_tried
/-- Situation_moved(self, days) -/
def b_Situation_moved : ENV → R Fl := sSeq (sIf (dNot (dTru (dCall m_is_whole (aVal (dVar 1) (aNil))))) (sRaiseF 2 ["what"] (dCons (dC (.str "day")) (dNil))) (sNil))
  (sRet ((fun ρ => frz ((fMake 4 5 m_Situation___init__ (dCons (dFld (fun c => c == 4) "teller" (dVar 0)) (dCons (dFld (fun c => c == 4) "hearer" (dVar 0)) (dCons (dAdd (dFld (fun c => c == 4) "day" (dVar 0)) (dVar 1)) (dCons (dFld (fun c => c == 4) "place" (dVar 0)) (dNil)))))) ρ))))
def m_Situation_moved : List DV → FO := runF [] 2 b_Situation_moved
def t_moved : Nat → Option (List DV → FO) := fun j => if j = 4 then some m_Situation_moved else none
/-- _law_moved(_law_situation_here, _law_days) -/
def b__law_moved : ENV → R Fl := sSeq (sTryAs subT (sAsg (dMet t_moved "moved" (dVar 0) (aVal (dVar 1) (aNil))) (gSet 2)) 2 3 (fun ex_ => sRet (dXf (fun c => c == 2) "what" ex_)))
  (sRet (dVar 2))
def m__law_moved : List DV → FO := runF [] 4 b__law_moved
/-- exchange_name(name, one, other) -/
def b_exchange_name : ENV → R Fl := sSeq (sIf (dOr (dNot (dTru (dCall m_is_name (aVal (dVar 1) (aNil))))) (dNot (dTru (dCall m_is_name (aVal (dVar 2) (aNil)))))) (sRaiseF 2 ["what"] (dCons (dC (.str "name")) (dNil))) (sNil))
  (sSeq (sIf (dT (dCmp .eq (dVar 0) (dVar 1))) (sRet (dVar 2)) (sNil))
  (sRet (dIf (dT (dCmp .eq (dVar 0) (dVar 2))) (dVar 1) (dVar 0))))
def m_exchange_name : List DV → FO := runF [] 3 b_exchange_name
/-- Situation_exchanged(self, one, other) -/
def b_Situation_exchanged : ENV → R Fl := sRet ((fun ρ => frz ((fMake 4 5 m_Situation___init__ (dCons (dCall m_exchange_name (aVal (dFld (fun c => c == 4) "teller" (dVar 0)) (aVal (dVar 1) (aVal (dVar 2) (aNil))))) (dCons (dCall m_exchange_name (aVal (dFld (fun c => c == 4) "hearer" (dVar 0)) (aVal (dVar 1) (aVal (dVar 2) (aNil))))) (dCons (dFld (fun c => c == 4) "day" (dVar 0)) (dCons (dFld (fun c => c == 4) "place" (dVar 0)) (dNil)))))) ρ)))
def m_Situation_exchanged : List DV → FO := runF [] 3 b_Situation_exchanged
def t_exchanged : Nat → Option (List DV → FO) := fun j => if j = 4 then some m_Situation_exchanged else none
/-- _law_exchanged(_law_situation_here, _law_one, _law_other_here) -/
def b__law_exchanged : ENV → R Fl := sSeq (sTryAs subT (sAsg (dMet t_exchanged "exchanged" (dVar 0) (aVal (dVar 1) (aVal (dVar 2) (aNil)))) (gSet 3)) 2 4 (fun ex_ => sRet (dXf (fun c => c == 2) "what" ex_)))
  (sRet (dVar 3))
def m__law_exchanged : List DV → FO := runF [] 5 b__law_exchanged
/-- _law_whole(_law_thing) -/
def b__law_whole : ENV → R Fl := sRet (dAndV (dIs (isTy "int") (dVar 0)) (dNotV (dIs (isTy "bool") (dVar 0))))
def m__law_whole : List DV → FO := runF [] 1 b__law_whole
/-- _law_letters(_law_thing) -/
def b__law_letters : ENV → R Fl := sRet (dAndV (dIs (isTy "str") (dVar 0)) (dAndV (dChain (CK.f .lt) (CK.f .lt) (dC (.int 0)) (dB fLen (dCons (dVar 0) (dNil))) (dC (.int 9))) (dB fAll (dCons ((fun ρ => frz ((fLc (dItems (dVar 0)) (gSet 1) (dYes) (dCmp .in_ (dVar 1) (dC (.str "abcdefghijklmnopqrstuvwxyz"))) [1]) ρ))) (dNil)))))
def m__law_letters : List DV → FO := runF [] 2 b__law_letters
/-- _law_due(_law_args) -/
def b__law_due : ENV → R Fl := sSeq (sFor (dEnumT (dLst (dCons (dC (.str "teller")) (dCons (dC (.str "hearer")) (dCons (dC (.str "day")) (dCons (dC (.str "place")) (dNil))))))) (gSeq 2 (gsCons (gSet 1) (gsCons (gSet 2) (gsNil)))) (sIf (dNot (dIfB (dT (dCmp .eq (dVar 1) (dC (.int 2)))) (dTru (dCall m__law_whole (aVal (dIx (dVar 0) (dVar 1)) (aNil)))) (dTru (dCall m__law_letters (aVal (dIx (dVar 0) (dVar 1)) (aNil)))))) (sRet (dVar 2)) (sNil)))
  (sRet (dC .non))
def m__law_due : List DV → FO := runF [] 3 b__law_due
/-- _law_parts(_law_situation_here) -/
def b__law_parts : ENV → R Fl := sRet (dTup (dCons (dFld (fun c => c == 4) "teller" (dVar 0)) (dCons (dFld (fun c => c == 4) "hearer" (dVar 0)) (dCons (dFld (fun c => c == 4) "day" (dVar 0)) (dCons (dFld (fun c => c == 4) "place" (dVar 0)) (dNil))))))
def m__law_parts : List DV → FO := runF [] 1 b__law_parts
/-- _law_other(_law_name_here, _law_one, _law_other_here) -/
def b__law_other : ENV → R Fl := sSeq (sIf (dT (dCmp .eq (dVar 0) (dVar 1))) (sRet (dVar 2)) (sNil))
  (sRet (dIf (dT (dCmp .eq (dVar 0) (dVar 2))) (dVar 1) (dVar 0)))
def m__law_other : List DV → FO := runF [] 3 b__law_other
/-- _law_name_exchanged(_law_name_here, _law_one, _law_other_here) -/
def b__law_name_exchanged : ENV → R Fl := sSeq (sTryAs subT (sAsg (dCall m_exchange_name (aVal (dVar 0) (aVal (dVar 1) (aVal (dVar 2) (aNil))))) (gSet 3)) 2 4 (fun ex_ => sRet (dLst (dCons (dC (.str "no")) (dCons (dXf (fun c => c == 2) "what" ex_) (dNil))))))
  (sRet (dVar 3))
def m__law_name_exchanged : List DV → FO := runF [] 5 b__law_name_exchanged
/-- law(_law_script) -/
def b_law : ENV → R Fl := sSeq (sOwn (fCall m__law_hand (aVal (dVar 0) (aNil))) 1)
  (sSeq (sIf (dNot (dTru (dCall m__law_tongues_right (aIo 1 (aNil))))) (sRet (dC (.bl false))) (sNil))
  (sSeq (sAsg (dCall m__law_world (aIo 1 (aNil))) (gSet 2))
  (sSeq (sFor (dRng1 (dC (.int 5))) (gSet 3) (sSeq (sAsg (dCall m__law_situation (aIo 1 (aVal (dVar 2) (aNil)))) (gSet 4))
  (sSeq (sIf (dT (dOp (vEqO t___eq__ eq_is) (dVar 3) (dC (.int 1)))) (sAsg (dTup (dCons (dCall m__law_name (aIo 1 (aNil))) (dCons (dCall m__law_name (aIo 1 (aNil))) (dCons (dSub (dCall m__law_take (aIo 1 (aVal (dMul (dC (.int 2)) (dPow (dC (.int 10)) (dC (.int 40)))) (aNil)))) (dPow (dC (.int 10)) (dC (.int 40)))) (dCons (dCall m__law_name (aIo 1 (aNil))) (dNil)))))) (gSet 4)) (sNil))
  (sSeq (sAsg (dCall m__law_tried (aVal (dVar 4) (aNil))) (gSet 5))
  (sSeq (sIf (dOr (dNot (dTru (dIs (isOwn io_Situation) (dVar 5)))) (dOr (dT (dOp (vNeO t___eq__ eq_is) (dCall m__law_parts (aVal (dVar 5) (aNil))) (dB fTuple (dCons (dVar 4) (dNil))))) (dNot (dTru (dCall m__law_whole (aVal (dFld (fun c => c == 4) "day" (dVar 5)) (aNil))))))) (sRet (dC (.bl false))) (sNil))
  (sSeq (sFor (dRng1 (dC (.int 3))) (gSet 6) (sSeq (sOwn (fListF (dVar 4)) 7)
  (sSeq (sFor (dItems (dLst (dCons (dCall m__law_take (aIo 1 (aVal (dC (.int 4)) (aNil)))) (dCons (dCall m__law_take (aIo 1 (aVal (dC (.int 4)) (aNil)))) (dNil))))) (gSet 8) (sSub 7 (dIx (dLst (dCons (dC .non) (dCons (dC (.bl true)) (dCons (dC (.str "")) (dCons (dAdd (dIx (dVar 4) (dC (.int 0))) (dC (.str "abcdefgh"))) (dCons (dCall m__law_name (aIo 1 (aNil))) (dCons (dC (.int 7)) (dCons (dAdd (dIx (dVar 4) (dC (.int 1))) (dC (.str "A"))) (dCons (dLst (dCons (dIx (dVar 4) (dC (.int 0))) (dNil))) (dCons (dSub (dC (.int 1)) (dIx (dVar 4) (dC (.int 2)))) (dNil))))))))))) (dCall m__law_take (aIo 1 (aVal (dC (.int 9)) (aNil))))) (dVar 8)))
  (sSeq (sAsg (dCall m__law_due (aVal (dVar 7) (aNil))) (gSet 9))
  (sSeq (sAsg (dCall m__law_tried (aVal (dVar 7) (aNil))) (gSet 10))
  (sIf (dT (dCmp .notN (dVar 9) (dC .non))) (sIf (dT (dOp (vNeO t___eq__ eq_is) (dVar 10) (dVar 9))) (sRet (dC (.bl false))) (sNil)) (sIf (dOr (dNot (dTru (dIs (isOwn io_Situation) (dVar 10)))) (dOr (dT (dOp (vNeO t___eq__ eq_is) (dCall m__law_parts (aVal (dVar 10) (aNil))) (dB fTuple (dCons (dVar 7) (dNil))))) (dTru (dCall m__law_unlike (aVal (dOp (vEqO t___eq__ eq_is) (dVar 10) (dVar 5)) (aVal (dOp (vEqO t___eq__ eq_is) (dB fTuple (dCons (dVar 7) (dNil))) (dB fTuple (dCons (dVar 4) (dNil)))) (aNil))))))) (sRet (dC (.bl false))) (sNil))))))))
  (sSeq (sAsg (dIx (dLst (dCons (dSub (dCall m__law_take (aIo 1 (aVal (dC (.int 41)) (aNil)))) (dC (.int 20))) (dCons (dSub (dCall m__law_take (aIo 1 (aVal (dMul (dC (.int 2)) (dPow (dC (.int 10)) (dC (.int 40)))) (aNil)))) (dPow (dC (.int 10)) (dC (.int 40)))) (dCons (dC (.int 0)) (dNil))))) (dCall m__law_take (aIo 1 (aVal (dC (.int 3)) (aNil))))) (gSet 11))
  (sSeq (sAsg (dCall m__law_moved (aVal (dVar 5) (aVal (dVar 11) (aNil)))) (gSet 12))
  (sSeq (sIf (dOr (dT (dOp (vNeO t___eq__ eq_is) (dCall m__law_parts (aVal (dVar 12) (aNil))) (dTup (dCons (dIx (dVar 4) (dC (.int 0))) (dCons (dIx (dVar 4) (dC (.int 1))) (dCons (dAdd (dIx (dVar 4) (dC (.int 2))) (dVar 11)) (dCons (dIx (dVar 4) (dC (.int 3))) (dNil)))))))) (dT (dOp (vNeO t___eq__ eq_is) (dCall m__law_moved (aVal (dVar 12) (aVal (dNeg (dVar 11)) (aNil)))) (dVar 5)))) (sRet (dC (.bl false))) (sNil))
  (sSeq (sIf (dT (dOp (vNeO t___eq__ eq_is) (dCall m__law_moved (aVal (dVar 5) (aVal (dIx (dLst (dCons (dC .non) (dCons (dC (.bl true)) (dCons (dC (.str "1")) (dCons (dTup (dCons (dC (.int 1)) (dNil))) (dNil)))))) (dCall m__law_take (aIo 1 (aVal (dC (.int 4)) (aNil))))) (aNil)))) (dC (.str "day")))) (sRet (dC (.bl false))) (sNil))
  (sSeq (sAsg (dIx (dAdd (dB fList (dCons (dSl (dVar 4) (dNoPart) (dPart (dC (.int 2)))) (dNil))) (dB fList (dCons (dIx (dVar 2) (dC (.int 0))) (dNil)))) (dCall m__law_take (aIo 1 (aVal (dC (.int 5)) (aNil))))) (gSet 13))
  (sSeq (sAsg (dIx (dAdd (dB fList (dCons (dSl (dVar 4) (dNoPart) (dPart (dC (.int 2)))) (dNil))) (dLst (dCons (dCall m__law_name (aIo 1 (aNil))) (dNil)))) (dCall m__law_take (aIo 1 (aVal (dC (.int 3)) (aNil))))) (gSet 14))
  (sSeq (sAsg (dCall m__law_exchanged (aVal (dVar 5) (aVal (dVar 13) (aVal (dVar 14) (aNil))))) (gSet 10))
  (sSeq (sIf (dT (dOp (vNeO t___eq__ eq_is) (dCall m__law_parts (aVal (dVar 10) (aNil))) (dTup (dCons (dCall m__law_other (aVal (dIx (dVar 4) (dC (.int 0))) (aVal (dVar 13) (aVal (dVar 14) (aNil))))) (dCons (dCall m__law_other (aVal (dIx (dVar 4) (dC (.int 1))) (aVal (dVar 13) (aVal (dVar 14) (aNil))))) (dCons (dIx (dVar 4) (dC (.int 2))) (dCons (dIx (dVar 4) (dC (.int 3))) (dNil)))))))) (sRet (dC (.bl false))) (sNil))
  (sSeq (sIf (dOr (dT (dOp (vNeO t___eq__ eq_is) (dCall m__law_exchanged (aVal (dVar 10) (aVal (dVar 13) (aVal (dVar 14) (aNil))))) (dVar 5))) (dOr (dT (dOp (vNeO t___eq__ eq_is) (dCall m__law_exchanged (aVal (dVar 5) (aVal (dVar 14) (aVal (dVar 13) (aNil))))) (dVar 10))) (dT (dOp (vNeO t___eq__ eq_is) (dCall m__law_parts (aVal (dVar 5) (aNil))) (dB fTuple (dCons (dVar 4) (dNil))))))) (sRet (dC (.bl false))) (sNil))
  (sSeq (sFor (dItems (dLst (dCons (dVar 13) (dCons (dVar 14) (dCons (dCall m__law_name (aIo 1 (aNil))) (dCons (dIx (dVar 4) (dC (.int 0))) (dNil))))))) (gSet 15) (sIf (dT (dOp (vNeO t___eq__ eq_is) (dCall m__law_name_exchanged (aVal (dVar 15) (aVal (dVar 13) (aVal (dVar 14) (aNil))))) (dCall m__law_other (aVal (dVar 15) (aVal (dVar 13) (aVal (dVar 14) (aNil))))))) (sRet (dC (.bl false))) (sNil)))
  (sSeq (sAsg (dIx (dLst (dCons (dC .non) (dCons (dC (.str "")) (dCons (dAdd (dVar 13) (dC (.str "abcdefgh"))) (dCons (dC (.int 3)) (dCons (dC (.str "Ann")) (dCons (dC (.bl true)) (dNil)))))))) (dCall m__law_take (aIo 1 (aVal (dC (.int 6)) (aNil))))) (gSet 16))
  (sFor (dItems (dLst (dCons (dTup (dCons (dVar 16) (dCons (dVar 14) (dNil)))) (dCons (dTup (dCons (dVar 13) (dCons (dVar 16) (dNil)))) (dCons (dTup (dCons (dVar 16) (dCons (dVar 16) (dNil)))) (dNil)))))) (gSet 17) (sIf (dOr (dT (dOp (vNeO t___eq__ eq_is) (dCall m__law_exchanged (aVal (dVar 5) (aVal (dIx (dVar 17) (dC (.int 0))) (aVal (dIx (dVar 17) (dC (.int 1))) (aNil))))) (dC (.str "name")))) (dT (dOp (vNeO t___eq__ eq_is) (dCall m__law_name_exchanged (aVal (dVar 13) (aVal (dIx (dVar 17) (dC (.int 0))) (aVal (dIx (dVar 17) (dC (.int 1))) (aNil))))) (dLst (dCons (dC (.str "no")) (dCons (dC (.str "name")) (dNil))))))) (sRet (dC (.bl false))) (sNil))))))))))))))))))))
  (sRet (dC (.bl true))))))
def m_law : List DV → FO := runF [] 18 b_law
end L05
set_option Elab.async false
set_option linter.all false
set_option maxRecDepth 100000
namespace L05
open PySem L2 Rf
/-! ### the hand -/
def hnd (cs : List Int) (a b t : Int) : M := .lst [.lst (cs.map D.int), .int a, .int b, .int t]
structure HandOk (cs : List Int) (a b t : Int) : Prop where
  len : cs.length ≤ 63
  pos : ∀ c ∈ cs, 0 ≤ c
  a0 : 0 ≤ a
  al : a ≤ cs.length
  b0 : 0 ≤ b
  t0 : 0 ≤ t
  tl : t < 2147483629
def Good (m : M) : Prop := ∃ cs a b t, m = hnd cs a b t ∧ HandOk cs a b t
def mixN (n t : Int) : Int :=
  let once := (n * 48271 + t * 7919 + 12345) % 2147483647
  let twice := (once * once + t * 104729 + once / 127) % 2147483629
  ((twice * 69621 + once / 3) % 2147483587) / 8
theorem cMul_r {i j : Int} (h : j.natAbs < 2 ^ 64) : cMul i j = true := by unfold cMul; simp only [h, decide_true, Bool.or_true, Bool.true_or]
theorem cMul_l {i j : Int} (h : i.natAbs < 2 ^ 64) : cMul i j = true := by unfold cMul; simp only [h, decide_true, Bool.or_true, Bool.true_or]
theorem cMod_p {i j : Int} (h : 0 < j) : cMod i j = true := by unfold cMod; exact decide_eq_true h
theorem cDiv_p {i j : Int} (h : 0 < j) (h9 : j.natAbs.log2 < 9000) : cDiv i j = true := by unfold cDiv; simp only [h, h9, decide_true, Bool.and_self]
theorem mixed_eq (n t : Int) : m__law_mixed [.sh (.int n), .sh (.int t)] = .ok (.sh (.int (mixN n t))) [] := by
  have h0 := Int.emod_nonneg (n * 48271 + t * 7919 + 12345) (show (2147483647 : Int) ≠ 0 by decide)
  have h1 := Int.emod_lt_of_pos (n * 48271 + t * 7919 + 12345) (show (0 : Int) < 2147483647 by decide)
  have c1 : ∀ i : Int, cMul i 48271 = true := fun i => cMul_r (by decide)
  have c2 : ∀ i : Int, cMul i 7919 = true := fun i => cMul_r (by decide)
  have c3 : ∀ i : Int, cMul i 104729 = true := fun i => cMul_r (by decide)
  have c4 : ∀ i : Int, cMul i 69621 = true := fun i => cMul_r (by decide)
  have c5 : cMul ((n * 48271 + t * 7919 + 12345) % 2147483647) ((n * 48271 + t * 7919 + 12345) % 2147483647) = true := cMul_r (by omega)
  have m1 : ∀ i : Int, cMod i 2147483647 = true := fun i => rfl
  have m2 : ∀ i : Int, cMod i 2147483629 = true := fun i => rfl
  have m3 : ∀ i : Int, cMod i 2147483587 = true := fun i => rfl
  have v1 : ∀ i : Int, cDiv i 127 = true := fun i => cDiv_p (by decide) (by decide)
  have v2 : ∀ i : Int, cDiv i 3 = true := fun i => cDiv_p (by decide) (by decide)
  have v3 : ∀ i : Int, cDiv i 8 = true := fun i => cDiv_p (by decide) (by decide)
  unfold m__law_mixed
  refine (e_run [] 4 _ _ rfl).trans ?_
  unfold b__law_mixed
  simp only [startE, List.map, List.length, List.replicate, e_Seq, e_Asg, e_Ret, e_RetF, e_Expr, e_exprK, e_op, e_op2, e_op1, e_un, e_is, e_B, e_bK, e_Cons, e_consK, e_consK2, e_Nil, e_var, e_C, e_bind, e_bindX, e_bindB, e_lookS, e_lookO, M.toD, e_of, e_asgK, e_gSet, e_stK, e_sqN, e_sqR, e_sqB, e_sqC, e_sNil, e_retK, e_retFK, e_add, e_vI, e_neg, e_fInt, e_fIntB, e_sIf, e_sifT, e_sifF, e_T, e_toB, e_Tru, e_truB, e_And, e_Or, e_andT, e_andF, e_orT, e_orF, e_Not, e_notK, e_AndV, e_OrV, e_andVT, e_andVF, e_orVT, e_orVF, e_NotV, e_notVK, e_If, e_ifT, e_ifF, e_Tup, e_Lst, e_LstF, e_tup0, e_lst0, e_lstF0, e_eqI, e_neI, e_ltI, e_leI, e_gtI, e_geI, e_lenL, e_lenT, e_lenR, e_lenS, e_ixL, e_ixT, at0, at1, at2, at3, e_tupL, e_tupT, e_lstT, e_Own, e_ownK, e_Sub, e_For, e_Items, e_itL, e_itT, e_itR, e_Call, e_CallF, e_aNil, e_aVal, e_aVK, e_aVK2, step0, step1, step2, step3, out0, out1, out2, out3, outX1, outX2, outO1, outO2, outO3, e_onSh, e_onOw, decide_true, decide_false, Bool.not_true, Bool.not_false, List.cons_append, List.nil_append, List.getElem?_cons_zero, List.getElem?_cons_succ, List.set_cons_zero, List.set_cons_succ, Nat.reduceLT, Nat.reduceAdd, Nat.reduceSub, Option.map_some, finF, outsE, e_frz, d_rng7, e_forK, e_tnN, e_tnC, e_tnB, e_tnR, e_whT, e_whF, e_Raise, e_Par, e_parK, e_parK2, e_augK, e_Ch, e_chK1, e_chK2, e_chT, e_chF, e_Try, e_tryO, e_tru, e_While, e_abs, e_max2, e_min2, e_gSq2, e_tup1, e_lst1, e_tup2, e_lst2, e_tup3, e_lst3, e_tup4, e_lst4, e_tup5, e_lst5, e_tup6, e_lst6, e_tup7, e_lst7, e_tup8, e_lst8, e_vIc, c1, c2, c3, c4, c5, m1, m2, m3, v1, v2, v3, mixN]
/-- which way a number is taken -/
theorem take_ok {m : M} {n : Int} (hm : Good m) (hn : 0 < n) (h9 : n.natAbs.log2 < 9000) : ∃ r m', m__law_take [.ow m, .sh (.int n)] = .ok (.sh (.int r)) [m'] ∧ Good m' ∧ 0 ≤ r ∧ r < n := by
  obtain ⟨cs, a, b, t, rfl, H⟩ := hm
  have hmod : ∀ x : Int, 0 ≤ x % n ∧ x % n < n := fun x => ⟨Int.emod_nonneg x (by omega), Int.emod_lt_of_pos x hn⟩
  have c1 : ∀ i : Int, cMod i n = true := fun i => cMod_p hn
  have c2 : ∀ i : Int, cDiv i n = true := fun i => cDiv_p hn h9
  have m1 : ∀ i : Int, cMod i 2147483647 = true := fun i => rfl
  have m2 : ∀ i : Int, cMod i 2147483629 = true := fun i => rfl
  have p1 : cPow 10 18 = true := by decide
  have hb0 := H.b0
  by_cases hb : b = 0
  · subst hb
    by_cases ha : a < (cs.length : Int)
    · have hal : a.toNat < cs.length := by have := H.a0; omega
      have hc : L2.atI (cs.map D.int) a = some (.int (cs[a.toNat])) := atN H.a0 (by rw [List.getElem?_map, List.getElem?_eq_getElem hal]; rfl)
      have hcp : 0 ≤ cs[a.toNat] := H.pos _ (List.getElem_mem hal)
      generalize hcv : cs[a.toNat] = c at hc hcp
      have hae : a < ((cs.map D.int).length : Int) := by rw [List.length_map]; exact ha
      have H1 : HandOk cs (a + 1) 0 t := ⟨H.len, H.pos, by have := H.a0; omega, by omega, by omega, H.t0, H.tl⟩
      by_cases h18 : c < 10 ^ 18
      · refine ⟨mixN (c % 2147483647) (a + 1) % n, hnd cs (a + 1) 0 t, ?_, ⟨cs, a + 1, 0, t, rfl, H1⟩, (hmod _).1, (hmod _).2⟩
        unfold m__law_take
        refine (e_run [0] 4 _ _ rfl).trans ?_
        unfold b__law_take
        simp only [startE, List.map, List.length, List.replicate, e_Seq, e_Asg, e_Ret, e_RetF, e_Expr, e_exprK, e_op, e_op2, e_op1, e_un, e_is, e_B, e_bK, e_Cons, e_consK, e_consK2, e_Nil, e_var, e_C, e_bind, e_bindX, e_bindB, e_lookS, e_lookO, M.toD, e_of, e_asgK, e_gSet, e_stK, e_sqN, e_sqR, e_sqB, e_sqC, e_sNil, e_retK, e_retFK, e_add, e_vI, e_neg, e_fInt, e_fIntB, e_sIf, e_sifT, e_sifF, e_T, e_toB, e_Tru, e_truB, e_And, e_Or, e_andT, e_andF, e_orT, e_orF, e_Not, e_notK, e_AndV, e_OrV, e_andVT, e_andVF, e_orVT, e_orVF, e_NotV, e_notVK, e_If, e_ifT, e_ifF, e_Tup, e_Lst, e_LstF, e_tup0, e_lst0, e_lstF0, e_eqI, e_neI, e_ltI, e_leI, e_gtI, e_geI, e_lenL, e_lenT, e_lenR, e_lenS, e_ixL, e_ixT, at0, at1, at2, at3, e_tupL, e_tupT, e_lstT, e_Own, e_ownK, e_Sub, e_For, e_Items, e_itL, e_itT, e_itR, e_Call, e_CallF, e_aNil, e_aVal, e_aVK, e_aVK2, step0, step1, step2, step3, out0, out1, out2, out3, outX1, outX2, outO1, outO2, outO3, e_onSh, e_onOw, decide_true, decide_false, Bool.not_true, Bool.not_false, List.cons_append, List.nil_append, List.getElem?_cons_zero, List.getElem?_cons_succ, List.set_cons_zero, List.set_cons_succ, Nat.reduceLT, Nat.reduceAdd, Nat.reduceSub, Option.map_some, finF, outsE, e_frz, d_rng7, e_forK, e_tnN, e_tnC, e_tnB, e_tnR, e_whT, e_whF, e_Raise, e_Par, e_parK, e_parK2, e_augK, e_Ch, e_chK1, e_chK2, e_chT, e_chF, e_Try, e_tryO, e_tru, e_While, e_abs, e_max2, e_min2, e_gSq2, e_tup1, e_lst1, e_tup2, e_lst2, e_tup3, e_lst3, e_tup4, e_lst4, e_tup5, e_lst5, e_tup6, e_lst6, e_tup7, e_lst7, e_tup8, e_lst8, hnd, e_ixO (ds := [D.lst (List.map D.int cs), D.int a, D.int 0, D.int t]), e_ixO2 (ds := [D.lst (List.map D.int cs), D.int a, D.int 0, D.int t]), beq_self_eq_true, hae, hc, e_vIc, p1, c1, c2, m1, m2, h18,
          e_subK (ds := [D.lst (List.map D.int cs), D.int a, D.int 0, D.int t]), e_ixO (ds := [D.lst (List.map D.int cs), D.int (a + 1), D.int 0, D.int t]), e_ixO2 (ds := [D.lst (List.map D.int cs), D.int (a + 1), D.int 0, D.int t]), mixed_eq, Int.reduceLE, Int.toNat_one, Int.reduceLT, Int.reduceToNat, Int.cast_ofNat_Int, List.length_cons, List.length_nil]
      · have hc0 : 0 < c := by omega
        have H2 : HandOk cs (a + 1) (c / n) t := ⟨H.len, H.pos, by have := H.a0; omega, by omega, Int.ediv_nonneg hcp (by omega), H.t0, H.tl⟩
        refine ⟨c % n, hnd cs (a + 1) (c / n) t, ?_, ⟨cs, a + 1, _, t, rfl, H2⟩, (hmod _).1, (hmod _).2⟩
        unfold m__law_take
        refine (e_run [0] 4 _ _ rfl).trans ?_
        unfold b__law_take
        simp only [startE, List.map, List.length, List.replicate, e_Seq, e_Asg, e_Ret, e_RetF, e_Expr, e_exprK, e_op, e_op2, e_op1, e_un, e_is, e_B, e_bK, e_Cons, e_consK, e_consK2, e_Nil, e_var, e_C, e_bind, e_bindX, e_bindB, e_lookS, e_lookO, M.toD, e_of, e_asgK, e_gSet, e_stK, e_sqN, e_sqR, e_sqB, e_sqC, e_sNil, e_retK, e_retFK, e_add, e_vI, e_neg, e_fInt, e_fIntB, e_sIf, e_sifT, e_sifF, e_T, e_toB, e_Tru, e_truB, e_And, e_Or, e_andT, e_andF, e_orT, e_orF, e_Not, e_notK, e_AndV, e_OrV, e_andVT, e_andVF, e_orVT, e_orVF, e_NotV, e_notVK, e_If, e_ifT, e_ifF, e_Tup, e_Lst, e_LstF, e_tup0, e_lst0, e_lstF0, e_eqI, e_neI, e_ltI, e_leI, e_gtI, e_geI, e_lenL, e_lenT, e_lenR, e_lenS, e_ixL, e_ixT, at0, at1, at2, at3, e_tupL, e_tupT, e_lstT, e_Own, e_ownK, e_Sub, e_For, e_Items, e_itL, e_itT, e_itR, e_Call, e_CallF, e_aNil, e_aVal, e_aVK, e_aVK2, step0, step1, step2, step3, out0, out1, out2, out3, outX1, outX2, outO1, outO2, outO3, e_onSh, e_onOw, decide_true, decide_false, Bool.not_true, Bool.not_false, List.cons_append, List.nil_append, List.getElem?_cons_zero, List.getElem?_cons_succ, List.set_cons_zero, List.set_cons_succ, Nat.reduceLT, Nat.reduceAdd, Nat.reduceSub, Option.map_some, finF, outsE, e_frz, d_rng7, e_forK, e_tnN, e_tnC, e_tnB, e_tnR, e_whT, e_whF, e_Raise, e_Par, e_parK, e_parK2, e_augK, e_Ch, e_chK1, e_chK2, e_chT, e_chF, e_Try, e_tryO, e_tru, e_While, e_abs, e_max2, e_min2, e_gSq2, e_tup1, e_lst1, e_tup2, e_lst2, e_tup3, e_lst3, e_tup4, e_lst4, e_tup5, e_lst5, e_tup6, e_lst6, e_tup7, e_lst7, e_tup8, e_lst8, hnd, e_ixO (ds := [D.lst (List.map D.int cs), D.int a, D.int 0, D.int t]), e_ixO2 (ds := [D.lst (List.map D.int cs), D.int a, D.int 0, D.int t]), beq_self_eq_true, hae, hc, e_vIc, p1, c1, c2, m1, m2, h18,
          e_subK (ds := [D.lst (List.map D.int cs), D.int a, D.int 0, D.int t]), e_ixO (ds := [D.lst (List.map D.int cs), D.int (a + 1), D.int 0, D.int t]), e_ixO2 (ds := [D.lst (List.map D.int cs), D.int (a + 1), D.int 0, D.int t]), mixed_eq, Int.reduceLE, Int.toNat_one, Int.reduceLT, Int.reduceToNat, Int.cast_ofNat_Int, List.length_cons, List.length_nil, hc0, e_ixO (ds := [D.lst (List.map D.int cs), D.int (a + 1), D.int c, D.int t]), e_ixO2 (ds := [D.lst (List.map D.int cs), D.int (a + 1), D.int c, D.int t]),
          e_subK (ds := [D.lst (List.map D.int cs), D.int (a + 1), D.int 0, D.int t]), e_subK (ds := [D.lst (List.map D.int cs), D.int (a + 1), D.int c, D.int t])]
    · have hae : ¬ a < ((cs.map D.int).length : Int) := by rw [List.length_map]; exact ha
      have z0 : ¬ ((0 : Int) < 0) := by decide
      have H3 : HandOk cs a 0 ((t + 1) % 2147483629) := ⟨H.len, H.pos, H.a0, H.al, by omega, Int.emod_nonneg _ (by decide), Int.emod_lt_of_pos _ (by decide)⟩
      refine ⟨mixN ((t + 1) % 2147483629) a % n, hnd cs a 0 ((t + 1) % 2147483629), ?_, ⟨cs, a, 0, _, rfl, H3⟩, (hmod _).1, (hmod _).2⟩
      unfold m__law_take
      refine (e_run [0] 4 _ _ rfl).trans ?_
      unfold b__law_take
      simp only [startE, List.map, List.length, List.replicate, e_Seq, e_Asg, e_Ret, e_RetF, e_Expr, e_exprK, e_op, e_op2, e_op1, e_un, e_is, e_B, e_bK, e_Cons, e_consK, e_consK2, e_Nil, e_var, e_C, e_bind, e_bindX, e_bindB, e_lookS, e_lookO, M.toD, e_of, e_asgK, e_gSet, e_stK, e_sqN, e_sqR, e_sqB, e_sqC, e_sNil, e_retK, e_retFK, e_add, e_vI, e_neg, e_fInt, e_fIntB, e_sIf, e_sifT, e_sifF, e_T, e_toB, e_Tru, e_truB, e_And, e_Or, e_andT, e_andF, e_orT, e_orF, e_Not, e_notK, e_AndV, e_OrV, e_andVT, e_andVF, e_orVT, e_orVF, e_NotV, e_notVK, e_If, e_ifT, e_ifF, e_Tup, e_Lst, e_LstF, e_tup0, e_lst0, e_lstF0, e_eqI, e_neI, e_ltI, e_leI, e_gtI, e_geI, e_lenL, e_lenT, e_lenR, e_lenS, e_ixL, e_ixT, at0, at1, at2, at3, e_tupL, e_tupT, e_lstT, e_Own, e_ownK, e_Sub, e_For, e_Items, e_itL, e_itT, e_itR, e_Call, e_CallF, e_aNil, e_aVal, e_aVK, e_aVK2, step0, step1, step2, step3, out0, out1, out2, out3, outX1, outX2, outO1, outO2, outO3, e_onSh, e_onOw, decide_true, decide_false, Bool.not_true, Bool.not_false, List.cons_append, List.nil_append, List.getElem?_cons_zero, List.getElem?_cons_succ, List.set_cons_zero, List.set_cons_succ, Nat.reduceLT, Nat.reduceAdd, Nat.reduceSub, Option.map_some, finF, outsE, e_frz, d_rng7, e_forK, e_tnN, e_tnC, e_tnB, e_tnR, e_whT, e_whF, e_Raise, e_Par, e_parK, e_parK2, e_augK, e_Ch, e_chK1, e_chK2, e_chT, e_chF, e_Try, e_tryO, e_tru, e_While, e_abs, e_max2, e_min2, e_gSq2, e_tup1, e_lst1, e_tup2, e_lst2, e_tup3, e_lst3, e_tup4, e_lst4, e_tup5, e_lst5, e_tup6, e_lst6, e_tup7, e_lst7, e_tup8, e_lst8, hnd, e_ixO (ds := [D.lst (List.map D.int cs), D.int a, D.int 0, D.int t]), e_ixO2 (ds := [D.lst (List.map D.int cs), D.int a, D.int 0, D.int t]), beq_self_eq_true, hae, z0, e_vIc, c1, c2, m1, m2,
        e_subK (ds := [D.lst (List.map D.int cs), D.int a, D.int 0, D.int t]), e_ixO (ds := [D.lst (List.map D.int cs), D.int a, D.int 0, D.int ((t + 1) % 2147483629)]), e_ixO2 (ds := [D.lst (List.map D.int cs), D.int a, D.int 0, D.int ((t + 1) % 2147483629)]), mixed_eq, Int.reduceLE, Int.toNat_one, Int.reduceLT, Int.reduceToNat, Int.cast_ofNat_Int, List.length_cons, List.length_nil]
  · have hbe : (b == 0) = false := beq_false_of_ne hb
    have hb1 : 0 < b := by omega
    have H2 : HandOk cs a (b / n) t := ⟨H.len, H.pos, H.a0, H.al, Int.ediv_nonneg hb0 (by omega), H.t0, H.tl⟩
    refine ⟨b % n, hnd cs a (b / n) t, ?_, ⟨cs, a, _, t, rfl, H2⟩, (hmod _).1, (hmod _).2⟩
    unfold m__law_take
    refine (e_run [0] 4 _ _ rfl).trans ?_
    unfold b__law_take
    simp only [startE, List.map, List.length, List.replicate, e_Seq, e_Asg, e_Ret, e_RetF, e_Expr, e_exprK, e_op, e_op2, e_op1, e_un, e_is, e_B, e_bK, e_Cons, e_consK, e_consK2, e_Nil, e_var, e_C, e_bind, e_bindX, e_bindB, e_lookS, e_lookO, M.toD, e_of, e_asgK, e_gSet, e_stK, e_sqN, e_sqR, e_sqB, e_sqC, e_sNil, e_retK, e_retFK, e_add, e_vI, e_neg, e_fInt, e_fIntB, e_sIf, e_sifT, e_sifF, e_T, e_toB, e_Tru, e_truB, e_And, e_Or, e_andT, e_andF, e_orT, e_orF, e_Not, e_notK, e_AndV, e_OrV, e_andVT, e_andVF, e_orVT, e_orVF, e_NotV, e_notVK, e_If, e_ifT, e_ifF, e_Tup, e_Lst, e_LstF, e_tup0, e_lst0, e_lstF0, e_eqI, e_neI, e_ltI, e_leI, e_gtI, e_geI, e_lenL, e_lenT, e_lenR, e_lenS, e_ixL, e_ixT, at0, at1, at2, at3, e_tupL, e_tupT, e_lstT, e_Own, e_ownK, e_Sub, e_For, e_Items, e_itL, e_itT, e_itR, e_Call, e_CallF, e_aNil, e_aVal, e_aVK, e_aVK2, step0, step1, step2, step3, out0, out1, out2, out3, outX1, outX2, outO1, outO2, outO3, e_onSh, e_onOw, decide_true, decide_false, Bool.not_true, Bool.not_false, List.cons_append, List.nil_append, List.getElem?_cons_zero, List.getElem?_cons_succ, List.set_cons_zero, List.set_cons_succ, Nat.reduceLT, Nat.reduceAdd, Nat.reduceSub, Option.map_some, finF, outsE, e_frz, d_rng7, e_forK, e_tnN, e_tnC, e_tnB, e_tnR, e_whT, e_whF, e_Raise, e_Par, e_parK, e_parK2, e_augK, e_Ch, e_chK1, e_chK2, e_chT, e_chF, e_Try, e_tryO, e_tru, e_While, e_abs, e_max2, e_min2, e_gSq2, e_tup1, e_lst1, e_tup2, e_lst2, e_tup3, e_lst3, e_tup4, e_lst4, e_tup5, e_lst5, e_tup6, e_lst6, e_tup7, e_lst7, e_tup8, e_lst8, hnd, e_ixO (ds := [D.lst (List.map D.int cs), D.int a, D.int b, D.int t]), e_ixO2 (ds := [D.lst (List.map D.int cs), D.int a, D.int b, D.int t]), hbe, hb1, e_vIc, c1, c2, m1, m2,
      e_subK (ds := [D.lst (List.map D.int cs), D.int a, D.int b, D.int t]), Int.reduceLE, Int.toNat_one, Int.reduceLT, Int.reduceToNat, Int.cast_ofNat_Int, List.length_cons, List.length_nil]
/-- the hand is made of the script -/
def tot0 : List Int → Int → Int
  | [], t => t
  | c :: r, t => tot0 r ((t * 1009 + c) % 2147483629)
theorem tot0_ok : ∀ (r : List Int) (t : Int), r = [] ∨ (0 ≤ tot0 r t ∧ tot0 r t < 2147483629)
  | [], t => .inl rfl
  | c :: r, t => by
    right
    have h1 := Int.emod_nonneg (t * 1009 + c) (show (2147483629 : Int) ≠ 0 by decide)
    have h2 := Int.emod_lt_of_pos (t * 1009 + c) (show (0 : Int) < 2147483629 by decide)
    rcases tot0_ok r ((t * 1009 + c) % 2147483629) with h | h
    · subst h; exact ⟨h1, h2⟩
    · exact h
def ab (c : Int) : Int := if c ≥ 0 then c else -c
theorem hand_loop (s : D) : ∀ (r : List Int) (t : Int) (acc : List Int) (o : Option DV), acc.length + r.length ≤ 63 → ∃ o', forL (gSet 3) (sSeq (sAsg (dMod (dB fInt (dCons (dAdd (dMul (dVar 1) (dC (.int 1009))) (dB fInt (dCons (dVar 3) (dNil)))) (dNil))) (dC (.int 2147483629))) (gSet 1))
  (sApp 2 (dIf (dT (dCmp .ge (dVar 3) (dC (.int 0)))) (dB fInt (dCons (dVar 3) (dNil))) (dNeg (dB fInt (dCons (dVar 3) (dNil))))))) (r.map D.int) [some (.sh s), some (.sh (.int t)), some (.ow (.lst (acc.map D.int))), o]
    = .ok .nx [some (.sh s), some (.sh (.int (tot0 r t))), some (.ow (.lst ((acc ++ r.map ab).map D.int))), o'] := by
  intro r
  induction r with
  | nil => intro t acc o _; exact ⟨o, by simp only [List.map, forL, tot0, List.append_nil]⟩
  | cons c r ih =>
    intro t acc o hl
    obtain ⟨o', h⟩ := ih ((t * 1009 + c) % 2147483629) (acc ++ [ab c]) (some (.sh (.int c))) (by rw [List.length_append]; simp only [List.length_cons, List.length_nil] at hl ⊢; omega)
    refine ⟨o', ?_⟩
    have c1 : ∀ i : Int, cMul i 1009 = true := fun i => cMul_r (by decide)
    have m1 : ∀ i : Int, cMod i 2147483629 = true := fun i => rfl
    have hsz : (acc.map D.int).length < sizeLine := by rw [List.length_map, sizeLine_eq]; simp only [List.length_cons] at hl; omega
    rw [show acc ++ (c :: r).map ab = (acc ++ [ab c]) ++ r.map ab by simp]
    show forL _ _ (D.int c :: r.map D.int) _ = _
    unfold forL
    rw [show tot0 (c :: r) t = tot0 r ((t * 1009 + c) % 2147483629) from rfl, ← h]
    by_cases hc : 0 ≤ c
    · have e : (acc ++ [ab c]).map D.int = acc.map D.int ++ [D.int c] := by rw [List.map_append, show ab c = c by unfold ab; rw [if_pos hc]]; rfl
      rw [e]
      simp only [startE, List.map, List.length, List.replicate, e_Seq, e_Asg, e_Ret, e_RetF, e_Expr, e_exprK, e_op, e_op2, e_op1, e_un, e_is, e_B, e_bK, e_Cons, e_consK, e_consK2, e_Nil, e_var, e_C, e_bind, e_bindX, e_bindB, e_lookS, e_lookO, M.toD, e_of, e_asgK, e_gSet, e_stK, e_sqN, e_sqR, e_sqB, e_sqC, e_sNil, e_retK, e_retFK, e_add, e_vI, e_neg, e_fInt, e_fIntB, e_sIf, e_sifT, e_sifF, e_T, e_toB, e_Tru, e_truB, e_And, e_Or, e_andT, e_andF, e_orT, e_orF, e_Not, e_notK, e_AndV, e_OrV, e_andVT, e_andVF, e_orVT, e_orVF, e_NotV, e_notVK, e_If, e_ifT, e_ifF, e_Tup, e_Lst, e_LstF, e_tup0, e_lst0, e_lstF0, e_eqI, e_neI, e_ltI, e_leI, e_gtI, e_geI, e_lenL, e_lenT, e_lenR, e_lenS, e_ixL, e_ixT, at0, at1, at2, at3, e_tupL, e_tupT, e_lstT, e_Own, e_ownK, e_Sub, e_For, e_Items, e_itL, e_itT, e_itR, e_Call, e_CallF, e_aNil, e_aVal, e_aVK, e_aVK2, step0, step1, step2, step3, out0, out1, out2, out3, outX1, outX2, outO1, outO2, outO3, e_onSh, e_onOw, decide_true, decide_false, Bool.not_true, Bool.not_false, List.cons_append, List.nil_append, List.getElem?_cons_zero, List.getElem?_cons_succ, List.set_cons_zero, List.set_cons_succ, Nat.reduceLT, Nat.reduceAdd, Nat.reduceSub, Option.map_some, finF, outsE, e_frz, d_rng7, e_forK, e_tnN, e_tnC, e_tnB, e_tnR, e_whT, e_whF, e_Raise, e_Par, e_parK, e_parK2, e_augK, e_Ch, e_chK1, e_chK2, e_chT, e_chF, e_Try, e_tryO, e_tru, e_While, e_abs, e_max2, e_min2, e_gSq2, e_tup1, e_lst1, e_tup2, e_lst2, e_tup3, e_lst3, e_tup4, e_lst4, e_tup5, e_lst5, e_tup6, e_lst6, e_tup7, e_lst7, e_tup8, e_lst8, e_vIc, c1, m1, e_App (ds := acc.map D.int), hc, e_appK (ds := acc.map D.int) (hl := hsz)]
    · have e : (acc ++ [ab c]).map D.int = acc.map D.int ++ [D.int (-c)] := by rw [List.map_append, show ab c = -c by unfold ab; rw [if_neg hc]]; rfl
      rw [e]
      simp only [startE, List.map, List.length, List.replicate, e_Seq, e_Asg, e_Ret, e_RetF, e_Expr, e_exprK, e_op, e_op2, e_op1, e_un, e_is, e_B, e_bK, e_Cons, e_consK, e_consK2, e_Nil, e_var, e_C, e_bind, e_bindX, e_bindB, e_lookS, e_lookO, M.toD, e_of, e_asgK, e_gSet, e_stK, e_sqN, e_sqR, e_sqB, e_sqC, e_sNil, e_retK, e_retFK, e_add, e_vI, e_neg, e_fInt, e_fIntB, e_sIf, e_sifT, e_sifF, e_T, e_toB, e_Tru, e_truB, e_And, e_Or, e_andT, e_andF, e_orT, e_orF, e_Not, e_notK, e_AndV, e_OrV, e_andVT, e_andVF, e_orVT, e_orVF, e_NotV, e_notVK, e_If, e_ifT, e_ifF, e_Tup, e_Lst, e_LstF, e_tup0, e_lst0, e_lstF0, e_eqI, e_neI, e_ltI, e_leI, e_gtI, e_geI, e_lenL, e_lenT, e_lenR, e_lenS, e_ixL, e_ixT, at0, at1, at2, at3, e_tupL, e_tupT, e_lstT, e_Own, e_ownK, e_Sub, e_For, e_Items, e_itL, e_itT, e_itR, e_Call, e_CallF, e_aNil, e_aVal, e_aVK, e_aVK2, step0, step1, step2, step3, out0, out1, out2, out3, outX1, outX2, outO1, outO2, outO3, e_onSh, e_onOw, decide_true, decide_false, Bool.not_true, Bool.not_false, List.cons_append, List.nil_append, List.getElem?_cons_zero, List.getElem?_cons_succ, List.set_cons_zero, List.set_cons_succ, Nat.reduceLT, Nat.reduceAdd, Nat.reduceSub, Option.map_some, finF, outsE, e_frz, d_rng7, e_forK, e_tnN, e_tnC, e_tnB, e_tnR, e_whT, e_whF, e_Raise, e_Par, e_parK, e_parK2, e_augK, e_Ch, e_chK1, e_chK2, e_chT, e_chF, e_Try, e_tryO, e_tru, e_While, e_abs, e_max2, e_min2, e_gSq2, e_tup1, e_lst1, e_tup2, e_lst2, e_tup3, e_lst3, e_tup4, e_lst4, e_tup5, e_lst5, e_tup6, e_lst6, e_tup7, e_lst7, e_tup8, e_lst8, e_vIc, c1, m1, e_App (ds := acc.map D.int), hc, e_appK (ds := acc.map D.int) (hl := hsz)]
theorem hand_ok (ns : List Int) (hn : ns.length ≤ 63) : ∃ m, m__law_hand [.sh (.scr (ns.map D.int))] = .ok (.ow m) [] ∧ Good m := by
  have hlen : ((ns.map D.int).length : Int) = ns.length := by rw [List.length_map]
  obtain ⟨o', h⟩ := hand_loop (.scr (ns.map D.int)) ns (((ns.map D.int).length : Int) + 17) [] none (by simpa using hn)
  refine ⟨hnd (ns.map ab) 0 0 (tot0 ns (((ns.map D.int).length : Int) + 17)), ?_, _, _, _, _, rfl, ⟨by rw [List.length_map]; exact hn, fun c hc => ?_, by omega, by omega, by omega, ?_, ?_⟩⟩
  · unfold m__law_hand
    refine (e_run [] 4 _ _ rfl).trans ?_
    unfold b__law_hand
    simp only [List.nil_append, List.map_nil] at h
    simp only [startE, List.map, List.length, List.replicate, e_Seq, e_Asg, e_Ret, e_RetF, e_Expr, e_exprK, e_op, e_op2, e_op1, e_un, e_is, e_B, e_bK, e_Cons, e_consK, e_consK2, e_Nil, e_var, e_C, e_bind, e_bindX, e_bindB, e_lookS, e_lookO, M.toD, e_of, e_asgK, e_gSet, e_stK, e_sqN, e_sqR, e_sqB, e_sqC, e_sNil, e_retK, e_retFK, e_add, e_vI, e_neg, e_fInt, e_fIntB, e_sIf, e_sifT, e_sifF, e_T, e_toB, e_Tru, e_truB, e_And, e_Or, e_andT, e_andF, e_orT, e_orF, e_Not, e_notK, e_AndV, e_OrV, e_andVT, e_andVF, e_orVT, e_orVF, e_NotV, e_notVK, e_If, e_ifT, e_ifF, e_Tup, e_Lst, e_LstF, e_tup0, e_lst0, e_lstF0, e_eqI, e_neI, e_ltI, e_leI, e_gtI, e_geI, e_lenL, e_lenT, e_lenR, e_lenS, e_ixL, e_ixT, at0, at1, at2, at3, e_tupL, e_tupT, e_lstT, e_Own, e_ownK, e_Sub, e_For, e_Items, e_itL, e_itT, e_itR, e_Call, e_CallF, e_aNil, e_aVal, e_aVK, e_aVK2, step0, step1, step2, step3, out0, out1, out2, out3, outX1, outX2, outO1, outO2, outO3, e_onSh, e_onOw, decide_true, decide_false, Bool.not_true, Bool.not_false, List.cons_append, List.nil_append, List.getElem?_cons_zero, List.getElem?_cons_succ, List.set_cons_zero, List.set_cons_succ, Nat.reduceLT, Nat.reduceAdd, Nat.reduceSub, Option.map_some, finF, outsE, e_frz, d_rng7, e_forK, e_tnN, e_tnC, e_tnB, e_tnR, e_whT, e_whF, e_Raise, e_Par, e_parK, e_parK2, e_augK, e_Ch, e_chK1, e_chK2, e_chT, e_chF, e_Try, e_tryO, e_tru, e_While, e_abs, e_max2, e_min2, e_gSq2, e_tup1, e_lst1, e_tup2, e_lst2, e_tup3, e_lst3, e_tup4, e_lst4, e_tup5, e_lst5, e_tup6, e_lst6, e_tup7, e_lst7, e_tup8, e_lst8, forK, h, e_lstF, List.length_cons, List.length_nil, hnd, sizeLine_eq, Nat.reduceLeDiff]
  · obtain ⟨x, hx, rfl⟩ := List.mem_map.mp hc
    unfold ab; split <;> omega
  · rcases tot0_ok ns (((ns.map D.int).length : Int) + 17) with h | h
    · subst h; show (0 : Int) ≤ 17; decide
    · exact h.1
  · rcases tot0_ok ns (((ns.map D.int).length : Int) + 17) with h | h
    · subst h; show (17 : Int) < 2147483629; decide
    · exact h.2
end L05
set_option Elab.async false
set_option linter.all false
set_option maxRecDepth 100000
set_option maxHeartbeats 4000000
namespace L05
open PySem L2 Rf
/-! ### names -/
abbrev LOW : Str := "abcdefghijklmnopqrstuvwxyz"
def low (c : Nat) : Bool := !(Builtin.Str.occurrences LOW ⟨#[c]⟩ 0 LOW.length 1).isEmpty
def nmS (x : Str) : Bool := decide (1 ≤ x.length) && decide (x.length ≤ 8) && x.cps.toList.all low
def lowS : List Nat := LOW.cps.toList
structure Nm (x : Str) : Prop where
  lo : 1 ≤ x.cps.size
  hi : x.cps.size ≤ 8
  mem : ∀ c ∈ x.cps.toList, c ∈ lowS
theorem low_all : lowS.all low = true := by kernel_rfl
theorem low_lt : lowS.all (fun c => decide (c < 0x110000)) = true := by kernel_rfl
theorem Nm.low {x : Str} (h : Nm x) : x.cps.toList.all low = true := List.all_eq_true.mpr fun c hc => List.all_eq_true.mp low_all c (h.mem c hc)
theorem Nm.nm {x : Str} (h : Nm x) : nmS x = true := by
  have e : x.length = x.cps.size := rfl
  have := h.lo
  have := h.hi
  unfold nmS
  rw [h.low, decide_eq_true (by omega), decide_eq_true (by omega)]
  rfl
theorem Nm.ok {x : Str} (h : Nm x) : PyData.strOk x = true := by
  show x.cps.all _ = true
  rw [Array.all_eq_true_iff_forall_mem]
  intro c hc
  exact List.all_eq_true.mp low_lt c (h.mem c (by simpa using hc))
/-- what may stand where a name or a number is asked -/
inductive Pl : D → Prop
  | non : Pl .non
  | bl (b : Bool) : Pl (.bl b)
  | int (i : Int) : Pl (.int i)
  | lst (ds : List D) : Pl (.lst ds)
  | tup (ds : List D) : Pl (.tup ds)
  | nam {x : Str} (h : Nm x) : Pl (.str x)
  | bad {x : Str} (h : nmS x = false) (hl : x.length ≤ sizeLine) : Pl (.str x)
def nm : D → Bool
  | .str x => nmS x
  | _ => false
def wh : D → Bool
  | .int _ => true
  | _ => false
theorem leI_d (i j : Int) : CK.f .le (.int i) (.int j) = some (.bl (decide (i ≤ j))) := rfl
theorem ltI_d (i j : Int) : CK.f .lt (.int i) (.int j) = some (.bl (decide (i < j))) := rfl
theorem in_low (n : Nat) : CK.f .in_ (.str ⟨#[n]⟩) (.str LOW) = some (.bl (low n)) := rfl
theorem isStr (x : Str) : isTy "str" (.str x) = some true := rfl
theorem lc_low (z : Str) (hz : z.length ≤ sizeLine) : fLc (dItems (dVar 0)) (gSet 1) dYes (dCmp .in_ (dVar 1) (dC (.str LOW))) [1] [some (.sh (.str z)), none] = .ok (.lst (z.cps.toList.map fun n => D.bl (low n))) [some (.sh (.str z)), none] := by
  refine lc_text (fun n => D.bl (low n)) rfl rfl (fun n => ?_) hz
  simp only [startE, List.map, List.length, List.replicate, e_Seq, e_Asg, e_Ret, e_RetF, e_Expr, e_exprK, e_op, e_op2, e_op1, e_un, e_is, e_B, e_bK, e_Cons, e_consK, e_consK2, e_Nil, e_var, e_C, e_bind, e_bindX, e_bindB, e_lookS, e_lookO, M.toD, e_of, e_asgK, e_gSet, e_stK, e_sqN, e_sqR, e_sqB, e_sqC, e_sNil, e_retK, e_retFK, e_add, e_vI, e_neg, e_fInt, e_fIntB, e_sIf, e_sifT, e_sifF, e_T, e_toB, e_Tru, e_truB, e_And, e_Or, e_andT, e_andF, e_orT, e_orF, e_Not, e_notK, e_AndV, e_OrV, e_andVT, e_andVF, e_orVT, e_orVF, e_NotV, e_notVK, e_If, e_ifT, e_ifF, e_Tup, e_Lst, e_LstF, e_tup0, e_lst0, e_lstF0, e_eqI, e_neI, e_ltI, e_leI, e_gtI, e_geI, e_lenL, e_lenT, e_lenR, e_lenS, e_ixL, e_ixT, at0, at1, at2, at3, e_tupL, e_tupT, e_lstT, e_Own, e_ownK, e_Sub, e_For, e_Items, e_itL, e_itT, e_itR, e_Call, e_CallF, e_aNil, e_aVal, e_aVK, e_aVK2, step0, step1, step2, step3, out0, out1, out2, out3, outX1, outX2, outO1, outO2, outO3, e_onSh, e_onOw, decide_true, decide_false, Bool.not_true, Bool.not_false, List.cons_append, List.nil_append, List.getElem?_cons_zero, List.getElem?_cons_succ, List.set_cons_zero, List.set_cons_succ, Nat.reduceLT, Nat.reduceAdd, Nat.reduceSub, Option.map_some, finF, outsE, e_frz, d_rng7, e_forK, e_tnN, e_tnC, e_tnB, e_tnR, e_whT, e_whF, e_Raise, e_Par, e_parK, e_parK2, e_augK, e_Ch, e_chK1, e_chK2, e_chT, e_chF, e_Try, e_tryO, e_tru, e_While, e_abs, e_max2, e_min2, e_gSq2, e_tup1, e_lst1, e_tup2, e_lst2, e_tup3, e_lst3, e_tup4, e_lst4, e_tup5, e_lst5, e_tup6, e_lst6, e_tup7, e_lst7, e_tup8, e_lst8, in_low]
theorem name_str (x : Str) (hx : x.length ≤ sizeLine) : m_is_name [.sh (.str x)] = .ok (.sh (.bl (nmS x))) [] := by
  refine (e_run [] 2 _ _ rfl).trans ?_
  unfold b_is_name
  by_cases h1 : (1 : Int) ≤ x.length
  · by_cases h2 : (x.length : Int) ≤ 8
    · have e : nmS x = x.cps.toList.all low := by
        unfold nmS
        rw [decide_eq_true (show 1 ≤ x.length by omega), decide_eq_true (show x.length ≤ 8 by omega)]
        rfl
      rw [e]
      simp only [startE, List.map, List.length, List.replicate, e_Seq, e_Asg, e_Ret, e_RetF, e_Expr, e_exprK, e_op, e_op2, e_op1, e_un, e_is, e_B, e_bK, e_Cons, e_consK, e_consK2, e_Nil, e_var, e_C, e_bind, e_bindX, e_bindB, e_lookS, e_lookO, M.toD, e_of, e_asgK, e_gSet, e_stK, e_sqN, e_sqR, e_sqB, e_sqC, e_sNil, e_retK, e_retFK, e_add, e_vI, e_neg, e_fInt, e_fIntB, e_sIf, e_sifT, e_sifF, e_T, e_toB, e_Tru, e_truB, e_And, e_Or, e_andT, e_andF, e_orT, e_orF, e_Not, e_notK, e_AndV, e_OrV, e_andVT, e_andVF, e_orVT, e_orVF, e_NotV, e_notVK, e_If, e_ifT, e_ifF, e_Tup, e_Lst, e_LstF, e_tup0, e_lst0, e_lstF0, e_eqI, e_neI, e_ltI, e_leI, e_gtI, e_geI, e_lenL, e_lenT, e_lenR, e_lenS, e_ixL, e_ixT, at0, at1, at2, at3, e_tupL, e_tupT, e_lstT, e_Own, e_ownK, e_Sub, e_For, e_Items, e_itL, e_itT, e_itR, e_Call, e_CallF, e_aNil, e_aVal, e_aVK, e_aVK2, step0, step1, step2, step3, out0, out1, out2, out3, outX1, outX2, outO1, outO2, outO3, e_onSh, e_onOw, decide_true, decide_false, Bool.not_true, Bool.not_false, List.cons_append, List.nil_append, List.getElem?_cons_zero, List.getElem?_cons_succ, List.set_cons_zero, List.set_cons_succ, Nat.reduceLT, Nat.reduceAdd, Nat.reduceSub, Option.map_some, finF, outsE, e_frz, d_rng7, e_forK, e_tnN, e_tnC, e_tnB, e_tnR, e_whT, e_whF, e_Raise, e_Par, e_parK, e_parK2, e_augK, e_Ch, e_chK1, e_chK2, e_chT, e_chF, e_Try, e_tryO, e_tru, e_While, e_abs, e_max2, e_min2, e_gSq2, e_tup1, e_lst1, e_tup2, e_lst2, e_tup3, e_lst3, e_tup4, e_lst4, e_tup5, e_lst5, e_tup6, e_lst6, e_tup7, e_lst7, e_tup8, e_lst8, isStr, h1, h2, lc_low x hx, all_f]
    · have e : nmS x = false := by
        unfold nmS
        rw [decide_eq_false (show ¬ x.length ≤ 8 by omega)]
        simp
      rw [e]
      simp only [startE, List.map, List.length, List.replicate, e_Seq, e_Asg, e_Ret, e_RetF, e_Expr, e_exprK, e_op, e_op2, e_op1, e_un, e_is, e_B, e_bK, e_Cons, e_consK, e_consK2, e_Nil, e_var, e_C, e_bind, e_bindX, e_bindB, e_lookS, e_lookO, M.toD, e_of, e_asgK, e_gSet, e_stK, e_sqN, e_sqR, e_sqB, e_sqC, e_sNil, e_retK, e_retFK, e_add, e_vI, e_neg, e_fInt, e_fIntB, e_sIf, e_sifT, e_sifF, e_T, e_toB, e_Tru, e_truB, e_And, e_Or, e_andT, e_andF, e_orT, e_orF, e_Not, e_notK, e_AndV, e_OrV, e_andVT, e_andVF, e_orVT, e_orVF, e_NotV, e_notVK, e_If, e_ifT, e_ifF, e_Tup, e_Lst, e_LstF, e_tup0, e_lst0, e_lstF0, e_eqI, e_neI, e_ltI, e_leI, e_gtI, e_geI, e_lenL, e_lenT, e_lenR, e_lenS, e_ixL, e_ixT, at0, at1, at2, at3, e_tupL, e_tupT, e_lstT, e_Own, e_ownK, e_Sub, e_For, e_Items, e_itL, e_itT, e_itR, e_Call, e_CallF, e_aNil, e_aVal, e_aVK, e_aVK2, step0, step1, step2, step3, out0, out1, out2, out3, outX1, outX2, outO1, outO2, outO3, e_onSh, e_onOw, decide_true, decide_false, Bool.not_true, Bool.not_false, List.cons_append, List.nil_append, List.getElem?_cons_zero, List.getElem?_cons_succ, List.set_cons_zero, List.set_cons_succ, Nat.reduceLT, Nat.reduceAdd, Nat.reduceSub, Option.map_some, finF, outsE, e_frz, d_rng7, e_forK, e_tnN, e_tnC, e_tnB, e_tnR, e_whT, e_whF, e_Raise, e_Par, e_parK, e_parK2, e_augK, e_Ch, e_chK1, e_chK2, e_chT, e_chF, e_Try, e_tryO, e_tru, e_While, e_abs, e_max2, e_min2, e_gSq2, e_tup1, e_lst1, e_tup2, e_lst2, e_tup3, e_lst3, e_tup4, e_lst4, e_tup5, e_lst5, e_tup6, e_lst6, e_tup7, e_lst7, e_tup8, e_lst8, isStr, h1, h2]
  · have e : nmS x = false := by
      unfold nmS
      rw [decide_eq_false (show ¬ 1 ≤ x.length by omega)]
      simp
    rw [e]
    simp only [startE, List.map, List.length, List.replicate, e_Seq, e_Asg, e_Ret, e_RetF, e_Expr, e_exprK, e_op, e_op2, e_op1, e_un, e_is, e_B, e_bK, e_Cons, e_consK, e_consK2, e_Nil, e_var, e_C, e_bind, e_bindX, e_bindB, e_lookS, e_lookO, M.toD, e_of, e_asgK, e_gSet, e_stK, e_sqN, e_sqR, e_sqB, e_sqC, e_sNil, e_retK, e_retFK, e_add, e_vI, e_neg, e_fInt, e_fIntB, e_sIf, e_sifT, e_sifF, e_T, e_toB, e_Tru, e_truB, e_And, e_Or, e_andT, e_andF, e_orT, e_orF, e_Not, e_notK, e_AndV, e_OrV, e_andVT, e_andVF, e_orVT, e_orVF, e_NotV, e_notVK, e_If, e_ifT, e_ifF, e_Tup, e_Lst, e_LstF, e_tup0, e_lst0, e_lstF0, e_eqI, e_neI, e_ltI, e_leI, e_gtI, e_geI, e_lenL, e_lenT, e_lenR, e_lenS, e_ixL, e_ixT, at0, at1, at2, at3, e_tupL, e_tupT, e_lstT, e_Own, e_ownK, e_Sub, e_For, e_Items, e_itL, e_itT, e_itR, e_Call, e_CallF, e_aNil, e_aVal, e_aVK, e_aVK2, step0, step1, step2, step3, out0, out1, out2, out3, outX1, outX2, outO1, outO2, outO3, e_onSh, e_onOw, decide_true, decide_false, Bool.not_true, Bool.not_false, List.cons_append, List.nil_append, List.getElem?_cons_zero, List.getElem?_cons_succ, List.set_cons_zero, List.set_cons_succ, Nat.reduceLT, Nat.reduceAdd, Nat.reduceSub, Option.map_some, finF, outsE, e_frz, d_rng7, e_forK, e_tnN, e_tnC, e_tnB, e_tnR, e_whT, e_whF, e_Raise, e_Par, e_parK, e_parK2, e_augK, e_Ch, e_chK1, e_chK2, e_chT, e_chF, e_Try, e_tryO, e_tru, e_While, e_abs, e_max2, e_min2, e_gSq2, e_tup1, e_lst1, e_tup2, e_lst2, e_tup3, e_lst3, e_tup4, e_lst4, e_tup5, e_lst5, e_tup6, e_lst6, e_tup7, e_lst7, e_tup8, e_lst8, isStr, h1]
theorem name_ok {d : D} (h : Pl d) : m_is_name [.sh d] = .ok (.sh (.bl (nm d))) [] := by
  cases h with
  | nam h => exact name_str _ (by rw [sizeLine_eq]; have := h.hi; show Array.size _ ≤ _; omega)
  | bad h hl => exact name_str _ hl
  | non => kernel_rfl
  | bl b => kernel_rfl
  | int i => kernel_rfl
  | lst ds => kernel_rfl
  | tup ds => kernel_rfl
theorem whole_ok {d : D} (h : Pl d) : m_is_whole [.sh d] = .ok (.sh (.bl (wh d))) [] := by
  cases h <;> kernel_rfl
theorem lwhole_ok {d : D} (h : Pl d) : m__law_whole [.sh d] = .ok (.sh (.bl (wh d))) [] := by
  cases h <;> kernel_rfl
theorem letters_str (x : Str) (hx : x.length ≤ sizeLine) : m__law_letters [.sh (.str x)] = .ok (.sh (.bl (nmS x))) [] := by
  refine (e_run [] 2 _ _ rfl).trans ?_
  unfold b__law_letters
  by_cases h1 : (0 : Int) < x.length
  · by_cases h2 : (x.length : Int) < 9
    · have e : nmS x = x.cps.toList.all low := by
        unfold nmS
        rw [decide_eq_true (show 1 ≤ x.length by omega), decide_eq_true (show x.length ≤ 8 by omega)]
        rfl
      rw [e]
      simp only [startE, List.map, List.length, List.replicate, e_Seq, e_Asg, e_Ret, e_RetF, e_Expr, e_exprK, e_op, e_op2, e_op1, e_un, e_is, e_B, e_bK, e_Cons, e_consK, e_consK2, e_Nil, e_var, e_C, e_bind, e_bindX, e_bindB, e_lookS, e_lookO, M.toD, e_of, e_asgK, e_gSet, e_stK, e_sqN, e_sqR, e_sqB, e_sqC, e_sNil, e_retK, e_retFK, e_add, e_vI, e_neg, e_fInt, e_fIntB, e_sIf, e_sifT, e_sifF, e_T, e_toB, e_Tru, e_truB, e_And, e_Or, e_andT, e_andF, e_orT, e_orF, e_Not, e_notK, e_AndV, e_OrV, e_andVT, e_andVF, e_orVT, e_orVF, e_NotV, e_notVK, e_If, e_ifT, e_ifF, e_Tup, e_Lst, e_LstF, e_tup0, e_lst0, e_lstF0, e_eqI, e_neI, e_ltI, e_leI, e_gtI, e_geI, e_lenL, e_lenT, e_lenR, e_lenS, e_ixL, e_ixT, at0, at1, at2, at3, e_tupL, e_tupT, e_lstT, e_Own, e_ownK, e_Sub, e_For, e_Items, e_itL, e_itT, e_itR, e_Call, e_CallF, e_aNil, e_aVal, e_aVK, e_aVK2, step0, step1, step2, step3, out0, out1, out2, out3, outX1, outX2, outO1, outO2, outO3, e_onSh, e_onOw, decide_true, decide_false, Bool.not_true, Bool.not_false, List.cons_append, List.nil_append, List.getElem?_cons_zero, List.getElem?_cons_succ, List.set_cons_zero, List.set_cons_succ, Nat.reduceLT, Nat.reduceAdd, Nat.reduceSub, Option.map_some, finF, outsE, e_frz, d_rng7, e_forK, e_tnN, e_tnC, e_tnB, e_tnR, e_whT, e_whF, e_Raise, e_Par, e_parK, e_parK2, e_augK, e_Ch, e_chK1, e_chK2, e_chT, e_chF, e_Try, e_tryO, e_tru, e_While, e_abs, e_max2, e_min2, e_gSq2, e_tup1, e_lst1, e_tup2, e_lst2, e_tup3, e_lst3, e_tup4, e_lst4, e_tup5, e_lst5, e_tup6, e_lst6, e_tup7, e_lst7, e_tup8, e_lst8, isStr, h1, h2, lc_low x hx, all_f]
    · have e : nmS x = false := by
        unfold nmS
        rw [decide_eq_false (show ¬ x.length ≤ 8 by omega)]
        simp
      rw [e]
      simp only [startE, List.map, List.length, List.replicate, e_Seq, e_Asg, e_Ret, e_RetF, e_Expr, e_exprK, e_op, e_op2, e_op1, e_un, e_is, e_B, e_bK, e_Cons, e_consK, e_consK2, e_Nil, e_var, e_C, e_bind, e_bindX, e_bindB, e_lookS, e_lookO, M.toD, e_of, e_asgK, e_gSet, e_stK, e_sqN, e_sqR, e_sqB, e_sqC, e_sNil, e_retK, e_retFK, e_add, e_vI, e_neg, e_fInt, e_fIntB, e_sIf, e_sifT, e_sifF, e_T, e_toB, e_Tru, e_truB, e_And, e_Or, e_andT, e_andF, e_orT, e_orF, e_Not, e_notK, e_AndV, e_OrV, e_andVT, e_andVF, e_orVT, e_orVF, e_NotV, e_notVK, e_If, e_ifT, e_ifF, e_Tup, e_Lst, e_LstF, e_tup0, e_lst0, e_lstF0, e_eqI, e_neI, e_ltI, e_leI, e_gtI, e_geI, e_lenL, e_lenT, e_lenR, e_lenS, e_ixL, e_ixT, at0, at1, at2, at3, e_tupL, e_tupT, e_lstT, e_Own, e_ownK, e_Sub, e_For, e_Items, e_itL, e_itT, e_itR, e_Call, e_CallF, e_aNil, e_aVal, e_aVK, e_aVK2, step0, step1, step2, step3, out0, out1, out2, out3, outX1, outX2, outO1, outO2, outO3, e_onSh, e_onOw, decide_true, decide_false, Bool.not_true, Bool.not_false, List.cons_append, List.nil_append, List.getElem?_cons_zero, List.getElem?_cons_succ, List.set_cons_zero, List.set_cons_succ, Nat.reduceLT, Nat.reduceAdd, Nat.reduceSub, Option.map_some, finF, outsE, e_frz, d_rng7, e_forK, e_tnN, e_tnC, e_tnB, e_tnR, e_whT, e_whF, e_Raise, e_Par, e_parK, e_parK2, e_augK, e_Ch, e_chK1, e_chK2, e_chT, e_chF, e_Try, e_tryO, e_tru, e_While, e_abs, e_max2, e_min2, e_gSq2, e_tup1, e_lst1, e_tup2, e_lst2, e_tup3, e_lst3, e_tup4, e_lst4, e_tup5, e_lst5, e_tup6, e_lst6, e_tup7, e_lst7, e_tup8, e_lst8, isStr, h1, h2]
  · have e : nmS x = false := by
      unfold nmS
      rw [decide_eq_false (show ¬ 1 ≤ x.length by omega)]
      simp
    rw [e]
    simp only [startE, List.map, List.length, List.replicate, e_Seq, e_Asg, e_Ret, e_RetF, e_Expr, e_exprK, e_op, e_op2, e_op1, e_un, e_is, e_B, e_bK, e_Cons, e_consK, e_consK2, e_Nil, e_var, e_C, e_bind, e_bindX, e_bindB, e_lookS, e_lookO, M.toD, e_of, e_asgK, e_gSet, e_stK, e_sqN, e_sqR, e_sqB, e_sqC, e_sNil, e_retK, e_retFK, e_add, e_vI, e_neg, e_fInt, e_fIntB, e_sIf, e_sifT, e_sifF, e_T, e_toB, e_Tru, e_truB, e_And, e_Or, e_andT, e_andF, e_orT, e_orF, e_Not, e_notK, e_AndV, e_OrV, e_andVT, e_andVF, e_orVT, e_orVF, e_NotV, e_notVK, e_If, e_ifT, e_ifF, e_Tup, e_Lst, e_LstF, e_tup0, e_lst0, e_lstF0, e_eqI, e_neI, e_ltI, e_leI, e_gtI, e_geI, e_lenL, e_lenT, e_lenR, e_lenS, e_ixL, e_ixT, at0, at1, at2, at3, e_tupL, e_tupT, e_lstT, e_Own, e_ownK, e_Sub, e_For, e_Items, e_itL, e_itT, e_itR, e_Call, e_CallF, e_aNil, e_aVal, e_aVK, e_aVK2, step0, step1, step2, step3, out0, out1, out2, out3, outX1, outX2, outO1, outO2, outO3, e_onSh, e_onOw, decide_true, decide_false, Bool.not_true, Bool.not_false, List.cons_append, List.nil_append, List.getElem?_cons_zero, List.getElem?_cons_succ, List.set_cons_zero, List.set_cons_succ, Nat.reduceLT, Nat.reduceAdd, Nat.reduceSub, Option.map_some, finF, outsE, e_frz, d_rng7, e_forK, e_tnN, e_tnC, e_tnB, e_tnR, e_whT, e_whF, e_Raise, e_Par, e_parK, e_parK2, e_augK, e_Ch, e_chK1, e_chK2, e_chT, e_chF, e_Try, e_tryO, e_tru, e_While, e_abs, e_max2, e_min2, e_gSq2, e_tup1, e_lst1, e_tup2, e_lst2, e_tup3, e_lst3, e_tup4, e_lst4, e_tup5, e_lst5, e_tup6, e_lst6, e_tup7, e_lst7, e_tup8, e_lst8, isStr, h1]
theorem letters_ok {d : D} (h : Pl d) : m__law_letters [.sh d] = .ok (.sh (.bl (nm d))) [] := by
  cases h with
  | nam h => exact letters_str _ (by rw [sizeLine_eq]; have := h.hi; show Array.size _ ≤ _; omega)
  | bad h hl => exact letters_str _ hl
  | non => kernel_rfl
  | bl b => kernel_rfl
  | int i => kernel_rfl
  | lst ds => kernel_rfl
  | tup ds => kernel_rfl
/-! ### names drawn -/
theorem tk {m : M} {n : Int} (hm : Good m) (hn : 0 < n) (h9 : n.natAbs.log2 < 9000 := by decide) : ∃ r m', m__law_take [.ow m, .sh (.int n)] = .ok (.sh (.int r)) [m'] ∧ Good m' ∧ 0 ≤ r ∧ r < n := take_ok hm hn h9
theorem low_at {r : Int} (h0 : 0 ≤ r) (h1 : r < 26) : ∃ c, vIxI (.str LOW) (.int r) = some (.str ⟨#[c]⟩) ∧ c ∈ lowS := by
  have hl : lowS.length = 26 := by kernel_rfl
  have hr : r.toNat < lowS.length := by omega
  refine ⟨lowS[r.toNat], ?_, List.getElem_mem hr⟩
  show (L2.atI lowS r).map _ = _
  rw [atN h0 (List.getElem?_eq_getElem hr)]
  rfl
theorem name_loop : ∀ (n : Nat) (i : Int) (m : M) (x : Str) (o : Option DV), Good m → x.cps.size + n ≤ 8 → (∀ c ∈ x.cps.toList, c ∈ lowS) → ∃ (m' : M) (y : Str) (o' : Option DV),
    forL (gSet 2) (sAsg (dAdd (dVar 1) (dIx (dC (.str LOW)) (dCall m__law_take (aIo 0 (aVal (dC (.int 26)) (aNil)))))) (gSet 1)) ((List.range n).map fun k => D.int (i + (k : Nat))) [some (.ow m), some (.sh (.str x)), o]
      = .ok .nx [some (.ow m'), some (.sh (.str y)), o'] ∧ Good m' ∧ y.cps.size = x.cps.size + n ∧ (∀ c ∈ y.cps.toList, c ∈ lowS)
  | 0, i, m, x, o, hm, hl, hx => ⟨m, x, o, rfl, hm, by omega, hx⟩
  | n + 1, i, m, x, o, hm, hl, hx => by
    obtain ⟨r, m1, e1, g1, r0, r1⟩ := tk (n := 26) hm (by decide)
    obtain ⟨c, hc, hcm⟩ := low_at r0 r1
    have hsz : x.length + (⟨#[c]⟩ : Str).length ≤ sizeLine := by
      rw [sizeLine_eq]
      show x.cps.size + 1 ≤ _
      omega
    have hcat := e_addS x ⟨#[c]⟩ hsz
    have hsize : (x ++ (⟨#[c]⟩ : Str)).cps.size = x.cps.size + 1 := by show (x.cps ++ #[c]).size = _; simp
    have hmem : ∀ d ∈ (x ++ (⟨#[c]⟩ : Str)).cps.toList, d ∈ lowS := by
      show ∀ d ∈ (x.cps ++ #[c]).toList, _
      intro d hd
      simp only [Array.toList_append, List.mem_append, List.mem_singleton] at hd
      rcases hd with hd | rfl
      · exact hx d hd
      · exact hcm
    obtain ⟨m', y, o', h1, h2, h3, h4⟩ := name_loop n (i + 1) m1 (x ++ ⟨#[c]⟩) (some (.sh (.int i))) g1 (by omega) hmem
    refine ⟨m', y, o', ?_, h2, by omega, h4⟩
    rw [List.range_succ_eq_map, List.map_cons, List.map_map, forL_set _ _ _ _ _ (by decide : 2 < 3)]
    have e : ((fun k : Nat => D.int (i + (k : Nat))) ∘ Nat.succ) = fun k : Nat => D.int (i + 1 + (k : Nat)) := by
      funext k
      show D.int (i + ((k + 1 : Nat) : Int)) = _
      rw [show i + ((k + 1 : Nat) : Int) = i + 1 + (k : Int) by omega]
    rw [e, show (D.int (i + ((0 : Nat) : Int))) = D.int i by rw [show i + ((0 : Nat) : Int) = i by omega]]
    rw [← h1]
    generalize forL (gSet 2) _ _ = k
    simp only [startE, List.map, List.length, List.replicate, e_Seq, e_Asg, e_Ret, e_RetF, e_Expr, e_exprK, e_op, e_op2, e_op1, e_un, e_is, e_B, e_bK, e_Cons, e_consK, e_consK2, e_Nil, e_var, e_C, e_bind, e_bindX, e_bindB, e_lookS, e_lookO, M.toD, e_of, e_asgK, e_gSet, e_stK, e_sqN, e_sqR, e_sqB, e_sqC, e_sNil, e_retK, e_retFK, e_add, e_vI, e_neg, e_fInt, e_fIntB, e_sIf, e_sifT, e_sifF, e_T, e_toB, e_Tru, e_truB, e_And, e_Or, e_andT, e_andF, e_orT, e_orF, e_Not, e_notK, e_AndV, e_OrV, e_andVT, e_andVF, e_orVT, e_orVF, e_NotV, e_notVK, e_If, e_ifT, e_ifF, e_Tup, e_Lst, e_LstF, e_tup0, e_lst0, e_lstF0, e_eqI, e_neI, e_ltI, e_leI, e_gtI, e_geI, e_lenL, e_lenT, e_lenR, e_lenS, e_ixL, e_ixT, at0, at1, at2, at3, e_tupL, e_tupT, e_lstT, e_Own, e_ownK, e_Sub, e_For, e_Items, e_itL, e_itT, e_itR, e_Call, e_CallF, e_aNil, e_aVal, e_aVK, e_aVK2, step0, step1, step2, step3, out0, out1, out2, out3, outX1, outX2, outO1, outO2, outO3, e_onSh, e_onOw, decide_true, decide_false, Bool.not_true, Bool.not_false, List.cons_append, List.nil_append, List.getElem?_cons_zero, List.getElem?_cons_succ, List.set_cons_zero, List.set_cons_succ, Nat.reduceLT, Nat.reduceAdd, Nat.reduceSub, Option.map_some, finF, outsE, e_frz, d_rng7, e_forK, e_tnN, e_tnC, e_tnB, e_tnR, e_whT, e_whF, e_Raise, e_Par, e_parK, e_parK2, e_augK, e_Ch, e_chK1, e_chK2, e_chT, e_chF, e_Try, e_tryO, e_tru, e_While, e_abs, e_max2, e_min2, e_gSq2, e_tup1, e_lst1, e_tup2, e_lst2, e_tup3, e_lst3, e_tup4, e_lst4, e_tup5, e_lst5, e_tup6, e_lst6, e_tup7, e_lst7, e_tup8, e_lst8, e_aIo (m := m), stepO2 (m := m), e1, hc, hcat]
theorem rngOk_le {n : Int} (h0 : 0 ≤ n) (h : n ≤ 100) : rngOk n = true := by
  unfold rngOk
  rw [decide_eq_true (by omega), decide_eq_true (by omega)]
  rfl
theorem rng_eq {n : Int} : rng 0 n = (List.range n.toNat).map fun k => D.int (0 + (k : Nat)) := by unfold rng; rw [Int.sub_zero]
theorem dname_ok {m : M} (hm : Good m) : ∃ (x : Str) (m' : M), m__law_name [.ow m] = .ok (.sh (.str x)) [m'] ∧ Good m' ∧ Nm x := by
  obtain ⟨r, m1, e1, g1, r0, r1⟩ := tk (n := 8) hm (by decide)
  obtain ⟨m', y, o', h1, h2, h3, h4⟩ := name_loop (1 + r).toNat 0 m1 ("" : Str) none g1 (by show 0 + _ ≤ 8; omega) (by intro c hc; cases hc)
  refine ⟨y, m', ?_, h2, ⟨by rw [h3]; omega, by rw [h3]; show 0 + _ ≤ _; omega, h4⟩⟩
  refine (e_run [0] 3 _ _ rfl).trans ?_
  unfold b__law_name
  rw [← rng_eq] at h1
  simp only [startE, List.map, List.length, List.replicate, e_Seq, e_Asg, e_Ret, e_RetF, e_Expr, e_exprK, e_op, e_op2, e_op1, e_un, e_is, e_B, e_bK, e_Cons, e_consK, e_consK2, e_Nil, e_var, e_C, e_bind, e_bindX, e_bindB, e_lookS, e_lookO, M.toD, e_of, e_asgK, e_gSet, e_stK, e_sqN, e_sqR, e_sqB, e_sqC, e_sNil, e_retK, e_retFK, e_add, e_vI, e_neg, e_fInt, e_fIntB, e_sIf, e_sifT, e_sifF, e_T, e_toB, e_Tru, e_truB, e_And, e_Or, e_andT, e_andF, e_orT, e_orF, e_Not, e_notK, e_AndV, e_OrV, e_andVT, e_andVF, e_orVT, e_orVF, e_NotV, e_notVK, e_If, e_ifT, e_ifF, e_Tup, e_Lst, e_LstF, e_tup0, e_lst0, e_lstF0, e_eqI, e_neI, e_ltI, e_leI, e_gtI, e_geI, e_lenL, e_lenT, e_lenR, e_lenS, e_ixL, e_ixT, at0, at1, at2, at3, e_tupL, e_tupT, e_lstT, e_Own, e_ownK, e_Sub, e_For, e_Items, e_itL, e_itT, e_itR, e_Call, e_CallF, e_aNil, e_aVal, e_aVK, e_aVK2, step0, step1, step2, step3, out0, out1, out2, out3, outX1, outX2, outO1, outO2, outO3, e_onSh, e_onOw, decide_true, decide_false, Bool.not_true, Bool.not_false, List.cons_append, List.nil_append, List.getElem?_cons_zero, List.getElem?_cons_succ, List.set_cons_zero, List.set_cons_succ, Nat.reduceLT, Nat.reduceAdd, Nat.reduceSub, Option.map_some, finF, outsE, e_frz, d_rng7, e_forK, e_tnN, e_tnC, e_tnB, e_tnR, e_whT, e_whF, e_Raise, e_Par, e_parK, e_parK2, e_augK, e_Ch, e_chK1, e_chK2, e_chT, e_chF, e_Try, e_tryO, e_tru, e_While, e_abs, e_max2, e_min2, e_gSq2, e_tup1, e_lst1, e_tup2, e_lst2, e_tup3, e_lst3, e_tup4, e_lst4, e_tup5, e_lst5, e_tup6, e_lst6, e_tup7, e_lst7, e_tup8, e_lst8, e_aIo (m := m), stepO2 (m := m), e1, e_Rng1, e_rng1K (h := rngOk_le (show 0 ≤ 1 + r by omega) (show 1 + r ≤ 100 by omega)), h1]
end L05
set_option Elab.async false
set_option linter.all false
set_option maxRecDepth 100000
set_option maxHeartbeats 4000000
namespace L05
open PySem L2 Rf
/-! ### situations -/
def sit (a b c d : D) : D := .ins 4 [("teller", a), ("hearer", b), ("day", c), ("place", d)]
theorem f_teller (a b c d : D) : vFld (fun c => c == 4) "teller" (sit a b c d) = some a := by kernel_rfl
theorem f_hearer (a b c d : D) : vFld (fun c => c == 4) "hearer" (sit a b c d) = some b := by kernel_rfl
theorem f_day (a b c d : D) : vFld (fun c => c == 4) "day" (sit a b c d) = some c := by kernel_rfl
theorem f_place (a b c d : D) : vFld (fun c => c == 4) "place" (sit a b c d) = some d := by kernel_rfl
def xS (s : Str) : EX := ⟨2, [("what", .str s)]⟩
theorem sub_xS (s : Str) : subT (xS s).c 2 = some true := rfl
theorem x_what (s : Str) (ρ : ENV) : dXf (fun c => c == 2) "what" (xS s) ρ = .ok (.str s) ρ := by kernel_rfl
theorem ra_what (s : Str) (ρ : ENV) : raFK 2 ["what"] [.str s] ρ = .exc (xS s) ρ := rfl
theorem tryA (i : Nat) (ss : EX → ENV → R Fl) (s : Str) (ρ : ENV) (hi : i < ρ.length) : tryAK subT 2 i ss (.exc (xS s) ρ) = asgnK i (ss (xS s) (ρ.set i none)) := e_tryAX _ _ _ _ _ _ rfl hi
theorem set4 (a b c d : D) : (sSeq (sFld (fun c => c == 4) "teller" 0 (dVar 1)) (sSeq (sFld (fun c => c == 4) "hearer" 0 (dVar 2)) (sSeq (sFld (fun c => c == 4) "day" 0 (dVar 3)) (sFld (fun c => c == 4) "place" 0 (dVar 4)))))
    [some (.ow (.ins 4 [])), some (.sh a), some (.sh b), some (.sh c), some (.sh d)] = .ok .nx [some (.ow (.ins 4 [("teller", a), ("hearer", b), ("day", c), ("place", d)])), some (.sh a), some (.sh b), some (.sh c), some (.sh d)] := by kernel_rfl
def sitM (a b c d : D) : M := .ins 4 [("teller", a), ("hearer", b), ("day", c), ("place", d)]
def init4 (a b c d : D) : FO := if nm a = false then .exc (xS "teller") [.ins 4 []] else if nm b = false then .exc (xS "hearer") [.ins 4 []] else if wh c = false then .exc (xS "day") [.ins 4 []] else if nm d = false then .exc (xS "place") [.ins 4 []] else .ok (.sh .non) [sitM a b c d]
def tried (a b c d : D) : D := if nm a = false then .str "teller" else if nm b = false then .str "hearer" else if wh c = false then .str "day" else if nm d = false then .str "place" else sit a b c d
def due (a b c d : D) : D := if nm a = false then .str "teller" else if nm b = false then .str "hearer" else if wh c = false then .str "day" else if nm d = false then .str "place" else .non
theorem sif_f (c : ENV → R Bool) (a b : ENV → R Fl) (ρ ρ1 : ENV) (h : c ρ = .ok false ρ1) : sIf c a b ρ = b ρ1 := by unfold sIf; rw [h]; rfl
theorem sif_t (c : ENV → R Bool) (a b : ENV → R Fl) (ρ ρ1 : ENV) (h : c ρ = .ok true ρ1) : sIf c a b ρ = a ρ1 := by unfold sIf; rw [h]; rfl
theorem sit_init {a b c d : D} (ha : Pl a) (hb : Pl b) (hc : Pl c) (hd : Pl d) : m_Situation___init__ [.ow (.ins 4 []), .sh a, .sh b, .sh c, .sh d] = init4 a b c d := by
  have ea := name_ok ha
  have eb := name_ok hb
  have ec := whole_ok hc
  have ed := name_ok hd
  refine (e_run [0] 5 _ _ rfl).trans ?_
  unfold b_Situation___init__ init4
  cases na : nm a with
  | false => rw [na] at ea; simp only [startE, List.map, List.length, List.replicate, e_Seq, e_Asg, e_Ret, e_RetF, e_Expr, e_exprK, e_op, e_op2, e_op1, e_un, e_is, e_B, e_bK, e_Cons, e_consK, e_consK2, e_Nil, e_var, e_C, e_bind, e_bindX, e_bindB, e_lookS, e_lookO, M.toD, e_of, e_asgK, e_gSet, e_stK, e_sqN, e_sqR, e_sqB, e_sqC, e_sNil, e_retK, e_retFK, e_add, e_vI, e_neg, e_fInt, e_fIntB, e_sIf, e_sifT, e_sifF, e_T, e_toB, e_Tru, e_truB, e_And, e_Or, e_andT, e_andF, e_orT, e_orF, e_Not, e_notK, e_AndV, e_OrV, e_andVT, e_andVF, e_orVT, e_orVF, e_NotV, e_notVK, e_If, e_ifT, e_ifF, e_Tup, e_Lst, e_LstF, e_tup0, e_lst0, e_lstF0, e_eqI, e_neI, e_ltI, e_leI, e_gtI, e_geI, e_lenL, e_lenT, e_lenR, e_lenS, e_ixL, e_ixT, at0, at1, at2, at3, e_tupL, e_tupT, e_lstT, e_Own, e_ownK, e_Sub, e_For, e_Items, e_itL, e_itT, e_itR, e_Call, e_CallF, e_aNil, e_aVal, e_aVK, e_aVK2, step0, step1, step2, step3, out0, out1, out2, out3, outX1, outX2, outO1, outO2, outO3, e_onSh, e_onOw, decide_true, decide_false, Bool.not_true, Bool.not_false, List.cons_append, List.nil_append, List.getElem?_cons_zero, List.getElem?_cons_succ, List.set_cons_zero, List.set_cons_succ, Nat.reduceLT, Nat.reduceAdd, Nat.reduceSub, Option.map_some, finF, outsE, e_frz, d_rng7, e_forK, e_tnN, e_tnC, e_tnB, e_tnR, e_whT, e_whF, e_Raise, e_Par, e_parK, e_parK2, e_augK, e_Ch, e_chK1, e_chK2, e_chT, e_chF, e_Try, e_tryO, e_tru, e_While, e_abs, e_max2, e_min2, e_gSq2, e_tup1, e_lst1, e_tup2, e_lst2, e_tup3, e_lst3, e_tup4, e_lst4, e_tup5, e_lst5, e_tup6, e_lst6, e_tup7, e_lst7, e_tup8, e_lst8, e_RaF, e_raF1, e_raF2, e_TryA, e_tryAO, e_asgnK, e_frzX, e_bindX, e_Fld, e_SFld, e_Mk, e_mkK1, e_mkK2, e_mkK3, e_mkK4, e_mkO, e_mkX, e_Met, e_metK2, e_Enum, e_enumL, e_enumT, pairs2, pairs3, pairs4, e_lst9, e_lst10, e_lst11, e_lst12, e_tup9, e_tup10, e_tup11, e_tup12, e_ListF, e_listFT, e_listFL, e_IfB, e_ifBT, e_ifBF, e_notB, e_isB, o_int, o_str, o_tup, o_lst, o_non, o_bl, n_int, n_str, n_tup, n_lst, n_non, n_bl, ea, xS, if_true]
  | true =>
    cases nb : nm b with
    | false => rw [na] at ea; rw [nb] at eb; simp only [startE, List.map, List.length, List.replicate, e_Seq, e_Asg, e_Ret, e_RetF, e_Expr, e_exprK, e_op, e_op2, e_op1, e_un, e_is, e_B, e_bK, e_Cons, e_consK, e_consK2, e_Nil, e_var, e_C, e_bind, e_bindX, e_bindB, e_lookS, e_lookO, M.toD, e_of, e_asgK, e_gSet, e_stK, e_sqN, e_sqR, e_sqB, e_sqC, e_sNil, e_retK, e_retFK, e_add, e_vI, e_neg, e_fInt, e_fIntB, e_sIf, e_sifT, e_sifF, e_T, e_toB, e_Tru, e_truB, e_And, e_Or, e_andT, e_andF, e_orT, e_orF, e_Not, e_notK, e_AndV, e_OrV, e_andVT, e_andVF, e_orVT, e_orVF, e_NotV, e_notVK, e_If, e_ifT, e_ifF, e_Tup, e_Lst, e_LstF, e_tup0, e_lst0, e_lstF0, e_eqI, e_neI, e_ltI, e_leI, e_gtI, e_geI, e_lenL, e_lenT, e_lenR, e_lenS, e_ixL, e_ixT, at0, at1, at2, at3, e_tupL, e_tupT, e_lstT, e_Own, e_ownK, e_Sub, e_For, e_Items, e_itL, e_itT, e_itR, e_Call, e_CallF, e_aNil, e_aVal, e_aVK, e_aVK2, step0, step1, step2, step3, out0, out1, out2, out3, outX1, outX2, outO1, outO2, outO3, e_onSh, e_onOw, decide_true, decide_false, Bool.not_true, Bool.not_false, List.cons_append, List.nil_append, List.getElem?_cons_zero, List.getElem?_cons_succ, List.set_cons_zero, List.set_cons_succ, Nat.reduceLT, Nat.reduceAdd, Nat.reduceSub, Option.map_some, finF, outsE, e_frz, d_rng7, e_forK, e_tnN, e_tnC, e_tnB, e_tnR, e_whT, e_whF, e_Raise, e_Par, e_parK, e_parK2, e_augK, e_Ch, e_chK1, e_chK2, e_chT, e_chF, e_Try, e_tryO, e_tru, e_While, e_abs, e_max2, e_min2, e_gSq2, e_tup1, e_lst1, e_tup2, e_lst2, e_tup3, e_lst3, e_tup4, e_lst4, e_tup5, e_lst5, e_tup6, e_lst6, e_tup7, e_lst7, e_tup8, e_lst8, e_RaF, e_raF1, e_raF2, e_TryA, e_tryAO, e_asgnK, e_frzX, e_bindX, e_Fld, e_SFld, e_Mk, e_mkK1, e_mkK2, e_mkK3, e_mkK4, e_mkO, e_mkX, e_Met, e_metK2, e_Enum, e_enumL, e_enumT, pairs2, pairs3, pairs4, e_lst9, e_lst10, e_lst11, e_lst12, e_tup9, e_tup10, e_tup11, e_tup12, e_ListF, e_listFT, e_listFL, e_IfB, e_ifBT, e_ifBF, e_notB, e_isB, o_int, o_str, o_tup, o_lst, o_non, o_bl, n_int, n_str, n_tup, n_lst, n_non, n_bl, ea, eb, xS, if_true, if_false, Bool.true_eq_false]
    | true =>
      cases nc : wh c with
      | false => rw [na] at ea; rw [nb] at eb; rw [nc] at ec; simp only [startE, List.map, List.length, List.replicate, e_Seq, e_Asg, e_Ret, e_RetF, e_Expr, e_exprK, e_op, e_op2, e_op1, e_un, e_is, e_B, e_bK, e_Cons, e_consK, e_consK2, e_Nil, e_var, e_C, e_bind, e_bindX, e_bindB, e_lookS, e_lookO, M.toD, e_of, e_asgK, e_gSet, e_stK, e_sqN, e_sqR, e_sqB, e_sqC, e_sNil, e_retK, e_retFK, e_add, e_vI, e_neg, e_fInt, e_fIntB, e_sIf, e_sifT, e_sifF, e_T, e_toB, e_Tru, e_truB, e_And, e_Or, e_andT, e_andF, e_orT, e_orF, e_Not, e_notK, e_AndV, e_OrV, e_andVT, e_andVF, e_orVT, e_orVF, e_NotV, e_notVK, e_If, e_ifT, e_ifF, e_Tup, e_Lst, e_LstF, e_tup0, e_lst0, e_lstF0, e_eqI, e_neI, e_ltI, e_leI, e_gtI, e_geI, e_lenL, e_lenT, e_lenR, e_lenS, e_ixL, e_ixT, at0, at1, at2, at3, e_tupL, e_tupT, e_lstT, e_Own, e_ownK, e_Sub, e_For, e_Items, e_itL, e_itT, e_itR, e_Call, e_CallF, e_aNil, e_aVal, e_aVK, e_aVK2, step0, step1, step2, step3, out0, out1, out2, out3, outX1, outX2, outO1, outO2, outO3, e_onSh, e_onOw, decide_true, decide_false, Bool.not_true, Bool.not_false, List.cons_append, List.nil_append, List.getElem?_cons_zero, List.getElem?_cons_succ, List.set_cons_zero, List.set_cons_succ, Nat.reduceLT, Nat.reduceAdd, Nat.reduceSub, Option.map_some, finF, outsE, e_frz, d_rng7, e_forK, e_tnN, e_tnC, e_tnB, e_tnR, e_whT, e_whF, e_Raise, e_Par, e_parK, e_parK2, e_augK, e_Ch, e_chK1, e_chK2, e_chT, e_chF, e_Try, e_tryO, e_tru, e_While, e_abs, e_max2, e_min2, e_gSq2, e_tup1, e_lst1, e_tup2, e_lst2, e_tup3, e_lst3, e_tup4, e_lst4, e_tup5, e_lst5, e_tup6, e_lst6, e_tup7, e_lst7, e_tup8, e_lst8, e_RaF, e_raF1, e_raF2, e_TryA, e_tryAO, e_asgnK, e_frzX, e_bindX, e_Fld, e_SFld, e_Mk, e_mkK1, e_mkK2, e_mkK3, e_mkK4, e_mkO, e_mkX, e_Met, e_metK2, e_Enum, e_enumL, e_enumT, pairs2, pairs3, pairs4, e_lst9, e_lst10, e_lst11, e_lst12, e_tup9, e_tup10, e_tup11, e_tup12, e_ListF, e_listFT, e_listFL, e_IfB, e_ifBT, e_ifBF, e_notB, e_isB, o_int, o_str, o_tup, o_lst, o_non, o_bl, n_int, n_str, n_tup, n_lst, n_non, n_bl, ea, eb, ec, xS, if_true, if_false, Bool.true_eq_false]
      | true =>
        cases nd : nm d with
        | false => rw [na] at ea; rw [nb] at eb; rw [nc] at ec; rw [nd] at ed; simp only [startE, List.map, List.length, List.replicate, e_Seq, e_Asg, e_Ret, e_RetF, e_Expr, e_exprK, e_op, e_op2, e_op1, e_un, e_is, e_B, e_bK, e_Cons, e_consK, e_consK2, e_Nil, e_var, e_C, e_bind, e_bindX, e_bindB, e_lookS, e_lookO, M.toD, e_of, e_asgK, e_gSet, e_stK, e_sqN, e_sqR, e_sqB, e_sqC, e_sNil, e_retK, e_retFK, e_add, e_vI, e_neg, e_fInt, e_fIntB, e_sIf, e_sifT, e_sifF, e_T, e_toB, e_Tru, e_truB, e_And, e_Or, e_andT, e_andF, e_orT, e_orF, e_Not, e_notK, e_AndV, e_OrV, e_andVT, e_andVF, e_orVT, e_orVF, e_NotV, e_notVK, e_If, e_ifT, e_ifF, e_Tup, e_Lst, e_LstF, e_tup0, e_lst0, e_lstF0, e_eqI, e_neI, e_ltI, e_leI, e_gtI, e_geI, e_lenL, e_lenT, e_lenR, e_lenS, e_ixL, e_ixT, at0, at1, at2, at3, e_tupL, e_tupT, e_lstT, e_Own, e_ownK, e_Sub, e_For, e_Items, e_itL, e_itT, e_itR, e_Call, e_CallF, e_aNil, e_aVal, e_aVK, e_aVK2, step0, step1, step2, step3, out0, out1, out2, out3, outX1, outX2, outO1, outO2, outO3, e_onSh, e_onOw, decide_true, decide_false, Bool.not_true, Bool.not_false, List.cons_append, List.nil_append, List.getElem?_cons_zero, List.getElem?_cons_succ, List.set_cons_zero, List.set_cons_succ, Nat.reduceLT, Nat.reduceAdd, Nat.reduceSub, Option.map_some, finF, outsE, e_frz, d_rng7, e_forK, e_tnN, e_tnC, e_tnB, e_tnR, e_whT, e_whF, e_Raise, e_Par, e_parK, e_parK2, e_augK, e_Ch, e_chK1, e_chK2, e_chT, e_chF, e_Try, e_tryO, e_tru, e_While, e_abs, e_max2, e_min2, e_gSq2, e_tup1, e_lst1, e_tup2, e_lst2, e_tup3, e_lst3, e_tup4, e_lst4, e_tup5, e_lst5, e_tup6, e_lst6, e_tup7, e_lst7, e_tup8, e_lst8, e_RaF, e_raF1, e_raF2, e_TryA, e_tryAO, e_asgnK, e_frzX, e_bindX, e_Fld, e_SFld, e_Mk, e_mkK1, e_mkK2, e_mkK3, e_mkK4, e_mkO, e_mkX, e_Met, e_metK2, e_Enum, e_enumL, e_enumT, pairs2, pairs3, pairs4, e_lst9, e_lst10, e_lst11, e_lst12, e_tup9, e_tup10, e_tup11, e_tup12, e_ListF, e_listFT, e_listFL, e_IfB, e_ifBT, e_ifBF, e_notB, e_isB, o_int, o_str, o_tup, o_lst, o_non, o_bl, n_int, n_str, n_tup, n_lst, n_non, n_bl, ea, eb, ec, ed, xS, if_true, if_false, Bool.true_eq_false]
        | true =>
          rw [na] at ea; rw [nb] at eb; rw [nc] at ec; rw [nd] at ed
          have q := set4 a b c d
          generalize (sSeq (sFld (fun c => c == 4) "teller" 0 (dVar 1)) (sSeq (sFld (fun c => c == 4) "hearer" 0 (dVar 2)) (sSeq (sFld (fun c => c == 4) "day" 0 (dVar 3)) (sFld (fun c => c == 4) "place" 0 (dVar 4))))) = tail at q ⊢
          simp only [startE, List.map, List.length, List.replicate, e_Seq, e_Asg, e_Ret, e_RetF, e_Expr, e_exprK, e_op, e_op2, e_op1, e_un, e_is, e_B, e_bK, e_Cons, e_consK, e_consK2, e_Nil, e_var, e_C, e_bind, e_bindX, e_bindB, e_lookS, e_lookO, M.toD, e_of, e_asgK, e_gSet, e_stK, e_sqN, e_sqR, e_sqB, e_sqC, e_sNil, e_retK, e_retFK, e_add, e_vI, e_neg, e_fInt, e_fIntB, e_sIf, e_sifT, e_sifF, e_T, e_toB, e_Tru, e_truB, e_And, e_Or, e_andT, e_andF, e_orT, e_orF, e_Not, e_notK, e_AndV, e_OrV, e_andVT, e_andVF, e_orVT, e_orVF, e_NotV, e_notVK, e_If, e_ifT, e_ifF, e_Tup, e_Lst, e_LstF, e_tup0, e_lst0, e_lstF0, e_eqI, e_neI, e_ltI, e_leI, e_gtI, e_geI, e_lenL, e_lenT, e_lenR, e_lenS, e_ixL, e_ixT, at0, at1, at2, at3, e_tupL, e_tupT, e_lstT, e_Own, e_ownK, e_Sub, e_For, e_Items, e_itL, e_itT, e_itR, e_Call, e_CallF, e_aNil, e_aVal, e_aVK, e_aVK2, step0, step1, step2, step3, out0, out1, out2, out3, outX1, outX2, outO1, outO2, outO3, e_onSh, e_onOw, decide_true, decide_false, Bool.not_true, Bool.not_false, List.cons_append, List.nil_append, List.getElem?_cons_zero, List.getElem?_cons_succ, List.set_cons_zero, List.set_cons_succ, Nat.reduceLT, Nat.reduceAdd, Nat.reduceSub, Option.map_some, finF, outsE, e_frz, d_rng7, e_forK, e_tnN, e_tnC, e_tnB, e_tnR, e_whT, e_whF, e_Raise, e_Par, e_parK, e_parK2, e_augK, e_Ch, e_chK1, e_chK2, e_chT, e_chF, e_Try, e_tryO, e_tru, e_While, e_abs, e_max2, e_min2, e_gSq2, e_tup1, e_lst1, e_tup2, e_lst2, e_tup3, e_lst3, e_tup4, e_lst4, e_tup5, e_lst5, e_tup6, e_lst6, e_tup7, e_lst7, e_tup8, e_lst8, ea, eb, ec, ed, q, sitM, if_true, if_false, Bool.true_eq_false]
theorem sitM_D (a b c d : D) : (sitM a b c d).toD = sit a b c d := rfl
theorem gS4 (i j k l : Nat) (a b c d : D) (x : Option DV) (o1 o2 o3 o4 o5 o6 : Option DV) : gSeq 4 (gsCons (gSet 1) (gsCons (gSet 2) (gsCons (gSet 3) (gsCons (gSet 4) (gsNil))))) (.tup [a, b, c, d]) [x, o1, o2, o3, o4, o5, o6]
    = some [x, some (.sh a), some (.sh b), some (.sh c), some (.sh d), o5, o6] := rfl
theorem gL4 (a b c d : D) (x : Option DV) (o1 o2 o3 o4 o5 o6 : Option DV) : gSeq 4 (gsCons (gSet 1) (gsCons (gSet 2) (gsCons (gSet 3) (gsCons (gSet 4) (gsNil))))) (.lst [a, b, c, d]) [x, o1, o2, o3, o4, o5, o6]
    = some [x, some (.sh a), some (.sh b), some (.sh c), some (.sh d), o5, o6] := rfl
theorem gT4 (a b c d : D) (x : Option DV) (o1 o2 o3 o4 o5 o6 : Option DV) : gSeq 4 (gsCons (gSet 1) (gsCons (gSet 2) (gsCons (gSet 3) (gsCons (gSet 4) (gsNil))))) (.tup [a, b, c, d]) [x, o1, o2, o3, o4, o5, o6]
    = some [x, some (.sh a), some (.sh b), some (.sh c), some (.sh d), o5, o6] := rfl
theorem tried_gen {a b c d x : D} (hx : x = .tup [a, b, c, d] ∨ x = .lst [a, b, c, d]) (ha : Pl a) (hb : Pl b) (hc : Pl c) (hd : Pl d) : m__law_tried [.sh x] = .ok (.sh (tried a b c d)) [] := by
  have e0 := sit_init ha hb hc hd
  have g4 : gSeq 4 (gsCons (gSet 1) (gsCons (gSet 2) (gsCons (gSet 3) (gsCons (gSet 4) (gsNil))))) x [some (.sh x), none, none, none, none, none, none] = some [some (.sh x), some (.sh a), some (.sh b), some (.sh c), some (.sh d), none, none] := by
    rcases hx with rfl | rfl <;> rfl
  refine (e_run [] 7 _ _ rfl).trans ?_
  unfold b__law_tried tried
  unfold init4 at e0
  cases na : nm a with
  | false => simp only [na, if_true] at e0; simp only [startE, List.map, List.length, List.replicate, e_Seq, e_Asg, e_Ret, e_RetF, e_Expr, e_exprK, e_op, e_op2, e_op1, e_un, e_is, e_B, e_bK, e_Cons, e_consK, e_consK2, e_Nil, e_var, e_C, e_bind, e_bindX, e_bindB, e_lookS, e_lookO, M.toD, e_of, e_asgK, e_gSet, e_stK, e_sqN, e_sqR, e_sqB, e_sqC, e_sNil, e_retK, e_retFK, e_add, e_vI, e_neg, e_fInt, e_fIntB, e_sIf, e_sifT, e_sifF, e_T, e_toB, e_Tru, e_truB, e_And, e_Or, e_andT, e_andF, e_orT, e_orF, e_Not, e_notK, e_AndV, e_OrV, e_andVT, e_andVF, e_orVT, e_orVF, e_NotV, e_notVK, e_If, e_ifT, e_ifF, e_Tup, e_Lst, e_LstF, e_tup0, e_lst0, e_lstF0, e_eqI, e_neI, e_ltI, e_leI, e_gtI, e_geI, e_lenL, e_lenT, e_lenR, e_lenS, e_ixL, e_ixT, at0, at1, at2, at3, e_tupL, e_tupT, e_lstT, e_Own, e_ownK, e_Sub, e_For, e_Items, e_itL, e_itT, e_itR, e_Call, e_CallF, e_aNil, e_aVal, e_aVK, e_aVK2, step0, step1, step2, step3, out0, out1, out2, out3, outX1, outX2, outO1, outO2, outO3, e_onSh, e_onOw, decide_true, decide_false, Bool.not_true, Bool.not_false, List.cons_append, List.nil_append, List.getElem?_cons_zero, List.getElem?_cons_succ, List.set_cons_zero, List.set_cons_succ, Nat.reduceLT, Nat.reduceAdd, Nat.reduceSub, Option.map_some, finF, outsE, e_frz, d_rng7, e_forK, e_tnN, e_tnC, e_tnB, e_tnR, e_whT, e_whF, e_Raise, e_Par, e_parK, e_parK2, e_augK, e_Ch, e_chK1, e_chK2, e_chT, e_chF, e_Try, e_tryO, e_tru, e_While, e_abs, e_max2, e_min2, e_gSq2, e_tup1, e_lst1, e_tup2, e_lst2, e_tup3, e_lst3, e_tup4, e_lst4, e_tup5, e_lst5, e_tup6, e_lst6, e_tup7, e_lst7, e_tup8, e_lst8, e_RaF, e_raF1, e_raF2, e_TryA, e_tryAO, e_asgnK, e_frzX, e_bindX, e_Fld, e_SFld, e_Mk, e_mkK1, e_mkK2, e_mkK3, e_mkK4, e_mkO, e_mkX, e_Met, e_metK2, e_Enum, e_enumL, e_enumT, pairs2, pairs3, pairs4, e_lst9, e_lst10, e_lst11, e_lst12, e_tup9, e_tup10, e_tup11, e_tup12, e_ListF, e_listFT, e_listFL, e_IfB, e_ifBT, e_ifBF, e_notB, e_isB, o_int, o_str, o_tup, o_lst, o_non, o_bl, n_int, n_str, n_tup, n_lst, n_non, n_bl, g4, e0, tryA, x_what, if_true]
  | true =>
    cases nb : nm b with
    | false => simp only [na, nb, if_true, if_false, Bool.true_eq_false] at e0; simp only [startE, List.map, List.length, List.replicate, e_Seq, e_Asg, e_Ret, e_RetF, e_Expr, e_exprK, e_op, e_op2, e_op1, e_un, e_is, e_B, e_bK, e_Cons, e_consK, e_consK2, e_Nil, e_var, e_C, e_bind, e_bindX, e_bindB, e_lookS, e_lookO, M.toD, e_of, e_asgK, e_gSet, e_stK, e_sqN, e_sqR, e_sqB, e_sqC, e_sNil, e_retK, e_retFK, e_add, e_vI, e_neg, e_fInt, e_fIntB, e_sIf, e_sifT, e_sifF, e_T, e_toB, e_Tru, e_truB, e_And, e_Or, e_andT, e_andF, e_orT, e_orF, e_Not, e_notK, e_AndV, e_OrV, e_andVT, e_andVF, e_orVT, e_orVF, e_NotV, e_notVK, e_If, e_ifT, e_ifF, e_Tup, e_Lst, e_LstF, e_tup0, e_lst0, e_lstF0, e_eqI, e_neI, e_ltI, e_leI, e_gtI, e_geI, e_lenL, e_lenT, e_lenR, e_lenS, e_ixL, e_ixT, at0, at1, at2, at3, e_tupL, e_tupT, e_lstT, e_Own, e_ownK, e_Sub, e_For, e_Items, e_itL, e_itT, e_itR, e_Call, e_CallF, e_aNil, e_aVal, e_aVK, e_aVK2, step0, step1, step2, step3, out0, out1, out2, out3, outX1, outX2, outO1, outO2, outO3, e_onSh, e_onOw, decide_true, decide_false, Bool.not_true, Bool.not_false, List.cons_append, List.nil_append, List.getElem?_cons_zero, List.getElem?_cons_succ, List.set_cons_zero, List.set_cons_succ, Nat.reduceLT, Nat.reduceAdd, Nat.reduceSub, Option.map_some, finF, outsE, e_frz, d_rng7, e_forK, e_tnN, e_tnC, e_tnB, e_tnR, e_whT, e_whF, e_Raise, e_Par, e_parK, e_parK2, e_augK, e_Ch, e_chK1, e_chK2, e_chT, e_chF, e_Try, e_tryO, e_tru, e_While, e_abs, e_max2, e_min2, e_gSq2, e_tup1, e_lst1, e_tup2, e_lst2, e_tup3, e_lst3, e_tup4, e_lst4, e_tup5, e_lst5, e_tup6, e_lst6, e_tup7, e_lst7, e_tup8, e_lst8, e_RaF, e_raF1, e_raF2, e_TryA, e_tryAO, e_asgnK, e_frzX, e_bindX, e_Fld, e_SFld, e_Mk, e_mkK1, e_mkK2, e_mkK3, e_mkK4, e_mkO, e_mkX, e_Met, e_metK2, e_Enum, e_enumL, e_enumT, pairs2, pairs3, pairs4, e_lst9, e_lst10, e_lst11, e_lst12, e_tup9, e_tup10, e_tup11, e_tup12, e_ListF, e_listFT, e_listFL, e_IfB, e_ifBT, e_ifBF, e_notB, e_isB, o_int, o_str, o_tup, o_lst, o_non, o_bl, n_int, n_str, n_tup, n_lst, n_non, n_bl, g4, e0, tryA, x_what, if_true, if_false, Bool.true_eq_false]
    | true =>
      cases nc : wh c with
      | false => simp only [na, nb, nc, if_true, if_false, Bool.true_eq_false] at e0; simp only [startE, List.map, List.length, List.replicate, e_Seq, e_Asg, e_Ret, e_RetF, e_Expr, e_exprK, e_op, e_op2, e_op1, e_un, e_is, e_B, e_bK, e_Cons, e_consK, e_consK2, e_Nil, e_var, e_C, e_bind, e_bindX, e_bindB, e_lookS, e_lookO, M.toD, e_of, e_asgK, e_gSet, e_stK, e_sqN, e_sqR, e_sqB, e_sqC, e_sNil, e_retK, e_retFK, e_add, e_vI, e_neg, e_fInt, e_fIntB, e_sIf, e_sifT, e_sifF, e_T, e_toB, e_Tru, e_truB, e_And, e_Or, e_andT, e_andF, e_orT, e_orF, e_Not, e_notK, e_AndV, e_OrV, e_andVT, e_andVF, e_orVT, e_orVF, e_NotV, e_notVK, e_If, e_ifT, e_ifF, e_Tup, e_Lst, e_LstF, e_tup0, e_lst0, e_lstF0, e_eqI, e_neI, e_ltI, e_leI, e_gtI, e_geI, e_lenL, e_lenT, e_lenR, e_lenS, e_ixL, e_ixT, at0, at1, at2, at3, e_tupL, e_tupT, e_lstT, e_Own, e_ownK, e_Sub, e_For, e_Items, e_itL, e_itT, e_itR, e_Call, e_CallF, e_aNil, e_aVal, e_aVK, e_aVK2, step0, step1, step2, step3, out0, out1, out2, out3, outX1, outX2, outO1, outO2, outO3, e_onSh, e_onOw, decide_true, decide_false, Bool.not_true, Bool.not_false, List.cons_append, List.nil_append, List.getElem?_cons_zero, List.getElem?_cons_succ, List.set_cons_zero, List.set_cons_succ, Nat.reduceLT, Nat.reduceAdd, Nat.reduceSub, Option.map_some, finF, outsE, e_frz, d_rng7, e_forK, e_tnN, e_tnC, e_tnB, e_tnR, e_whT, e_whF, e_Raise, e_Par, e_parK, e_parK2, e_augK, e_Ch, e_chK1, e_chK2, e_chT, e_chF, e_Try, e_tryO, e_tru, e_While, e_abs, e_max2, e_min2, e_gSq2, e_tup1, e_lst1, e_tup2, e_lst2, e_tup3, e_lst3, e_tup4, e_lst4, e_tup5, e_lst5, e_tup6, e_lst6, e_tup7, e_lst7, e_tup8, e_lst8, e_RaF, e_raF1, e_raF2, e_TryA, e_tryAO, e_asgnK, e_frzX, e_bindX, e_Fld, e_SFld, e_Mk, e_mkK1, e_mkK2, e_mkK3, e_mkK4, e_mkO, e_mkX, e_Met, e_metK2, e_Enum, e_enumL, e_enumT, pairs2, pairs3, pairs4, e_lst9, e_lst10, e_lst11, e_lst12, e_tup9, e_tup10, e_tup11, e_tup12, e_ListF, e_listFT, e_listFL, e_IfB, e_ifBT, e_ifBF, e_notB, e_isB, o_int, o_str, o_tup, o_lst, o_non, o_bl, n_int, n_str, n_tup, n_lst, n_non, n_bl, g4, e0, tryA, x_what, if_true, if_false, Bool.true_eq_false]
      | true =>
        cases nd : nm d with
        | false => simp only [na, nb, nc, nd, if_true, if_false, Bool.true_eq_false] at e0; simp only [startE, List.map, List.length, List.replicate, e_Seq, e_Asg, e_Ret, e_RetF, e_Expr, e_exprK, e_op, e_op2, e_op1, e_un, e_is, e_B, e_bK, e_Cons, e_consK, e_consK2, e_Nil, e_var, e_C, e_bind, e_bindX, e_bindB, e_lookS, e_lookO, M.toD, e_of, e_asgK, e_gSet, e_stK, e_sqN, e_sqR, e_sqB, e_sqC, e_sNil, e_retK, e_retFK, e_add, e_vI, e_neg, e_fInt, e_fIntB, e_sIf, e_sifT, e_sifF, e_T, e_toB, e_Tru, e_truB, e_And, e_Or, e_andT, e_andF, e_orT, e_orF, e_Not, e_notK, e_AndV, e_OrV, e_andVT, e_andVF, e_orVT, e_orVF, e_NotV, e_notVK, e_If, e_ifT, e_ifF, e_Tup, e_Lst, e_LstF, e_tup0, e_lst0, e_lstF0, e_eqI, e_neI, e_ltI, e_leI, e_gtI, e_geI, e_lenL, e_lenT, e_lenR, e_lenS, e_ixL, e_ixT, at0, at1, at2, at3, e_tupL, e_tupT, e_lstT, e_Own, e_ownK, e_Sub, e_For, e_Items, e_itL, e_itT, e_itR, e_Call, e_CallF, e_aNil, e_aVal, e_aVK, e_aVK2, step0, step1, step2, step3, out0, out1, out2, out3, outX1, outX2, outO1, outO2, outO3, e_onSh, e_onOw, decide_true, decide_false, Bool.not_true, Bool.not_false, List.cons_append, List.nil_append, List.getElem?_cons_zero, List.getElem?_cons_succ, List.set_cons_zero, List.set_cons_succ, Nat.reduceLT, Nat.reduceAdd, Nat.reduceSub, Option.map_some, finF, outsE, e_frz, d_rng7, e_forK, e_tnN, e_tnC, e_tnB, e_tnR, e_whT, e_whF, e_Raise, e_Par, e_parK, e_parK2, e_augK, e_Ch, e_chK1, e_chK2, e_chT, e_chF, e_Try, e_tryO, e_tru, e_While, e_abs, e_max2, e_min2, e_gSq2, e_tup1, e_lst1, e_tup2, e_lst2, e_tup3, e_lst3, e_tup4, e_lst4, e_tup5, e_lst5, e_tup6, e_lst6, e_tup7, e_lst7, e_tup8, e_lst8, e_RaF, e_raF1, e_raF2, e_TryA, e_tryAO, e_asgnK, e_frzX, e_bindX, e_Fld, e_SFld, e_Mk, e_mkK1, e_mkK2, e_mkK3, e_mkK4, e_mkO, e_mkX, e_Met, e_metK2, e_Enum, e_enumL, e_enumT, pairs2, pairs3, pairs4, e_lst9, e_lst10, e_lst11, e_lst12, e_tup9, e_tup10, e_tup11, e_tup12, e_ListF, e_listFT, e_listFL, e_IfB, e_ifBT, e_ifBF, e_notB, e_isB, o_int, o_str, o_tup, o_lst, o_non, o_bl, n_int, n_str, n_tup, n_lst, n_non, n_bl, g4, e0, tryA, x_what, if_true, if_false, Bool.true_eq_false]
        | true => simp only [na, nb, nc, nd, if_true, if_false, Bool.true_eq_false] at e0; simp only [startE, List.map, List.length, List.replicate, e_Seq, e_Asg, e_Ret, e_RetF, e_Expr, e_exprK, e_op, e_op2, e_op1, e_un, e_is, e_B, e_bK, e_Cons, e_consK, e_consK2, e_Nil, e_var, e_C, e_bind, e_bindX, e_bindB, e_lookS, e_lookO, M.toD, e_of, e_asgK, e_gSet, e_stK, e_sqN, e_sqR, e_sqB, e_sqC, e_sNil, e_retK, e_retFK, e_add, e_vI, e_neg, e_fInt, e_fIntB, e_sIf, e_sifT, e_sifF, e_T, e_toB, e_Tru, e_truB, e_And, e_Or, e_andT, e_andF, e_orT, e_orF, e_Not, e_notK, e_AndV, e_OrV, e_andVT, e_andVF, e_orVT, e_orVF, e_NotV, e_notVK, e_If, e_ifT, e_ifF, e_Tup, e_Lst, e_LstF, e_tup0, e_lst0, e_lstF0, e_eqI, e_neI, e_ltI, e_leI, e_gtI, e_geI, e_lenL, e_lenT, e_lenR, e_lenS, e_ixL, e_ixT, at0, at1, at2, at3, e_tupL, e_tupT, e_lstT, e_Own, e_ownK, e_Sub, e_For, e_Items, e_itL, e_itT, e_itR, e_Call, e_CallF, e_aNil, e_aVal, e_aVK, e_aVK2, step0, step1, step2, step3, out0, out1, out2, out3, outX1, outX2, outO1, outO2, outO3, e_onSh, e_onOw, decide_true, decide_false, Bool.not_true, Bool.not_false, List.cons_append, List.nil_append, List.getElem?_cons_zero, List.getElem?_cons_succ, List.set_cons_zero, List.set_cons_succ, Nat.reduceLT, Nat.reduceAdd, Nat.reduceSub, Option.map_some, finF, outsE, e_frz, d_rng7, e_forK, e_tnN, e_tnC, e_tnB, e_tnR, e_whT, e_whF, e_Raise, e_Par, e_parK, e_parK2, e_augK, e_Ch, e_chK1, e_chK2, e_chT, e_chF, e_Try, e_tryO, e_tru, e_While, e_abs, e_max2, e_min2, e_gSq2, e_tup1, e_lst1, e_tup2, e_lst2, e_tup3, e_lst3, e_tup4, e_lst4, e_tup5, e_lst5, e_tup6, e_lst6, e_tup7, e_lst7, e_tup8, e_lst8, e_RaF, e_raF1, e_raF2, e_TryA, e_tryAO, e_asgnK, e_frzX, e_bindX, e_Fld, e_SFld, e_Mk, e_mkK1, e_mkK2, e_mkK3, e_mkK4, e_mkO, e_mkX, e_Met, e_metK2, e_Enum, e_enumL, e_enumT, pairs2, pairs3, pairs4, e_lst9, e_lst10, e_lst11, e_lst12, e_tup9, e_tup10, e_tup11, e_tup12, e_ListF, e_listFT, e_listFL, e_IfB, e_ifBT, e_ifBF, e_notB, e_isB, o_int, o_str, o_tup, o_lst, o_non, o_bl, n_int, n_str, n_tup, n_lst, n_non, n_bl, g4, e0, sitM, sit, if_true, if_false, Bool.true_eq_false]
theorem due_ok {a b c d : D} (ha : Pl a) (hb : Pl b) (hc : Pl c) (hd : Pl d) : m__law_due [.sh (.lst [a, b, c, d])] = .ok (.sh (due a b c d)) [] := by
  have ea := letters_ok ha
  have eb := letters_ok hb
  have ec := lwhole_ok hc
  have ed := letters_ok hd
  have z0 : ((0 : Int) == 2) = false := rfl
  have z1 : ((1 : Int) == 2) = false := rfl
  have z2 : ((2 : Int) == 2) = true := rfl
  have z3 : ((3 : Int) == 2) = false := rfl
  refine (e_run [] 3 _ _ rfl).trans ?_
  unfold b__law_due due
  cases na : nm a with
  | false => rw [na] at ea; simp only [startE, List.map, List.length, List.replicate, e_Seq, e_Asg, e_Ret, e_RetF, e_Expr, e_exprK, e_op, e_op2, e_op1, e_un, e_is, e_B, e_bK, e_Cons, e_consK, e_consK2, e_Nil, e_var, e_C, e_bind, e_bindX, e_bindB, e_lookS, e_lookO, M.toD, e_of, e_asgK, e_gSet, e_stK, e_sqN, e_sqR, e_sqB, e_sqC, e_sNil, e_retK, e_retFK, e_add, e_vI, e_neg, e_fInt, e_fIntB, e_sIf, e_sifT, e_sifF, e_T, e_toB, e_Tru, e_truB, e_And, e_Or, e_andT, e_andF, e_orT, e_orF, e_Not, e_notK, e_AndV, e_OrV, e_andVT, e_andVF, e_orVT, e_orVF, e_NotV, e_notVK, e_If, e_ifT, e_ifF, e_Tup, e_Lst, e_LstF, e_tup0, e_lst0, e_lstF0, e_eqI, e_neI, e_ltI, e_leI, e_gtI, e_geI, e_lenL, e_lenT, e_lenR, e_lenS, e_ixL, e_ixT, at0, at1, at2, at3, e_tupL, e_tupT, e_lstT, e_Own, e_ownK, e_Sub, e_For, e_Items, e_itL, e_itT, e_itR, e_Call, e_CallF, e_aNil, e_aVal, e_aVK, e_aVK2, step0, step1, step2, step3, out0, out1, out2, out3, outX1, outX2, outO1, outO2, outO3, e_onSh, e_onOw, decide_true, decide_false, Bool.not_true, Bool.not_false, List.cons_append, List.nil_append, List.getElem?_cons_zero, List.getElem?_cons_succ, List.set_cons_zero, List.set_cons_succ, Nat.reduceLT, Nat.reduceAdd, Nat.reduceSub, Option.map_some, finF, outsE, e_frz, d_rng7, e_forK, e_tnN, e_tnC, e_tnB, e_tnR, e_whT, e_whF, e_Raise, e_Par, e_parK, e_parK2, e_augK, e_Ch, e_chK1, e_chK2, e_chT, e_chF, e_Try, e_tryO, e_tru, e_While, e_abs, e_max2, e_min2, e_gSq2, e_tup1, e_lst1, e_tup2, e_lst2, e_tup3, e_lst3, e_tup4, e_lst4, e_tup5, e_lst5, e_tup6, e_lst6, e_tup7, e_lst7, e_tup8, e_lst8, e_RaF, e_raF1, e_raF2, e_TryA, e_tryAO, e_asgnK, e_frzX, e_bindX, e_Fld, e_SFld, e_Mk, e_mkK1, e_mkK2, e_mkK3, e_mkK4, e_mkO, e_mkX, e_Met, e_metK2, e_Enum, e_enumL, e_enumT, pairs2, pairs3, pairs4, e_lst9, e_lst10, e_lst11, e_lst12, e_tup9, e_tup10, e_tup11, e_tup12, e_ListF, e_listFT, e_listFL, e_IfB, e_ifBT, e_ifBF, e_notB, e_isB, o_int, o_str, o_tup, o_lst, o_non, o_bl, n_int, n_str, n_tup, n_lst, n_non, n_bl, forL_gS2, z0, ea, if_true]
  | true =>
    cases nb : nm b with
    | false => rw [na] at ea; rw [nb] at eb; simp only [startE, List.map, List.length, List.replicate, e_Seq, e_Asg, e_Ret, e_RetF, e_Expr, e_exprK, e_op, e_op2, e_op1, e_un, e_is, e_B, e_bK, e_Cons, e_consK, e_consK2, e_Nil, e_var, e_C, e_bind, e_bindX, e_bindB, e_lookS, e_lookO, M.toD, e_of, e_asgK, e_gSet, e_stK, e_sqN, e_sqR, e_sqB, e_sqC, e_sNil, e_retK, e_retFK, e_add, e_vI, e_neg, e_fInt, e_fIntB, e_sIf, e_sifT, e_sifF, e_T, e_toB, e_Tru, e_truB, e_And, e_Or, e_andT, e_andF, e_orT, e_orF, e_Not, e_notK, e_AndV, e_OrV, e_andVT, e_andVF, e_orVT, e_orVF, e_NotV, e_notVK, e_If, e_ifT, e_ifF, e_Tup, e_Lst, e_LstF, e_tup0, e_lst0, e_lstF0, e_eqI, e_neI, e_ltI, e_leI, e_gtI, e_geI, e_lenL, e_lenT, e_lenR, e_lenS, e_ixL, e_ixT, at0, at1, at2, at3, e_tupL, e_tupT, e_lstT, e_Own, e_ownK, e_Sub, e_For, e_Items, e_itL, e_itT, e_itR, e_Call, e_CallF, e_aNil, e_aVal, e_aVK, e_aVK2, step0, step1, step2, step3, out0, out1, out2, out3, outX1, outX2, outO1, outO2, outO3, e_onSh, e_onOw, decide_true, decide_false, Bool.not_true, Bool.not_false, List.cons_append, List.nil_append, List.getElem?_cons_zero, List.getElem?_cons_succ, List.set_cons_zero, List.set_cons_succ, Nat.reduceLT, Nat.reduceAdd, Nat.reduceSub, Option.map_some, finF, outsE, e_frz, d_rng7, e_forK, e_tnN, e_tnC, e_tnB, e_tnR, e_whT, e_whF, e_Raise, e_Par, e_parK, e_parK2, e_augK, e_Ch, e_chK1, e_chK2, e_chT, e_chF, e_Try, e_tryO, e_tru, e_While, e_abs, e_max2, e_min2, e_gSq2, e_tup1, e_lst1, e_tup2, e_lst2, e_tup3, e_lst3, e_tup4, e_lst4, e_tup5, e_lst5, e_tup6, e_lst6, e_tup7, e_lst7, e_tup8, e_lst8, e_RaF, e_raF1, e_raF2, e_TryA, e_tryAO, e_asgnK, e_frzX, e_bindX, e_Fld, e_SFld, e_Mk, e_mkK1, e_mkK2, e_mkK3, e_mkK4, e_mkO, e_mkX, e_Met, e_metK2, e_Enum, e_enumL, e_enumT, pairs2, pairs3, pairs4, e_lst9, e_lst10, e_lst11, e_lst12, e_tup9, e_tup10, e_tup11, e_tup12, e_ListF, e_listFT, e_listFL, e_IfB, e_ifBT, e_ifBF, e_notB, e_isB, o_int, o_str, o_tup, o_lst, o_non, o_bl, n_int, n_str, n_tup, n_lst, n_non, n_bl, forL_gS2, z0, z1, ea, eb, if_true, if_false, Bool.true_eq_false]
    | true =>
      cases nc : wh c with
      | false => rw [na] at ea; rw [nb] at eb; rw [nc] at ec; simp only [startE, List.map, List.length, List.replicate, e_Seq, e_Asg, e_Ret, e_RetF, e_Expr, e_exprK, e_op, e_op2, e_op1, e_un, e_is, e_B, e_bK, e_Cons, e_consK, e_consK2, e_Nil, e_var, e_C, e_bind, e_bindX, e_bindB, e_lookS, e_lookO, M.toD, e_of, e_asgK, e_gSet, e_stK, e_sqN, e_sqR, e_sqB, e_sqC, e_sNil, e_retK, e_retFK, e_add, e_vI, e_neg, e_fInt, e_fIntB, e_sIf, e_sifT, e_sifF, e_T, e_toB, e_Tru, e_truB, e_And, e_Or, e_andT, e_andF, e_orT, e_orF, e_Not, e_notK, e_AndV, e_OrV, e_andVT, e_andVF, e_orVT, e_orVF, e_NotV, e_notVK, e_If, e_ifT, e_ifF, e_Tup, e_Lst, e_LstF, e_tup0, e_lst0, e_lstF0, e_eqI, e_neI, e_ltI, e_leI, e_gtI, e_geI, e_lenL, e_lenT, e_lenR, e_lenS, e_ixL, e_ixT, at0, at1, at2, at3, e_tupL, e_tupT, e_lstT, e_Own, e_ownK, e_Sub, e_For, e_Items, e_itL, e_itT, e_itR, e_Call, e_CallF, e_aNil, e_aVal, e_aVK, e_aVK2, step0, step1, step2, step3, out0, out1, out2, out3, outX1, outX2, outO1, outO2, outO3, e_onSh, e_onOw, decide_true, decide_false, Bool.not_true, Bool.not_false, List.cons_append, List.nil_append, List.getElem?_cons_zero, List.getElem?_cons_succ, List.set_cons_zero, List.set_cons_succ, Nat.reduceLT, Nat.reduceAdd, Nat.reduceSub, Option.map_some, finF, outsE, e_frz, d_rng7, e_forK, e_tnN, e_tnC, e_tnB, e_tnR, e_whT, e_whF, e_Raise, e_Par, e_parK, e_parK2, e_augK, e_Ch, e_chK1, e_chK2, e_chT, e_chF, e_Try, e_tryO, e_tru, e_While, e_abs, e_max2, e_min2, e_gSq2, e_tup1, e_lst1, e_tup2, e_lst2, e_tup3, e_lst3, e_tup4, e_lst4, e_tup5, e_lst5, e_tup6, e_lst6, e_tup7, e_lst7, e_tup8, e_lst8, e_RaF, e_raF1, e_raF2, e_TryA, e_tryAO, e_asgnK, e_frzX, e_bindX, e_Fld, e_SFld, e_Mk, e_mkK1, e_mkK2, e_mkK3, e_mkK4, e_mkO, e_mkX, e_Met, e_metK2, e_Enum, e_enumL, e_enumT, pairs2, pairs3, pairs4, e_lst9, e_lst10, e_lst11, e_lst12, e_tup9, e_tup10, e_tup11, e_tup12, e_ListF, e_listFT, e_listFL, e_IfB, e_ifBT, e_ifBF, e_notB, e_isB, o_int, o_str, o_tup, o_lst, o_non, o_bl, n_int, n_str, n_tup, n_lst, n_non, n_bl, forL_gS2, z0, z1, z2, ea, eb, ec, if_true, if_false, Bool.true_eq_false]
      | true =>
        cases nd : nm d with
        | false => rw [na] at ea; rw [nb] at eb; rw [nc] at ec; rw [nd] at ed; simp only [startE, List.map, List.length, List.replicate, e_Seq, e_Asg, e_Ret, e_RetF, e_Expr, e_exprK, e_op, e_op2, e_op1, e_un, e_is, e_B, e_bK, e_Cons, e_consK, e_consK2, e_Nil, e_var, e_C, e_bind, e_bindX, e_bindB, e_lookS, e_lookO, M.toD, e_of, e_asgK, e_gSet, e_stK, e_sqN, e_sqR, e_sqB, e_sqC, e_sNil, e_retK, e_retFK, e_add, e_vI, e_neg, e_fInt, e_fIntB, e_sIf, e_sifT, e_sifF, e_T, e_toB, e_Tru, e_truB, e_And, e_Or, e_andT, e_andF, e_orT, e_orF, e_Not, e_notK, e_AndV, e_OrV, e_andVT, e_andVF, e_orVT, e_orVF, e_NotV, e_notVK, e_If, e_ifT, e_ifF, e_Tup, e_Lst, e_LstF, e_tup0, e_lst0, e_lstF0, e_eqI, e_neI, e_ltI, e_leI, e_gtI, e_geI, e_lenL, e_lenT, e_lenR, e_lenS, e_ixL, e_ixT, at0, at1, at2, at3, e_tupL, e_tupT, e_lstT, e_Own, e_ownK, e_Sub, e_For, e_Items, e_itL, e_itT, e_itR, e_Call, e_CallF, e_aNil, e_aVal, e_aVK, e_aVK2, step0, step1, step2, step3, out0, out1, out2, out3, outX1, outX2, outO1, outO2, outO3, e_onSh, e_onOw, decide_true, decide_false, Bool.not_true, Bool.not_false, List.cons_append, List.nil_append, List.getElem?_cons_zero, List.getElem?_cons_succ, List.set_cons_zero, List.set_cons_succ, Nat.reduceLT, Nat.reduceAdd, Nat.reduceSub, Option.map_some, finF, outsE, e_frz, d_rng7, e_forK, e_tnN, e_tnC, e_tnB, e_tnR, e_whT, e_whF, e_Raise, e_Par, e_parK, e_parK2, e_augK, e_Ch, e_chK1, e_chK2, e_chT, e_chF, e_Try, e_tryO, e_tru, e_While, e_abs, e_max2, e_min2, e_gSq2, e_tup1, e_lst1, e_tup2, e_lst2, e_tup3, e_lst3, e_tup4, e_lst4, e_tup5, e_lst5, e_tup6, e_lst6, e_tup7, e_lst7, e_tup8, e_lst8, e_RaF, e_raF1, e_raF2, e_TryA, e_tryAO, e_asgnK, e_frzX, e_bindX, e_Fld, e_SFld, e_Mk, e_mkK1, e_mkK2, e_mkK3, e_mkK4, e_mkO, e_mkX, e_Met, e_metK2, e_Enum, e_enumL, e_enumT, pairs2, pairs3, pairs4, e_lst9, e_lst10, e_lst11, e_lst12, e_tup9, e_tup10, e_tup11, e_tup12, e_ListF, e_listFT, e_listFL, e_IfB, e_ifBT, e_ifBF, e_notB, e_isB, o_int, o_str, o_tup, o_lst, o_non, o_bl, n_int, n_str, n_tup, n_lst, n_non, n_bl, forL_gS2, z0, z1, z2, z3, ea, eb, ec, ed, if_true, if_false, Bool.true_eq_false]
        | true => rw [na] at ea; rw [nb] at eb; rw [nc] at ec; rw [nd] at ed; simp only [startE, List.map, List.length, List.replicate, e_Seq, e_Asg, e_Ret, e_RetF, e_Expr, e_exprK, e_op, e_op2, e_op1, e_un, e_is, e_B, e_bK, e_Cons, e_consK, e_consK2, e_Nil, e_var, e_C, e_bind, e_bindX, e_bindB, e_lookS, e_lookO, M.toD, e_of, e_asgK, e_gSet, e_stK, e_sqN, e_sqR, e_sqB, e_sqC, e_sNil, e_retK, e_retFK, e_add, e_vI, e_neg, e_fInt, e_fIntB, e_sIf, e_sifT, e_sifF, e_T, e_toB, e_Tru, e_truB, e_And, e_Or, e_andT, e_andF, e_orT, e_orF, e_Not, e_notK, e_AndV, e_OrV, e_andVT, e_andVF, e_orVT, e_orVF, e_NotV, e_notVK, e_If, e_ifT, e_ifF, e_Tup, e_Lst, e_LstF, e_tup0, e_lst0, e_lstF0, e_eqI, e_neI, e_ltI, e_leI, e_gtI, e_geI, e_lenL, e_lenT, e_lenR, e_lenS, e_ixL, e_ixT, at0, at1, at2, at3, e_tupL, e_tupT, e_lstT, e_Own, e_ownK, e_Sub, e_For, e_Items, e_itL, e_itT, e_itR, e_Call, e_CallF, e_aNil, e_aVal, e_aVK, e_aVK2, step0, step1, step2, step3, out0, out1, out2, out3, outX1, outX2, outO1, outO2, outO3, e_onSh, e_onOw, decide_true, decide_false, Bool.not_true, Bool.not_false, List.cons_append, List.nil_append, List.getElem?_cons_zero, List.getElem?_cons_succ, List.set_cons_zero, List.set_cons_succ, Nat.reduceLT, Nat.reduceAdd, Nat.reduceSub, Option.map_some, finF, outsE, e_frz, d_rng7, e_forK, e_tnN, e_tnC, e_tnB, e_tnR, e_whT, e_whF, e_Raise, e_Par, e_parK, e_parK2, e_augK, e_Ch, e_chK1, e_chK2, e_chT, e_chF, e_Try, e_tryO, e_tru, e_While, e_abs, e_max2, e_min2, e_gSq2, e_tup1, e_lst1, e_tup2, e_lst2, e_tup3, e_lst3, e_tup4, e_lst4, e_tup5, e_lst5, e_tup6, e_lst6, e_tup7, e_lst7, e_tup8, e_lst8, e_RaF, e_raF1, e_raF2, e_TryA, e_tryAO, e_asgnK, e_frzX, e_bindX, e_Fld, e_SFld, e_Mk, e_mkK1, e_mkK2, e_mkK3, e_mkK4, e_mkO, e_mkX, e_Met, e_metK2, e_Enum, e_enumL, e_enumT, pairs2, pairs3, pairs4, e_lst9, e_lst10, e_lst11, e_lst12, e_tup9, e_tup10, e_tup11, e_tup12, e_ListF, e_listFT, e_listFL, e_IfB, e_ifBT, e_ifBF, e_notB, e_isB, o_int, o_str, o_tup, o_lst, o_non, o_bl, n_int, n_str, n_tup, n_lst, n_non, n_bl, forL_gS2, forL_nil, z0, z1, z2, z3, ea, eb, ec, ed, if_true, if_false, Bool.true_eq_false]
end L05
set_option Elab.async false
set_option linter.all false
set_option maxRecDepth 100000
set_option maxHeartbeats 4000000
namespace L05
open PySem L2 Rf
/-! ### situations compared, moved, exchanged -/
def sitN (a b : Str) (c : Int) (d : Str) : D := sit (.str a) (.str b) (.int c) (.str d)
def argN (a b : Str) (c : Int) (d : Str) : D := .tup [.str a, .str b, .int c, .str d]
def eqB (a b : Str) (c : Int) (d : Str) (a' b' : Str) (c' : Int) (d' : Str) : Bool := decide (a = a') && (decide (b = b') && (decide (c = c') && decide (d = d')))
theorem eqB_self (a b : Str) (c : Int) (d : Str) : eqB a b c d a b c d = true := by simp [eqB]
theorem eqS {a b : Str} (ha : PyData.strOk a = true) (hb : PyData.strOk b = true) : CK.f .eq (.str a) (.str b) = some (.bl (decide (a = b))) := vEq_str false ha hb
theorem vEq_int (neg : Bool) (i j : Int) : vEq neg (.int i) (.int j) = some (.bl (if neg then !(i == j) else (i == j))) := e_vEq neg i j
theorem vEq_bl (neg : Bool) (i j : Bool) : vEq neg (.bl i) (.bl j) = some (.bl (if neg then !(i == j) else (i == j))) := by cases neg <;> cases i <;> cases j <;> rfl
theorem eq4 (neg : Bool) {a b d a' b' d' : Str} (c c' : Int) (ha : PyData.strOk a = true) (hb : PyData.strOk b = true) (hd : PyData.strOk d = true) (ha' : PyData.strOk a' = true) (hb' : PyData.strOk b' = true) (hd' : PyData.strOk d' = true) :
    vEq neg (argN a b c d) (argN a' b' c' d') = some (.bl (if neg then !eqB a b c d a' b' c' d' else eqB a b c d a' b' c' d')) := by
  have sh : ∀ {a b d : Str} {c : Int}, PyData.strOk a = true → PyData.strOk b = true → PyData.strOk d = true → SeqAt.shaped (argN a b c d).toPy = true := fun ha hb hd => by
    simp [argN, SeqAt.shaped, D.toPy, toPyL, PyData.canLay0, PyData.canLayAll0, PyData.depth, PyData.depthAll, ha, hb, hd]
  have e : PyData.eqv (argN a b c d).toPy (argN a' b' c' d').toPy = eqB a b c d a' b' c' d' := by
    simp only [argN, D.toPy, toPyL, PyData.eqv, PyData.eqvAll, eqB]
    by_cases h1 : a = a' <;> by_cases h2 : b = b' <;> by_cases h3 : c = c' <;> by_cases h4 : d = d' <;> simp [h1, h2, h3, h4]
  unfold vEq
  rw [if_pos ⟨sh ha hb hd, sh ha' hb' hd'⟩, e]
theorem io4 (a b c d : D) : isOwn io_Situation (sit a b c d) = some true := by kernel_rfl
theorem io_str (x : Str) : isOwn io_Situation (.str x) = some false := rfl
theorem m_eq {a b d a' b' d' : Str} (c c' : Int) (ha : Nm a) (hb : Nm b) (hd : Nm d) (ha' : Nm a') (hb' : Nm b') (hd' : Nm d') :
    m_Situation___eq__ [.sh (sitN a b c d), .sh (sitN a' b' c' d')] = .ok (.sh (.bl (eqB a b c d a' b' c' d'))) [] := by
  have q1 := eqS ha.ok ha'.ok
  have q2 := eqS hb.ok hb'.ok
  have q3 : CK.f .eq (.int c) (.int c') = some (.bl (decide (c = c'))) := by rw [e_eqI]; rfl
  have q4 := eqS hd.ok hd'.ok
  refine (e_run [] 2 _ _ rfl).trans ?_
  unfold b_Situation___eq__ eqB sitN
  generalize decide (a = a') = p1 at q1 ⊢
  generalize decide (b = b') = p2 at q2 ⊢
  generalize decide (c = c') = p3 at q3 ⊢
  generalize decide (d = d') = p4 at q4 ⊢
  have q3' : some (D.bl (c == c')) = some (.bl p3) := q3
  cases p1 <;> cases p2 <;> cases p3 <;> cases p4 <;> simp only [startE, List.map, List.length, List.replicate, e_Seq, e_Asg, e_Ret, e_RetF, e_Expr, e_exprK, e_op, e_op2, e_op1, e_un, e_is, e_B, e_bK, e_Cons, e_consK, e_consK2, e_Nil, e_var, e_C, e_bind, e_bindX, e_bindB, e_lookS, e_lookO, M.toD, e_of, e_asgK, e_gSet, e_stK, e_sqN, e_sqR, e_sqB, e_sqC, e_sNil, e_retK, e_retFK, e_add, e_vI, e_neg, e_fInt, e_fIntB, e_sIf, e_sifT, e_sifF, e_T, e_toB, e_Tru, e_truB, e_And, e_Or, e_andT, e_andF, e_orT, e_orF, e_Not, e_notK, e_AndV, e_OrV, e_andVT, e_andVF, e_orVT, e_orVF, e_NotV, e_notVK, e_If, e_ifT, e_ifF, e_Tup, e_Lst, e_LstF, e_tup0, e_lst0, e_lstF0, e_eqI, e_neI, e_ltI, e_leI, e_gtI, e_geI, e_lenL, e_lenT, e_lenR, e_lenS, e_ixL, e_ixT, at0, at1, at2, at3, e_tupL, e_tupT, e_lstT, e_Own, e_ownK, e_Sub, e_For, e_Items, e_itL, e_itT, e_itR, e_Call, e_CallF, e_aNil, e_aVal, e_aVK, e_aVK2, step0, step1, step2, step3, out0, out1, out2, out3, outX1, outX2, outO1, outO2, outO3, e_onSh, e_onOw, decide_true, decide_false, Bool.not_true, Bool.not_false, List.cons_append, List.nil_append, List.getElem?_cons_zero, List.getElem?_cons_succ, List.set_cons_zero, List.set_cons_succ, Nat.reduceLT, Nat.reduceAdd, Nat.reduceSub, Option.map_some, finF, outsE, e_frz, d_rng7, e_forK, e_tnN, e_tnC, e_tnB, e_tnR, e_whT, e_whF, e_Raise, e_Par, e_parK, e_parK2, e_augK, e_Ch, e_chK1, e_chK2, e_chT, e_chF, e_Try, e_tryO, e_tru, e_While, e_abs, e_max2, e_min2, e_gSq2, e_tup1, e_lst1, e_tup2, e_lst2, e_tup3, e_lst3, e_tup4, e_lst4, e_tup5, e_lst5, e_tup6, e_lst6, e_tup7, e_lst7, e_tup8, e_lst8, e_RaF, e_raF1, e_raF2, e_TryA, e_tryAO, e_asgnK, e_frzX, e_bindX, e_Fld, e_SFld, e_Mk, e_mkK1, e_mkK2, e_mkK3, e_mkK4, e_mkO, e_mkX, e_Met, e_metK2, e_Enum, e_enumL, e_enumT, pairs2, pairs3, pairs4, e_lst9, e_lst10, e_lst11, e_lst12, e_tup9, e_tup10, e_tup11, e_tup12, e_ListF, e_listFT, e_listFL, e_IfB, e_ifBT, e_ifBF, e_notB, e_isB, o_int, o_str, o_tup, o_lst, o_non, o_bl, n_int, n_str, n_tup, n_lst, n_non, n_bl, io4, f_teller, f_hearer, f_day, f_place, q1, q2, q3', q4, Bool.true_and, Bool.false_and, Bool.and_true, Bool.and_false]
theorem tab4 : t___eq__ 4 = some m_Situation___eq__ := by kernel_rfl
theorem o_sit {a b d a' b' d' : Str} (c c' : Int) (ha : Nm a) (hb : Nm b) (hd : Nm d) (ha' : Nm a') (hb' : Nm b') (hd' : Nm d') : vEqO t___eq__ eq_is (sitN a b c d) (sitN a' b' c' d') = some (.bl (eqB a b c d a' b' c' d')) := by
  have e := m_eq c c' ha hb hd ha' hb' hd'
  show (match t___eq__ 4 with
    | some F => if rightOk eq_is (sitN a' b' c' d') = true then saysB (F [.sh (sitN a b c d), .sh (sitN a' b' c' d')]) else none
    | none => none) = _
  rw [tab4]
  dsimp only
  rw [if_pos (show rightOk eq_is (sitN a' b' c' d') = true from rfl), e]
  rfl
theorem n_sit {a b d a' b' d' : Str} (c c' : Int) (ha : Nm a) (hb : Nm b) (hd : Nm d) (ha' : Nm a') (hb' : Nm b') (hd' : Nm d') : vNeO t___eq__ eq_is (sitN a b c d) (sitN a' b' c' d') = some (.bl !(eqB a b c d a' b' c' d')) :=
  n_of ⟨_, _, rfl⟩ (o_sit c c' ha hb hd ha' hb' hd')
theorem parts_ok (a b c d : D) : m__law_parts [.sh (sit a b c d)] = .ok (.sh (.tup [a, b, c, d])) [] := by kernel_rfl
theorem unlike_ok (p q : Bool) : m__law_unlike [.sh (.bl p), .sh (.bl q)] = .ok (.sh (.bl (p != q))) [] := by cases p <;> cases q <;> kernel_rfl
theorem init_N {a b d : Str} (c : Int) (ha : Nm a) (hb : Nm b) (hd : Nm d) : m_Situation___init__ [.ow (.ins 4 []), .sh (.str a), .sh (.str b), .sh (.int c), .sh (.str d)] = .ok (.sh .non) [sitM (.str a) (.str b) (.int c) (.str d)] := by
  rw [sit_init (.nam ha) (.nam hb) (.int c) (.nam hd)]
  unfold init4
  rw [show nm (.str a) = true from ha.nm, show nm (.str b) = true from hb.nm, show nm (.str d) = true from hd.nm]
  rfl
theorem tried_N {a b d : Str} (c : Int) (ha : Nm a) (hb : Nm b) (hd : Nm d) : tried (.str a) (.str b) (.int c) (.str d) = sitN a b c d := by
  unfold tried
  rw [show nm (.str a) = true from ha.nm, show nm (.str b) = true from hb.nm, show nm (.str d) = true from hd.nm]
  rfl
theorem moved_int {a b d : Str} (c k : Int) (ha : Nm a) (hb : Nm b) (hd : Nm d) : m__law_moved [.sh (sitN a b c d), .sh (.int k)] = .ok (.sh (sitN a b (c + k) d)) [] := by
  have e1 : m_Situation_moved [.sh (sitN a b c d), .sh (.int k)] = .ok (.sh (sitN a b (c + k) d)) [] := by
    have w := whole_ok (.int k)
    have e0 := init_N (c + k) ha hb hd
    refine (e_run [] 2 _ _ rfl).trans ?_
    unfold b_Situation_moved
    rw [show wh (.int k) = true from rfl] at w
    unfold sitN
    simp only [startE, List.map, List.length, List.replicate, e_Seq, e_Asg, e_Ret, e_RetF, e_Expr, e_exprK, e_op, e_op2, e_op1, e_un, e_is, e_B, e_bK, e_Cons, e_consK, e_consK2, e_Nil, e_var, e_C, e_bind, e_bindX, e_bindB, e_lookS, e_lookO, M.toD, e_of, e_asgK, e_gSet, e_stK, e_sqN, e_sqR, e_sqB, e_sqC, e_sNil, e_retK, e_retFK, e_add, e_vI, e_neg, e_fInt, e_fIntB, e_sIf, e_sifT, e_sifF, e_T, e_toB, e_Tru, e_truB, e_And, e_Or, e_andT, e_andF, e_orT, e_orF, e_Not, e_notK, e_AndV, e_OrV, e_andVT, e_andVF, e_orVT, e_orVF, e_NotV, e_notVK, e_If, e_ifT, e_ifF, e_Tup, e_Lst, e_LstF, e_tup0, e_lst0, e_lstF0, e_eqI, e_neI, e_ltI, e_leI, e_gtI, e_geI, e_lenL, e_lenT, e_lenR, e_lenS, e_ixL, e_ixT, at0, at1, at2, at3, e_tupL, e_tupT, e_lstT, e_Own, e_ownK, e_Sub, e_For, e_Items, e_itL, e_itT, e_itR, e_Call, e_CallF, e_aNil, e_aVal, e_aVK, e_aVK2, step0, step1, step2, step3, out0, out1, out2, out3, outX1, outX2, outO1, outO2, outO3, e_onSh, e_onOw, decide_true, decide_false, Bool.not_true, Bool.not_false, List.cons_append, List.nil_append, List.getElem?_cons_zero, List.getElem?_cons_succ, List.set_cons_zero, List.set_cons_succ, Nat.reduceLT, Nat.reduceAdd, Nat.reduceSub, Option.map_some, finF, outsE, e_frz, d_rng7, e_forK, e_tnN, e_tnC, e_tnB, e_tnR, e_whT, e_whF, e_Raise, e_Par, e_parK, e_parK2, e_augK, e_Ch, e_chK1, e_chK2, e_chT, e_chF, e_Try, e_tryO, e_tru, e_While, e_abs, e_max2, e_min2, e_gSq2, e_tup1, e_lst1, e_tup2, e_lst2, e_tup3, e_lst3, e_tup4, e_lst4, e_tup5, e_lst5, e_tup6, e_lst6, e_tup7, e_lst7, e_tup8, e_lst8, e_RaF, e_raF1, e_raF2, e_TryA, e_tryAO, e_asgnK, e_frzX, e_bindX, e_Fld, e_SFld, e_Mk, e_mkK1, e_mkK2, e_mkK3, e_mkK4, e_mkO, e_mkX, e_Met, e_metK2, e_Enum, e_enumL, e_enumT, pairs2, pairs3, pairs4, e_lst9, e_lst10, e_lst11, e_lst12, e_tup9, e_tup10, e_tup11, e_tup12, e_ListF, e_listFT, e_listFL, e_IfB, e_ifBT, e_ifBF, e_notB, e_isB, o_int, o_str, o_tup, o_lst, o_non, o_bl, n_int, n_str, n_tup, n_lst, n_non, n_bl, w, f_teller, f_hearer, f_day, f_place, e0, sitM]
    rfl
  have t : metOf t_moved "moved" (sitN a b c d) = some m_Situation_moved := by kernel_rfl
  refine (e_run [] 4 _ _ rfl).trans ?_
  unfold b__law_moved
  simp only [startE, List.map, List.length, List.replicate, e_Seq, e_Asg, e_Ret, e_RetF, e_Expr, e_exprK, e_op, e_op2, e_op1, e_un, e_is, e_B, e_bK, e_Cons, e_consK, e_consK2, e_Nil, e_var, e_C, e_bind, e_bindX, e_bindB, e_lookS, e_lookO, M.toD, e_of, e_asgK, e_gSet, e_stK, e_sqN, e_sqR, e_sqB, e_sqC, e_sNil, e_retK, e_retFK, e_add, e_vI, e_neg, e_fInt, e_fIntB, e_sIf, e_sifT, e_sifF, e_T, e_toB, e_Tru, e_truB, e_And, e_Or, e_andT, e_andF, e_orT, e_orF, e_Not, e_notK, e_AndV, e_OrV, e_andVT, e_andVF, e_orVT, e_orVF, e_NotV, e_notVK, e_If, e_ifT, e_ifF, e_Tup, e_Lst, e_LstF, e_tup0, e_lst0, e_lstF0, e_eqI, e_neI, e_ltI, e_leI, e_gtI, e_geI, e_lenL, e_lenT, e_lenR, e_lenS, e_ixL, e_ixT, at0, at1, at2, at3, e_tupL, e_tupT, e_lstT, e_Own, e_ownK, e_Sub, e_For, e_Items, e_itL, e_itT, e_itR, e_Call, e_CallF, e_aNil, e_aVal, e_aVK, e_aVK2, step0, step1, step2, step3, out0, out1, out2, out3, outX1, outX2, outO1, outO2, outO3, e_onSh, e_onOw, decide_true, decide_false, Bool.not_true, Bool.not_false, List.cons_append, List.nil_append, List.getElem?_cons_zero, List.getElem?_cons_succ, List.set_cons_zero, List.set_cons_succ, Nat.reduceLT, Nat.reduceAdd, Nat.reduceSub, Option.map_some, finF, outsE, e_frz, d_rng7, e_forK, e_tnN, e_tnC, e_tnB, e_tnR, e_whT, e_whF, e_Raise, e_Par, e_parK, e_parK2, e_augK, e_Ch, e_chK1, e_chK2, e_chT, e_chF, e_Try, e_tryO, e_tru, e_While, e_abs, e_max2, e_min2, e_gSq2, e_tup1, e_lst1, e_tup2, e_lst2, e_tup3, e_lst3, e_tup4, e_lst4, e_tup5, e_lst5, e_tup6, e_lst6, e_tup7, e_lst7, e_tup8, e_lst8, e_RaF, e_raF1, e_raF2, e_TryA, e_tryAO, e_asgnK, e_frzX, e_bindX, e_Fld, e_SFld, e_Mk, e_mkK1, e_mkK2, e_mkK3, e_mkK4, e_mkO, e_mkX, e_Met, e_metK2, e_Enum, e_enumL, e_enumT, pairs2, pairs3, pairs4, e_lst9, e_lst10, e_lst11, e_lst12, e_tup9, e_tup10, e_tup11, e_tup12, e_ListF, e_listFT, e_listFL, e_IfB, e_ifBT, e_ifBF, e_notB, e_isB, o_int, o_str, o_tup, o_lst, o_non, o_bl, n_int, n_str, n_tup, n_lst, n_non, n_bl, e_metK (h := t), e1]
theorem moved_bad {a b d : Str} {c : Int} {x : D} (hx : Pl x) (hw : wh x = false) : m__law_moved [.sh (sitN a b c d), .sh x] = .ok (.sh (.str "day")) [] := by
  have e1 : m_Situation_moved [.sh (sitN a b c d), .sh x] = .exc (xS "day") [] := by
    have w := whole_ok hx
    rw [hw] at w
    refine (e_run [] 2 _ _ rfl).trans ?_
    unfold b_Situation_moved
    simp only [startE, List.map, List.length, List.replicate, e_Seq, e_Asg, e_Ret, e_RetF, e_Expr, e_exprK, e_op, e_op2, e_op1, e_un, e_is, e_B, e_bK, e_Cons, e_consK, e_consK2, e_Nil, e_var, e_C, e_bind, e_bindX, e_bindB, e_lookS, e_lookO, M.toD, e_of, e_asgK, e_gSet, e_stK, e_sqN, e_sqR, e_sqB, e_sqC, e_sNil, e_retK, e_retFK, e_add, e_vI, e_neg, e_fInt, e_fIntB, e_sIf, e_sifT, e_sifF, e_T, e_toB, e_Tru, e_truB, e_And, e_Or, e_andT, e_andF, e_orT, e_orF, e_Not, e_notK, e_AndV, e_OrV, e_andVT, e_andVF, e_orVT, e_orVF, e_NotV, e_notVK, e_If, e_ifT, e_ifF, e_Tup, e_Lst, e_LstF, e_tup0, e_lst0, e_lstF0, e_eqI, e_neI, e_ltI, e_leI, e_gtI, e_geI, e_lenL, e_lenT, e_lenR, e_lenS, e_ixL, e_ixT, at0, at1, at2, at3, e_tupL, e_tupT, e_lstT, e_Own, e_ownK, e_Sub, e_For, e_Items, e_itL, e_itT, e_itR, e_Call, e_CallF, e_aNil, e_aVal, e_aVK, e_aVK2, step0, step1, step2, step3, out0, out1, out2, out3, outX1, outX2, outO1, outO2, outO3, e_onSh, e_onOw, decide_true, decide_false, Bool.not_true, Bool.not_false, List.cons_append, List.nil_append, List.getElem?_cons_zero, List.getElem?_cons_succ, List.set_cons_zero, List.set_cons_succ, Nat.reduceLT, Nat.reduceAdd, Nat.reduceSub, Option.map_some, finF, outsE, e_frz, d_rng7, e_forK, e_tnN, e_tnC, e_tnB, e_tnR, e_whT, e_whF, e_Raise, e_Par, e_parK, e_parK2, e_augK, e_Ch, e_chK1, e_chK2, e_chT, e_chF, e_Try, e_tryO, e_tru, e_While, e_abs, e_max2, e_min2, e_gSq2, e_tup1, e_lst1, e_tup2, e_lst2, e_tup3, e_lst3, e_tup4, e_lst4, e_tup5, e_lst5, e_tup6, e_lst6, e_tup7, e_lst7, e_tup8, e_lst8, e_RaF, e_raF1, e_raF2, e_TryA, e_tryAO, e_asgnK, e_frzX, e_bindX, e_Fld, e_SFld, e_Mk, e_mkK1, e_mkK2, e_mkK3, e_mkK4, e_mkO, e_mkX, e_Met, e_metK2, e_Enum, e_enumL, e_enumT, pairs2, pairs3, pairs4, e_lst9, e_lst10, e_lst11, e_lst12, e_tup9, e_tup10, e_tup11, e_tup12, e_ListF, e_listFT, e_listFL, e_IfB, e_ifBT, e_ifBF, e_notB, e_isB, o_int, o_str, o_tup, o_lst, o_non, o_bl, n_int, n_str, n_tup, n_lst, n_non, n_bl, w, xS]
  have t : metOf t_moved "moved" (sitN a b c d) = some m_Situation_moved := by kernel_rfl
  have oX : ∀ (a b : D) (ρ : ENV), outK [.inl a, .inl b] ρ (.exc (xS "day") []) = .exc (xS "day") ρ := fun _ _ _ => rfl
  refine (e_run [] 4 _ _ rfl).trans ?_
  unfold b__law_moved
  simp only [startE, List.map, List.length, List.replicate, e_Seq, e_Asg, e_Ret, e_RetF, e_Expr, e_exprK, e_op, e_op2, e_op1, e_un, e_is, e_B, e_bK, e_Cons, e_consK, e_consK2, e_Nil, e_var, e_C, e_bind, e_bindX, e_bindB, e_lookS, e_lookO, M.toD, e_of, e_asgK, e_gSet, e_stK, e_sqN, e_sqR, e_sqB, e_sqC, e_sNil, e_retK, e_retFK, e_add, e_vI, e_neg, e_fInt, e_fIntB, e_sIf, e_sifT, e_sifF, e_T, e_toB, e_Tru, e_truB, e_And, e_Or, e_andT, e_andF, e_orT, e_orF, e_Not, e_notK, e_AndV, e_OrV, e_andVT, e_andVF, e_orVT, e_orVF, e_NotV, e_notVK, e_If, e_ifT, e_ifF, e_Tup, e_Lst, e_LstF, e_tup0, e_lst0, e_lstF0, e_eqI, e_neI, e_ltI, e_leI, e_gtI, e_geI, e_lenL, e_lenT, e_lenR, e_lenS, e_ixL, e_ixT, at0, at1, at2, at3, e_tupL, e_tupT, e_lstT, e_Own, e_ownK, e_Sub, e_For, e_Items, e_itL, e_itT, e_itR, e_Call, e_CallF, e_aNil, e_aVal, e_aVK, e_aVK2, step0, step1, step2, step3, out0, out1, out2, out3, outX1, outX2, outO1, outO2, outO3, e_onSh, e_onOw, decide_true, decide_false, Bool.not_true, Bool.not_false, List.cons_append, List.nil_append, List.getElem?_cons_zero, List.getElem?_cons_succ, List.set_cons_zero, List.set_cons_succ, Nat.reduceLT, Nat.reduceAdd, Nat.reduceSub, Option.map_some, finF, outsE, e_frz, d_rng7, e_forK, e_tnN, e_tnC, e_tnB, e_tnR, e_whT, e_whF, e_Raise, e_Par, e_parK, e_parK2, e_augK, e_Ch, e_chK1, e_chK2, e_chT, e_chF, e_Try, e_tryO, e_tru, e_While, e_abs, e_max2, e_min2, e_gSq2, e_tup1, e_lst1, e_tup2, e_lst2, e_tup3, e_lst3, e_tup4, e_lst4, e_tup5, e_lst5, e_tup6, e_lst6, e_tup7, e_lst7, e_tup8, e_lst8, e_RaF, e_raF1, e_raF2, e_TryA, e_tryAO, e_asgnK, e_frzX, e_bindX, e_Fld, e_SFld, e_Mk, e_mkK1, e_mkK2, e_mkK3, e_mkK4, e_mkO, e_mkX, e_Met, e_metK2, e_Enum, e_enumL, e_enumT, pairs2, pairs3, pairs4, e_lst9, e_lst10, e_lst11, e_lst12, e_tup9, e_tup10, e_tup11, e_tup12, e_ListF, e_listFT, e_listFL, e_IfB, e_ifBT, e_ifBF, e_notB, e_isB, o_int, o_str, o_tup, o_lst, o_non, o_bl, n_int, n_str, n_tup, n_lst, n_non, n_bl, e_metK (h := t), e1, tryA, x_what]
def swap (n p q : Str) : Str := if n = p then q else if n = q then p else n
theorem swap_nm {n p q : Str} (hn : Nm n) (hp : Nm p) (hq : Nm q) : Nm (swap n p q) := by unfold swap; split; exact hq; split; exact hp; exact hn
theorem swap_back (n p q : Str) : swap (swap n p q) p q = n := by
  unfold swap
  by_cases h1 : n = p
  · by_cases h2 : q = p
    · simp [h1, h2]
    · simp [h1, h2]
  · by_cases h2 : n = q
    · rw [if_neg h1, if_pos h2, if_pos rfl]; exact h2.symm
    · simp [h1, h2]
theorem swap_sym (n p q : Str) : swap n q p = swap n p q := by
  unfold swap
  by_cases h1 : n = p
  · by_cases h2 : n = q
    · rw [if_pos h2, if_pos h1, ← h1, h2]
    · rw [if_neg h2, if_pos h1, if_pos h1]
  · by_cases h2 : n = q
    · rw [if_pos h2, if_neg h1, if_pos h2]
    · rw [if_neg h2, if_neg h1, if_neg h1, if_neg h2]
theorem exn_ok {n p q : Str} (hn : Nm n) (hp : Nm p) (hq : Nm q) : m_exchange_name [.sh (.str n), .sh (.str p), .sh (.str q)] = .ok (.sh (.str (swap n p q))) [] := by
  have e1 := name_ok (.nam hp)
  have e2 := name_ok (.nam hq)
  rw [show nm (.str p) = true from hp.nm] at e1
  rw [show nm (.str q) = true from hq.nm] at e2
  have q1 := eqS hn.ok hp.ok
  have q2 := eqS hn.ok hq.ok
  refine (e_run [] 3 _ _ rfl).trans ?_
  unfold b_exchange_name swap
  by_cases h1 : n = p
  · simp only [h1] at q1 ⊢
    simp only [startE, List.map, List.length, List.replicate, e_Seq, e_Asg, e_Ret, e_RetF, e_Expr, e_exprK, e_op, e_op2, e_op1, e_un, e_is, e_B, e_bK, e_Cons, e_consK, e_consK2, e_Nil, e_var, e_C, e_bind, e_bindX, e_bindB, e_lookS, e_lookO, M.toD, e_of, e_asgK, e_gSet, e_stK, e_sqN, e_sqR, e_sqB, e_sqC, e_sNil, e_retK, e_retFK, e_add, e_vI, e_neg, e_fInt, e_fIntB, e_sIf, e_sifT, e_sifF, e_T, e_toB, e_Tru, e_truB, e_And, e_Or, e_andT, e_andF, e_orT, e_orF, e_Not, e_notK, e_AndV, e_OrV, e_andVT, e_andVF, e_orVT, e_orVF, e_NotV, e_notVK, e_If, e_ifT, e_ifF, e_Tup, e_Lst, e_LstF, e_tup0, e_lst0, e_lstF0, e_eqI, e_neI, e_ltI, e_leI, e_gtI, e_geI, e_lenL, e_lenT, e_lenR, e_lenS, e_ixL, e_ixT, at0, at1, at2, at3, e_tupL, e_tupT, e_lstT, e_Own, e_ownK, e_Sub, e_For, e_Items, e_itL, e_itT, e_itR, e_Call, e_CallF, e_aNil, e_aVal, e_aVK, e_aVK2, step0, step1, step2, step3, out0, out1, out2, out3, outX1, outX2, outO1, outO2, outO3, e_onSh, e_onOw, decide_true, decide_false, Bool.not_true, Bool.not_false, List.cons_append, List.nil_append, List.getElem?_cons_zero, List.getElem?_cons_succ, List.set_cons_zero, List.set_cons_succ, Nat.reduceLT, Nat.reduceAdd, Nat.reduceSub, Option.map_some, finF, outsE, e_frz, d_rng7, e_forK, e_tnN, e_tnC, e_tnB, e_tnR, e_whT, e_whF, e_Raise, e_Par, e_parK, e_parK2, e_augK, e_Ch, e_chK1, e_chK2, e_chT, e_chF, e_Try, e_tryO, e_tru, e_While, e_abs, e_max2, e_min2, e_gSq2, e_tup1, e_lst1, e_tup2, e_lst2, e_tup3, e_lst3, e_tup4, e_lst4, e_tup5, e_lst5, e_tup6, e_lst6, e_tup7, e_lst7, e_tup8, e_lst8, e_RaF, e_raF1, e_raF2, e_TryA, e_tryAO, e_asgnK, e_frzX, e_bindX, e_Fld, e_SFld, e_Mk, e_mkK1, e_mkK2, e_mkK3, e_mkK4, e_mkO, e_mkX, e_Met, e_metK2, e_Enum, e_enumL, e_enumT, pairs2, pairs3, pairs4, e_lst9, e_lst10, e_lst11, e_lst12, e_tup9, e_tup10, e_tup11, e_tup12, e_ListF, e_listFT, e_listFL, e_IfB, e_ifBT, e_ifBF, e_notB, e_isB, o_int, o_str, o_tup, o_lst, o_non, o_bl, n_int, n_str, n_tup, n_lst, n_non, n_bl, e1, e2, q1, if_true]
  · by_cases h2 : n = q
    · simp only [h1, h2, decide_false, decide_true] at q1 q2 ⊢
      have h1' : ¬ q = p := fun z => h1 (h2.trans z)
      simp only [startE, List.map, List.length, List.replicate, e_Seq, e_Asg, e_Ret, e_RetF, e_Expr, e_exprK, e_op, e_op2, e_op1, e_un, e_is, e_B, e_bK, e_Cons, e_consK, e_consK2, e_Nil, e_var, e_C, e_bind, e_bindX, e_bindB, e_lookS, e_lookO, M.toD, e_of, e_asgK, e_gSet, e_stK, e_sqN, e_sqR, e_sqB, e_sqC, e_sNil, e_retK, e_retFK, e_add, e_vI, e_neg, e_fInt, e_fIntB, e_sIf, e_sifT, e_sifF, e_T, e_toB, e_Tru, e_truB, e_And, e_Or, e_andT, e_andF, e_orT, e_orF, e_Not, e_notK, e_AndV, e_OrV, e_andVT, e_andVF, e_orVT, e_orVF, e_NotV, e_notVK, e_If, e_ifT, e_ifF, e_Tup, e_Lst, e_LstF, e_tup0, e_lst0, e_lstF0, e_eqI, e_neI, e_ltI, e_leI, e_gtI, e_geI, e_lenL, e_lenT, e_lenR, e_lenS, e_ixL, e_ixT, at0, at1, at2, at3, e_tupL, e_tupT, e_lstT, e_Own, e_ownK, e_Sub, e_For, e_Items, e_itL, e_itT, e_itR, e_Call, e_CallF, e_aNil, e_aVal, e_aVK, e_aVK2, step0, step1, step2, step3, out0, out1, out2, out3, outX1, outX2, outO1, outO2, outO3, e_onSh, e_onOw, decide_true, decide_false, Bool.not_true, Bool.not_false, List.cons_append, List.nil_append, List.getElem?_cons_zero, List.getElem?_cons_succ, List.set_cons_zero, List.set_cons_succ, Nat.reduceLT, Nat.reduceAdd, Nat.reduceSub, Option.map_some, finF, outsE, e_frz, d_rng7, e_forK, e_tnN, e_tnC, e_tnB, e_tnR, e_whT, e_whF, e_Raise, e_Par, e_parK, e_parK2, e_augK, e_Ch, e_chK1, e_chK2, e_chT, e_chF, e_Try, e_tryO, e_tru, e_While, e_abs, e_max2, e_min2, e_gSq2, e_tup1, e_lst1, e_tup2, e_lst2, e_tup3, e_lst3, e_tup4, e_lst4, e_tup5, e_lst5, e_tup6, e_lst6, e_tup7, e_lst7, e_tup8, e_lst8, e_RaF, e_raF1, e_raF2, e_TryA, e_tryAO, e_asgnK, e_frzX, e_bindX, e_Fld, e_SFld, e_Mk, e_mkK1, e_mkK2, e_mkK3, e_mkK4, e_mkO, e_mkX, e_Met, e_metK2, e_Enum, e_enumL, e_enumT, pairs2, pairs3, pairs4, e_lst9, e_lst10, e_lst11, e_lst12, e_tup9, e_tup10, e_tup11, e_tup12, e_ListF, e_listFT, e_listFL, e_IfB, e_ifBT, e_ifBF, e_notB, e_isB, o_int, o_str, o_tup, o_lst, o_non, o_bl, n_int, n_str, n_tup, n_lst, n_non, n_bl, e1, e2, q1, q2, h1', if_true, if_false]
    · simp only [startE, List.map, List.length, List.replicate, e_Seq, e_Asg, e_Ret, e_RetF, e_Expr, e_exprK, e_op, e_op2, e_op1, e_un, e_is, e_B, e_bK, e_Cons, e_consK, e_consK2, e_Nil, e_var, e_C, e_bind, e_bindX, e_bindB, e_lookS, e_lookO, M.toD, e_of, e_asgK, e_gSet, e_stK, e_sqN, e_sqR, e_sqB, e_sqC, e_sNil, e_retK, e_retFK, e_add, e_vI, e_neg, e_fInt, e_fIntB, e_sIf, e_sifT, e_sifF, e_T, e_toB, e_Tru, e_truB, e_And, e_Or, e_andT, e_andF, e_orT, e_orF, e_Not, e_notK, e_AndV, e_OrV, e_andVT, e_andVF, e_orVT, e_orVF, e_NotV, e_notVK, e_If, e_ifT, e_ifF, e_Tup, e_Lst, e_LstF, e_tup0, e_lst0, e_lstF0, e_eqI, e_neI, e_ltI, e_leI, e_gtI, e_geI, e_lenL, e_lenT, e_lenR, e_lenS, e_ixL, e_ixT, at0, at1, at2, at3, e_tupL, e_tupT, e_lstT, e_Own, e_ownK, e_Sub, e_For, e_Items, e_itL, e_itT, e_itR, e_Call, e_CallF, e_aNil, e_aVal, e_aVK, e_aVK2, step0, step1, step2, step3, out0, out1, out2, out3, outX1, outX2, outO1, outO2, outO3, e_onSh, e_onOw, decide_true, decide_false, Bool.not_true, Bool.not_false, List.cons_append, List.nil_append, List.getElem?_cons_zero, List.getElem?_cons_succ, List.set_cons_zero, List.set_cons_succ, Nat.reduceLT, Nat.reduceAdd, Nat.reduceSub, Option.map_some, finF, outsE, e_frz, d_rng7, e_forK, e_tnN, e_tnC, e_tnB, e_tnR, e_whT, e_whF, e_Raise, e_Par, e_parK, e_parK2, e_augK, e_Ch, e_chK1, e_chK2, e_chT, e_chF, e_Try, e_tryO, e_tru, e_While, e_abs, e_max2, e_min2, e_gSq2, e_tup1, e_lst1, e_tup2, e_lst2, e_tup3, e_lst3, e_tup4, e_lst4, e_tup5, e_lst5, e_tup6, e_lst6, e_tup7, e_lst7, e_tup8, e_lst8, e_RaF, e_raF1, e_raF2, e_TryA, e_tryAO, e_asgnK, e_frzX, e_bindX, e_Fld, e_SFld, e_Mk, e_mkK1, e_mkK2, e_mkK3, e_mkK4, e_mkO, e_mkX, e_Met, e_metK2, e_Enum, e_enumL, e_enumT, pairs2, pairs3, pairs4, e_lst9, e_lst10, e_lst11, e_lst12, e_tup9, e_tup10, e_tup11, e_tup12, e_ListF, e_listFT, e_listFL, e_IfB, e_ifBT, e_ifBF, e_notB, e_isB, o_int, o_str, o_tup, o_lst, o_non, o_bl, n_int, n_str, n_tup, n_lst, n_non, n_bl, e1, e2, q1, q2, h1, h2, if_false]
theorem other_ok {n p q : Str} (hn : Nm n) (hp : Nm p) (hq : Nm q) : m__law_other [.sh (.str n), .sh (.str p), .sh (.str q)] = .ok (.sh (.str (swap n p q))) [] := by
  have q1 := eqS hn.ok hp.ok
  have q2 := eqS hn.ok hq.ok
  refine (e_run [] 3 _ _ rfl).trans ?_
  unfold b__law_other swap
  by_cases h1 : n = p
  · simp only [h1] at q1 ⊢
    simp only [startE, List.map, List.length, List.replicate, e_Seq, e_Asg, e_Ret, e_RetF, e_Expr, e_exprK, e_op, e_op2, e_op1, e_un, e_is, e_B, e_bK, e_Cons, e_consK, e_consK2, e_Nil, e_var, e_C, e_bind, e_bindX, e_bindB, e_lookS, e_lookO, M.toD, e_of, e_asgK, e_gSet, e_stK, e_sqN, e_sqR, e_sqB, e_sqC, e_sNil, e_retK, e_retFK, e_add, e_vI, e_neg, e_fInt, e_fIntB, e_sIf, e_sifT, e_sifF, e_T, e_toB, e_Tru, e_truB, e_And, e_Or, e_andT, e_andF, e_orT, e_orF, e_Not, e_notK, e_AndV, e_OrV, e_andVT, e_andVF, e_orVT, e_orVF, e_NotV, e_notVK, e_If, e_ifT, e_ifF, e_Tup, e_Lst, e_LstF, e_tup0, e_lst0, e_lstF0, e_eqI, e_neI, e_ltI, e_leI, e_gtI, e_geI, e_lenL, e_lenT, e_lenR, e_lenS, e_ixL, e_ixT, at0, at1, at2, at3, e_tupL, e_tupT, e_lstT, e_Own, e_ownK, e_Sub, e_For, e_Items, e_itL, e_itT, e_itR, e_Call, e_CallF, e_aNil, e_aVal, e_aVK, e_aVK2, step0, step1, step2, step3, out0, out1, out2, out3, outX1, outX2, outO1, outO2, outO3, e_onSh, e_onOw, decide_true, decide_false, Bool.not_true, Bool.not_false, List.cons_append, List.nil_append, List.getElem?_cons_zero, List.getElem?_cons_succ, List.set_cons_zero, List.set_cons_succ, Nat.reduceLT, Nat.reduceAdd, Nat.reduceSub, Option.map_some, finF, outsE, e_frz, d_rng7, e_forK, e_tnN, e_tnC, e_tnB, e_tnR, e_whT, e_whF, e_Raise, e_Par, e_parK, e_parK2, e_augK, e_Ch, e_chK1, e_chK2, e_chT, e_chF, e_Try, e_tryO, e_tru, e_While, e_abs, e_max2, e_min2, e_gSq2, e_tup1, e_lst1, e_tup2, e_lst2, e_tup3, e_lst3, e_tup4, e_lst4, e_tup5, e_lst5, e_tup6, e_lst6, e_tup7, e_lst7, e_tup8, e_lst8, e_RaF, e_raF1, e_raF2, e_TryA, e_tryAO, e_asgnK, e_frzX, e_bindX, e_Fld, e_SFld, e_Mk, e_mkK1, e_mkK2, e_mkK3, e_mkK4, e_mkO, e_mkX, e_Met, e_metK2, e_Enum, e_enumL, e_enumT, pairs2, pairs3, pairs4, e_lst9, e_lst10, e_lst11, e_lst12, e_tup9, e_tup10, e_tup11, e_tup12, e_ListF, e_listFT, e_listFL, e_IfB, e_ifBT, e_ifBF, e_notB, e_isB, o_int, o_str, o_tup, o_lst, o_non, o_bl, n_int, n_str, n_tup, n_lst, n_non, n_bl, q1, if_true]
  · by_cases h2 : n = q
    · simp only [h1, h2, decide_false, decide_true] at q1 q2 ⊢
      have h1' : ¬ q = p := fun z => h1 (h2.trans z)
      simp only [startE, List.map, List.length, List.replicate, e_Seq, e_Asg, e_Ret, e_RetF, e_Expr, e_exprK, e_op, e_op2, e_op1, e_un, e_is, e_B, e_bK, e_Cons, e_consK, e_consK2, e_Nil, e_var, e_C, e_bind, e_bindX, e_bindB, e_lookS, e_lookO, M.toD, e_of, e_asgK, e_gSet, e_stK, e_sqN, e_sqR, e_sqB, e_sqC, e_sNil, e_retK, e_retFK, e_add, e_vI, e_neg, e_fInt, e_fIntB, e_sIf, e_sifT, e_sifF, e_T, e_toB, e_Tru, e_truB, e_And, e_Or, e_andT, e_andF, e_orT, e_orF, e_Not, e_notK, e_AndV, e_OrV, e_andVT, e_andVF, e_orVT, e_orVF, e_NotV, e_notVK, e_If, e_ifT, e_ifF, e_Tup, e_Lst, e_LstF, e_tup0, e_lst0, e_lstF0, e_eqI, e_neI, e_ltI, e_leI, e_gtI, e_geI, e_lenL, e_lenT, e_lenR, e_lenS, e_ixL, e_ixT, at0, at1, at2, at3, e_tupL, e_tupT, e_lstT, e_Own, e_ownK, e_Sub, e_For, e_Items, e_itL, e_itT, e_itR, e_Call, e_CallF, e_aNil, e_aVal, e_aVK, e_aVK2, step0, step1, step2, step3, out0, out1, out2, out3, outX1, outX2, outO1, outO2, outO3, e_onSh, e_onOw, decide_true, decide_false, Bool.not_true, Bool.not_false, List.cons_append, List.nil_append, List.getElem?_cons_zero, List.getElem?_cons_succ, List.set_cons_zero, List.set_cons_succ, Nat.reduceLT, Nat.reduceAdd, Nat.reduceSub, Option.map_some, finF, outsE, e_frz, d_rng7, e_forK, e_tnN, e_tnC, e_tnB, e_tnR, e_whT, e_whF, e_Raise, e_Par, e_parK, e_parK2, e_augK, e_Ch, e_chK1, e_chK2, e_chT, e_chF, e_Try, e_tryO, e_tru, e_While, e_abs, e_max2, e_min2, e_gSq2, e_tup1, e_lst1, e_tup2, e_lst2, e_tup3, e_lst3, e_tup4, e_lst4, e_tup5, e_lst5, e_tup6, e_lst6, e_tup7, e_lst7, e_tup8, e_lst8, e_RaF, e_raF1, e_raF2, e_TryA, e_tryAO, e_asgnK, e_frzX, e_bindX, e_Fld, e_SFld, e_Mk, e_mkK1, e_mkK2, e_mkK3, e_mkK4, e_mkO, e_mkX, e_Met, e_metK2, e_Enum, e_enumL, e_enumT, pairs2, pairs3, pairs4, e_lst9, e_lst10, e_lst11, e_lst12, e_tup9, e_tup10, e_tup11, e_tup12, e_ListF, e_listFT, e_listFL, e_IfB, e_ifBT, e_ifBF, e_notB, e_isB, o_int, o_str, o_tup, o_lst, o_non, o_bl, n_int, n_str, n_tup, n_lst, n_non, n_bl, q1, q2, h1', if_true, if_false]
    · simp only [startE, List.map, List.length, List.replicate, e_Seq, e_Asg, e_Ret, e_RetF, e_Expr, e_exprK, e_op, e_op2, e_op1, e_un, e_is, e_B, e_bK, e_Cons, e_consK, e_consK2, e_Nil, e_var, e_C, e_bind, e_bindX, e_bindB, e_lookS, e_lookO, M.toD, e_of, e_asgK, e_gSet, e_stK, e_sqN, e_sqR, e_sqB, e_sqC, e_sNil, e_retK, e_retFK, e_add, e_vI, e_neg, e_fInt, e_fIntB, e_sIf, e_sifT, e_sifF, e_T, e_toB, e_Tru, e_truB, e_And, e_Or, e_andT, e_andF, e_orT, e_orF, e_Not, e_notK, e_AndV, e_OrV, e_andVT, e_andVF, e_orVT, e_orVF, e_NotV, e_notVK, e_If, e_ifT, e_ifF, e_Tup, e_Lst, e_LstF, e_tup0, e_lst0, e_lstF0, e_eqI, e_neI, e_ltI, e_leI, e_gtI, e_geI, e_lenL, e_lenT, e_lenR, e_lenS, e_ixL, e_ixT, at0, at1, at2, at3, e_tupL, e_tupT, e_lstT, e_Own, e_ownK, e_Sub, e_For, e_Items, e_itL, e_itT, e_itR, e_Call, e_CallF, e_aNil, e_aVal, e_aVK, e_aVK2, step0, step1, step2, step3, out0, out1, out2, out3, outX1, outX2, outO1, outO2, outO3, e_onSh, e_onOw, decide_true, decide_false, Bool.not_true, Bool.not_false, List.cons_append, List.nil_append, List.getElem?_cons_zero, List.getElem?_cons_succ, List.set_cons_zero, List.set_cons_succ, Nat.reduceLT, Nat.reduceAdd, Nat.reduceSub, Option.map_some, finF, outsE, e_frz, d_rng7, e_forK, e_tnN, e_tnC, e_tnB, e_tnR, e_whT, e_whF, e_Raise, e_Par, e_parK, e_parK2, e_augK, e_Ch, e_chK1, e_chK2, e_chT, e_chF, e_Try, e_tryO, e_tru, e_While, e_abs, e_max2, e_min2, e_gSq2, e_tup1, e_lst1, e_tup2, e_lst2, e_tup3, e_lst3, e_tup4, e_lst4, e_tup5, e_lst5, e_tup6, e_lst6, e_tup7, e_lst7, e_tup8, e_lst8, e_RaF, e_raF1, e_raF2, e_TryA, e_tryAO, e_asgnK, e_frzX, e_bindX, e_Fld, e_SFld, e_Mk, e_mkK1, e_mkK2, e_mkK3, e_mkK4, e_mkO, e_mkX, e_Met, e_metK2, e_Enum, e_enumL, e_enumT, pairs2, pairs3, pairs4, e_lst9, e_lst10, e_lst11, e_lst12, e_tup9, e_tup10, e_tup11, e_tup12, e_ListF, e_listFT, e_listFL, e_IfB, e_ifBT, e_ifBF, e_notB, e_isB, o_int, o_str, o_tup, o_lst, o_non, o_bl, n_int, n_str, n_tup, n_lst, n_non, n_bl, q1, q2, h1, h2, if_false]
theorem exn_bad {n x y : D} (hx : Pl x) (hy : Pl y) (h : nm x = false ∨ nm y = false) : m_exchange_name [.sh n, .sh x, .sh y] = .exc (xS "name") [] := by
  have e1 := name_ok hx
  have e2 := name_ok hy
  refine (e_run [] 3 _ _ rfl).trans ?_
  unfold b_exchange_name
  cases h1 : nm x with
  | false => rw [h1] at e1; simp only [startE, List.map, List.length, List.replicate, e_Seq, e_Asg, e_Ret, e_RetF, e_Expr, e_exprK, e_op, e_op2, e_op1, e_un, e_is, e_B, e_bK, e_Cons, e_consK, e_consK2, e_Nil, e_var, e_C, e_bind, e_bindX, e_bindB, e_lookS, e_lookO, M.toD, e_of, e_asgK, e_gSet, e_stK, e_sqN, e_sqR, e_sqB, e_sqC, e_sNil, e_retK, e_retFK, e_add, e_vI, e_neg, e_fInt, e_fIntB, e_sIf, e_sifT, e_sifF, e_T, e_toB, e_Tru, e_truB, e_And, e_Or, e_andT, e_andF, e_orT, e_orF, e_Not, e_notK, e_AndV, e_OrV, e_andVT, e_andVF, e_orVT, e_orVF, e_NotV, e_notVK, e_If, e_ifT, e_ifF, e_Tup, e_Lst, e_LstF, e_tup0, e_lst0, e_lstF0, e_eqI, e_neI, e_ltI, e_leI, e_gtI, e_geI, e_lenL, e_lenT, e_lenR, e_lenS, e_ixL, e_ixT, at0, at1, at2, at3, e_tupL, e_tupT, e_lstT, e_Own, e_ownK, e_Sub, e_For, e_Items, e_itL, e_itT, e_itR, e_Call, e_CallF, e_aNil, e_aVal, e_aVK, e_aVK2, step0, step1, step2, step3, out0, out1, out2, out3, outX1, outX2, outO1, outO2, outO3, e_onSh, e_onOw, decide_true, decide_false, Bool.not_true, Bool.not_false, List.cons_append, List.nil_append, List.getElem?_cons_zero, List.getElem?_cons_succ, List.set_cons_zero, List.set_cons_succ, Nat.reduceLT, Nat.reduceAdd, Nat.reduceSub, Option.map_some, finF, outsE, e_frz, d_rng7, e_forK, e_tnN, e_tnC, e_tnB, e_tnR, e_whT, e_whF, e_Raise, e_Par, e_parK, e_parK2, e_augK, e_Ch, e_chK1, e_chK2, e_chT, e_chF, e_Try, e_tryO, e_tru, e_While, e_abs, e_max2, e_min2, e_gSq2, e_tup1, e_lst1, e_tup2, e_lst2, e_tup3, e_lst3, e_tup4, e_lst4, e_tup5, e_lst5, e_tup6, e_lst6, e_tup7, e_lst7, e_tup8, e_lst8, e_RaF, e_raF1, e_raF2, e_TryA, e_tryAO, e_asgnK, e_frzX, e_bindX, e_Fld, e_SFld, e_Mk, e_mkK1, e_mkK2, e_mkK3, e_mkK4, e_mkO, e_mkX, e_Met, e_metK2, e_Enum, e_enumL, e_enumT, pairs2, pairs3, pairs4, e_lst9, e_lst10, e_lst11, e_lst12, e_tup9, e_tup10, e_tup11, e_tup12, e_ListF, e_listFT, e_listFL, e_IfB, e_ifBT, e_ifBF, e_notB, e_isB, o_int, o_str, o_tup, o_lst, o_non, o_bl, n_int, n_str, n_tup, n_lst, n_non, n_bl, e1, xS]
  | true =>
    rcases h with h | h
    · rw [h1] at h; cases h
    · rw [h1] at e1; rw [h] at e2; simp only [startE, List.map, List.length, List.replicate, e_Seq, e_Asg, e_Ret, e_RetF, e_Expr, e_exprK, e_op, e_op2, e_op1, e_un, e_is, e_B, e_bK, e_Cons, e_consK, e_consK2, e_Nil, e_var, e_C, e_bind, e_bindX, e_bindB, e_lookS, e_lookO, M.toD, e_of, e_asgK, e_gSet, e_stK, e_sqN, e_sqR, e_sqB, e_sqC, e_sNil, e_retK, e_retFK, e_add, e_vI, e_neg, e_fInt, e_fIntB, e_sIf, e_sifT, e_sifF, e_T, e_toB, e_Tru, e_truB, e_And, e_Or, e_andT, e_andF, e_orT, e_orF, e_Not, e_notK, e_AndV, e_OrV, e_andVT, e_andVF, e_orVT, e_orVF, e_NotV, e_notVK, e_If, e_ifT, e_ifF, e_Tup, e_Lst, e_LstF, e_tup0, e_lst0, e_lstF0, e_eqI, e_neI, e_ltI, e_leI, e_gtI, e_geI, e_lenL, e_lenT, e_lenR, e_lenS, e_ixL, e_ixT, at0, at1, at2, at3, e_tupL, e_tupT, e_lstT, e_Own, e_ownK, e_Sub, e_For, e_Items, e_itL, e_itT, e_itR, e_Call, e_CallF, e_aNil, e_aVal, e_aVK, e_aVK2, step0, step1, step2, step3, out0, out1, out2, out3, outX1, outX2, outO1, outO2, outO3, e_onSh, e_onOw, decide_true, decide_false, Bool.not_true, Bool.not_false, List.cons_append, List.nil_append, List.getElem?_cons_zero, List.getElem?_cons_succ, List.set_cons_zero, List.set_cons_succ, Nat.reduceLT, Nat.reduceAdd, Nat.reduceSub, Option.map_some, finF, outsE, e_frz, d_rng7, e_forK, e_tnN, e_tnC, e_tnB, e_tnR, e_whT, e_whF, e_Raise, e_Par, e_parK, e_parK2, e_augK, e_Ch, e_chK1, e_chK2, e_chT, e_chF, e_Try, e_tryO, e_tru, e_While, e_abs, e_max2, e_min2, e_gSq2, e_tup1, e_lst1, e_tup2, e_lst2, e_tup3, e_lst3, e_tup4, e_lst4, e_tup5, e_lst5, e_tup6, e_lst6, e_tup7, e_lst7, e_tup8, e_lst8, e_RaF, e_raF1, e_raF2, e_TryA, e_tryAO, e_asgnK, e_frzX, e_bindX, e_Fld, e_SFld, e_Mk, e_mkK1, e_mkK2, e_mkK3, e_mkK4, e_mkO, e_mkX, e_Met, e_metK2, e_Enum, e_enumL, e_enumT, pairs2, pairs3, pairs4, e_lst9, e_lst10, e_lst11, e_lst12, e_tup9, e_tup10, e_tup11, e_tup12, e_ListF, e_listFT, e_listFL, e_IfB, e_ifBT, e_ifBF, e_notB, e_isB, o_int, o_str, o_tup, o_lst, o_non, o_bl, n_int, n_str, n_tup, n_lst, n_non, n_bl, e1, e2, xS]
theorem lname_ok {n p q : Str} (hn : Nm n) (hp : Nm p) (hq : Nm q) : m__law_name_exchanged [.sh (.str n), .sh (.str p), .sh (.str q)] = .ok (.sh (.str (swap n p q))) [] := by
  have e := exn_ok hn hp hq
  refine (e_run [] 5 _ _ rfl).trans ?_
  unfold b__law_name_exchanged
  simp only [startE, List.map, List.length, List.replicate, e_Seq, e_Asg, e_Ret, e_RetF, e_Expr, e_exprK, e_op, e_op2, e_op1, e_un, e_is, e_B, e_bK, e_Cons, e_consK, e_consK2, e_Nil, e_var, e_C, e_bind, e_bindX, e_bindB, e_lookS, e_lookO, M.toD, e_of, e_asgK, e_gSet, e_stK, e_sqN, e_sqR, e_sqB, e_sqC, e_sNil, e_retK, e_retFK, e_add, e_vI, e_neg, e_fInt, e_fIntB, e_sIf, e_sifT, e_sifF, e_T, e_toB, e_Tru, e_truB, e_And, e_Or, e_andT, e_andF, e_orT, e_orF, e_Not, e_notK, e_AndV, e_OrV, e_andVT, e_andVF, e_orVT, e_orVF, e_NotV, e_notVK, e_If, e_ifT, e_ifF, e_Tup, e_Lst, e_LstF, e_tup0, e_lst0, e_lstF0, e_eqI, e_neI, e_ltI, e_leI, e_gtI, e_geI, e_lenL, e_lenT, e_lenR, e_lenS, e_ixL, e_ixT, at0, at1, at2, at3, e_tupL, e_tupT, e_lstT, e_Own, e_ownK, e_Sub, e_For, e_Items, e_itL, e_itT, e_itR, e_Call, e_CallF, e_aNil, e_aVal, e_aVK, e_aVK2, step0, step1, step2, step3, out0, out1, out2, out3, outX1, outX2, outO1, outO2, outO3, e_onSh, e_onOw, decide_true, decide_false, Bool.not_true, Bool.not_false, List.cons_append, List.nil_append, List.getElem?_cons_zero, List.getElem?_cons_succ, List.set_cons_zero, List.set_cons_succ, Nat.reduceLT, Nat.reduceAdd, Nat.reduceSub, Option.map_some, finF, outsE, e_frz, d_rng7, e_forK, e_tnN, e_tnC, e_tnB, e_tnR, e_whT, e_whF, e_Raise, e_Par, e_parK, e_parK2, e_augK, e_Ch, e_chK1, e_chK2, e_chT, e_chF, e_Try, e_tryO, e_tru, e_While, e_abs, e_max2, e_min2, e_gSq2, e_tup1, e_lst1, e_tup2, e_lst2, e_tup3, e_lst3, e_tup4, e_lst4, e_tup5, e_lst5, e_tup6, e_lst6, e_tup7, e_lst7, e_tup8, e_lst8, e_RaF, e_raF1, e_raF2, e_TryA, e_tryAO, e_asgnK, e_frzX, e_bindX, e_Fld, e_SFld, e_Mk, e_mkK1, e_mkK2, e_mkK3, e_mkK4, e_mkO, e_mkX, e_Met, e_metK2, e_Enum, e_enumL, e_enumT, pairs2, pairs3, pairs4, e_lst9, e_lst10, e_lst11, e_lst12, e_tup9, e_tup10, e_tup11, e_tup12, e_ListF, e_listFT, e_listFL, e_IfB, e_ifBT, e_ifBF, e_notB, e_isB, o_int, o_str, o_tup, o_lst, o_non, o_bl, n_int, n_str, n_tup, n_lst, n_non, n_bl, e]
theorem outX3 (a b c : D) (ρ : ENV) (v : EX) : outK [.inl a, .inl b, .inl c] ρ (.exc v []) = .exc v ρ := rfl
theorem lname_bad {n x y : D} (hx : Pl x) (hy : Pl y) (h : nm x = false ∨ nm y = false) : m__law_name_exchanged [.sh n, .sh x, .sh y] = .ok (.sh (.lst [.str "no", .str "name"])) [] := by
  have e := exn_bad (n := n) hx hy h
  refine (e_run [] 5 _ _ rfl).trans ?_
  unfold b__law_name_exchanged
  simp only [startE, List.map, List.length, List.replicate, e_Seq, e_Asg, e_Ret, e_RetF, e_Expr, e_exprK, e_op, e_op2, e_op1, e_un, e_is, e_B, e_bK, e_Cons, e_consK, e_consK2, e_Nil, e_var, e_C, e_bind, e_bindX, e_bindB, e_lookS, e_lookO, M.toD, e_of, e_asgK, e_gSet, e_stK, e_sqN, e_sqR, e_sqB, e_sqC, e_sNil, e_retK, e_retFK, e_add, e_vI, e_neg, e_fInt, e_fIntB, e_sIf, e_sifT, e_sifF, e_T, e_toB, e_Tru, e_truB, e_And, e_Or, e_andT, e_andF, e_orT, e_orF, e_Not, e_notK, e_AndV, e_OrV, e_andVT, e_andVF, e_orVT, e_orVF, e_NotV, e_notVK, e_If, e_ifT, e_ifF, e_Tup, e_Lst, e_LstF, e_tup0, e_lst0, e_lstF0, e_eqI, e_neI, e_ltI, e_leI, e_gtI, e_geI, e_lenL, e_lenT, e_lenR, e_lenS, e_ixL, e_ixT, at0, at1, at2, at3, e_tupL, e_tupT, e_lstT, e_Own, e_ownK, e_Sub, e_For, e_Items, e_itL, e_itT, e_itR, e_Call, e_CallF, e_aNil, e_aVal, e_aVK, e_aVK2, step0, step1, step2, step3, out0, out1, out2, out3, outX1, outX2, outO1, outO2, outO3, e_onSh, e_onOw, decide_true, decide_false, Bool.not_true, Bool.not_false, List.cons_append, List.nil_append, List.getElem?_cons_zero, List.getElem?_cons_succ, List.set_cons_zero, List.set_cons_succ, Nat.reduceLT, Nat.reduceAdd, Nat.reduceSub, Option.map_some, finF, outsE, e_frz, d_rng7, e_forK, e_tnN, e_tnC, e_tnB, e_tnR, e_whT, e_whF, e_Raise, e_Par, e_parK, e_parK2, e_augK, e_Ch, e_chK1, e_chK2, e_chT, e_chF, e_Try, e_tryO, e_tru, e_While, e_abs, e_max2, e_min2, e_gSq2, e_tup1, e_lst1, e_tup2, e_lst2, e_tup3, e_lst3, e_tup4, e_lst4, e_tup5, e_lst5, e_tup6, e_lst6, e_tup7, e_lst7, e_tup8, e_lst8, e_RaF, e_raF1, e_raF2, e_TryA, e_tryAO, e_asgnK, e_frzX, e_bindX, e_Fld, e_SFld, e_Mk, e_mkK1, e_mkK2, e_mkK3, e_mkK4, e_mkO, e_mkX, e_Met, e_metK2, e_Enum, e_enumL, e_enumT, pairs2, pairs3, pairs4, e_lst9, e_lst10, e_lst11, e_lst12, e_tup9, e_tup10, e_tup11, e_tup12, e_ListF, e_listFT, e_listFL, e_IfB, e_ifBT, e_ifBF, e_notB, e_isB, o_int, o_str, o_tup, o_lst, o_non, o_bl, n_int, n_str, n_tup, n_lst, n_non, n_bl, e, outX3, tryA, x_what]
theorem exch_ok {a b d p q : Str} (c : Int) (ha : Nm a) (hb : Nm b) (hd : Nm d) (hp : Nm p) (hq : Nm q) : m__law_exchanged [.sh (sitN a b c d), .sh (.str p), .sh (.str q)] = .ok (.sh (sitN (swap a p q) (swap b p q) c d)) [] := by
  have e1 : m_Situation_exchanged [.sh (sitN a b c d), .sh (.str p), .sh (.str q)] = .ok (.sh (sitN (swap a p q) (swap b p q) c d)) [] := by
    have x1 := exn_ok ha hp hq
    have x2 := exn_ok hb hp hq
    have e0 := init_N c (swap_nm ha hp hq) (swap_nm hb hp hq) hd
    refine (e_run [] 3 _ _ rfl).trans ?_
    unfold b_Situation_exchanged
    unfold sitN
    simp only [startE, List.map, List.length, List.replicate, e_Seq, e_Asg, e_Ret, e_RetF, e_Expr, e_exprK, e_op, e_op2, e_op1, e_un, e_is, e_B, e_bK, e_Cons, e_consK, e_consK2, e_Nil, e_var, e_C, e_bind, e_bindX, e_bindB, e_lookS, e_lookO, M.toD, e_of, e_asgK, e_gSet, e_stK, e_sqN, e_sqR, e_sqB, e_sqC, e_sNil, e_retK, e_retFK, e_add, e_vI, e_neg, e_fInt, e_fIntB, e_sIf, e_sifT, e_sifF, e_T, e_toB, e_Tru, e_truB, e_And, e_Or, e_andT, e_andF, e_orT, e_orF, e_Not, e_notK, e_AndV, e_OrV, e_andVT, e_andVF, e_orVT, e_orVF, e_NotV, e_notVK, e_If, e_ifT, e_ifF, e_Tup, e_Lst, e_LstF, e_tup0, e_lst0, e_lstF0, e_eqI, e_neI, e_ltI, e_leI, e_gtI, e_geI, e_lenL, e_lenT, e_lenR, e_lenS, e_ixL, e_ixT, at0, at1, at2, at3, e_tupL, e_tupT, e_lstT, e_Own, e_ownK, e_Sub, e_For, e_Items, e_itL, e_itT, e_itR, e_Call, e_CallF, e_aNil, e_aVal, e_aVK, e_aVK2, step0, step1, step2, step3, out0, out1, out2, out3, outX1, outX2, outO1, outO2, outO3, e_onSh, e_onOw, decide_true, decide_false, Bool.not_true, Bool.not_false, List.cons_append, List.nil_append, List.getElem?_cons_zero, List.getElem?_cons_succ, List.set_cons_zero, List.set_cons_succ, Nat.reduceLT, Nat.reduceAdd, Nat.reduceSub, Option.map_some, finF, outsE, e_frz, d_rng7, e_forK, e_tnN, e_tnC, e_tnB, e_tnR, e_whT, e_whF, e_Raise, e_Par, e_parK, e_parK2, e_augK, e_Ch, e_chK1, e_chK2, e_chT, e_chF, e_Try, e_tryO, e_tru, e_While, e_abs, e_max2, e_min2, e_gSq2, e_tup1, e_lst1, e_tup2, e_lst2, e_tup3, e_lst3, e_tup4, e_lst4, e_tup5, e_lst5, e_tup6, e_lst6, e_tup7, e_lst7, e_tup8, e_lst8, e_RaF, e_raF1, e_raF2, e_TryA, e_tryAO, e_asgnK, e_frzX, e_bindX, e_Fld, e_SFld, e_Mk, e_mkK1, e_mkK2, e_mkK3, e_mkK4, e_mkO, e_mkX, e_Met, e_metK2, e_Enum, e_enumL, e_enumT, pairs2, pairs3, pairs4, e_lst9, e_lst10, e_lst11, e_lst12, e_tup9, e_tup10, e_tup11, e_tup12, e_ListF, e_listFT, e_listFL, e_IfB, e_ifBT, e_ifBF, e_notB, e_isB, o_int, o_str, o_tup, o_lst, o_non, o_bl, n_int, n_str, n_tup, n_lst, n_non, n_bl, f_teller, f_hearer, f_day, f_place, x1, x2, e0, sitM]
    rfl
  have t : metOf t_exchanged "exchanged" (sitN a b c d) = some m_Situation_exchanged := by kernel_rfl
  refine (e_run [] 5 _ _ rfl).trans ?_
  unfold b__law_exchanged
  simp only [startE, List.map, List.length, List.replicate, e_Seq, e_Asg, e_Ret, e_RetF, e_Expr, e_exprK, e_op, e_op2, e_op1, e_un, e_is, e_B, e_bK, e_Cons, e_consK, e_consK2, e_Nil, e_var, e_C, e_bind, e_bindX, e_bindB, e_lookS, e_lookO, M.toD, e_of, e_asgK, e_gSet, e_stK, e_sqN, e_sqR, e_sqB, e_sqC, e_sNil, e_retK, e_retFK, e_add, e_vI, e_neg, e_fInt, e_fIntB, e_sIf, e_sifT, e_sifF, e_T, e_toB, e_Tru, e_truB, e_And, e_Or, e_andT, e_andF, e_orT, e_orF, e_Not, e_notK, e_AndV, e_OrV, e_andVT, e_andVF, e_orVT, e_orVF, e_NotV, e_notVK, e_If, e_ifT, e_ifF, e_Tup, e_Lst, e_LstF, e_tup0, e_lst0, e_lstF0, e_eqI, e_neI, e_ltI, e_leI, e_gtI, e_geI, e_lenL, e_lenT, e_lenR, e_lenS, e_ixL, e_ixT, at0, at1, at2, at3, e_tupL, e_tupT, e_lstT, e_Own, e_ownK, e_Sub, e_For, e_Items, e_itL, e_itT, e_itR, e_Call, e_CallF, e_aNil, e_aVal, e_aVK, e_aVK2, step0, step1, step2, step3, out0, out1, out2, out3, outX1, outX2, outO1, outO2, outO3, e_onSh, e_onOw, decide_true, decide_false, Bool.not_true, Bool.not_false, List.cons_append, List.nil_append, List.getElem?_cons_zero, List.getElem?_cons_succ, List.set_cons_zero, List.set_cons_succ, Nat.reduceLT, Nat.reduceAdd, Nat.reduceSub, Option.map_some, finF, outsE, e_frz, d_rng7, e_forK, e_tnN, e_tnC, e_tnB, e_tnR, e_whT, e_whF, e_Raise, e_Par, e_parK, e_parK2, e_augK, e_Ch, e_chK1, e_chK2, e_chT, e_chF, e_Try, e_tryO, e_tru, e_While, e_abs, e_max2, e_min2, e_gSq2, e_tup1, e_lst1, e_tup2, e_lst2, e_tup3, e_lst3, e_tup4, e_lst4, e_tup5, e_lst5, e_tup6, e_lst6, e_tup7, e_lst7, e_tup8, e_lst8, e_RaF, e_raF1, e_raF2, e_TryA, e_tryAO, e_asgnK, e_frzX, e_bindX, e_Fld, e_SFld, e_Mk, e_mkK1, e_mkK2, e_mkK3, e_mkK4, e_mkO, e_mkX, e_Met, e_metK2, e_Enum, e_enumL, e_enumT, pairs2, pairs3, pairs4, e_lst9, e_lst10, e_lst11, e_lst12, e_tup9, e_tup10, e_tup11, e_tup12, e_ListF, e_listFT, e_listFL, e_IfB, e_ifBT, e_ifBF, e_notB, e_isB, o_int, o_str, o_tup, o_lst, o_non, o_bl, n_int, n_str, n_tup, n_lst, n_non, n_bl, e_metK (h := t), e1]
theorem exch_bad {a b d : Str} {c : Int} {x y : D} (hx : Pl x) (hy : Pl y) (h : nm x = false ∨ nm y = false) : m__law_exchanged [.sh (sitN a b c d), .sh x, .sh y] = .ok (.sh (.str "name")) [] := by
  have e1 : m_Situation_exchanged [.sh (sitN a b c d), .sh x, .sh y] = .exc (xS "name") [] := by
    have x1 := exn_bad (n := .str a) hx hy h
    refine (e_run [] 3 _ _ rfl).trans ?_
    unfold b_Situation_exchanged
    unfold sitN
    simp only [startE, List.map, List.length, List.replicate, e_Seq, e_Asg, e_Ret, e_RetF, e_Expr, e_exprK, e_op, e_op2, e_op1, e_un, e_is, e_B, e_bK, e_Cons, e_consK, e_consK2, e_Nil, e_var, e_C, e_bind, e_bindX, e_bindB, e_lookS, e_lookO, M.toD, e_of, e_asgK, e_gSet, e_stK, e_sqN, e_sqR, e_sqB, e_sqC, e_sNil, e_retK, e_retFK, e_add, e_vI, e_neg, e_fInt, e_fIntB, e_sIf, e_sifT, e_sifF, e_T, e_toB, e_Tru, e_truB, e_And, e_Or, e_andT, e_andF, e_orT, e_orF, e_Not, e_notK, e_AndV, e_OrV, e_andVT, e_andVF, e_orVT, e_orVF, e_NotV, e_notVK, e_If, e_ifT, e_ifF, e_Tup, e_Lst, e_LstF, e_tup0, e_lst0, e_lstF0, e_eqI, e_neI, e_ltI, e_leI, e_gtI, e_geI, e_lenL, e_lenT, e_lenR, e_lenS, e_ixL, e_ixT, at0, at1, at2, at3, e_tupL, e_tupT, e_lstT, e_Own, e_ownK, e_Sub, e_For, e_Items, e_itL, e_itT, e_itR, e_Call, e_CallF, e_aNil, e_aVal, e_aVK, e_aVK2, step0, step1, step2, step3, out0, out1, out2, out3, outX1, outX2, outO1, outO2, outO3, e_onSh, e_onOw, decide_true, decide_false, Bool.not_true, Bool.not_false, List.cons_append, List.nil_append, List.getElem?_cons_zero, List.getElem?_cons_succ, List.set_cons_zero, List.set_cons_succ, Nat.reduceLT, Nat.reduceAdd, Nat.reduceSub, Option.map_some, finF, outsE, e_frz, d_rng7, e_forK, e_tnN, e_tnC, e_tnB, e_tnR, e_whT, e_whF, e_Raise, e_Par, e_parK, e_parK2, e_augK, e_Ch, e_chK1, e_chK2, e_chT, e_chF, e_Try, e_tryO, e_tru, e_While, e_abs, e_max2, e_min2, e_gSq2, e_tup1, e_lst1, e_tup2, e_lst2, e_tup3, e_lst3, e_tup4, e_lst4, e_tup5, e_lst5, e_tup6, e_lst6, e_tup7, e_lst7, e_tup8, e_lst8, e_RaF, e_raF1, e_raF2, e_TryA, e_tryAO, e_asgnK, e_frzX, e_bindX, e_Fld, e_SFld, e_Mk, e_mkK1, e_mkK2, e_mkK3, e_mkK4, e_mkO, e_mkX, e_Met, e_metK2, e_Enum, e_enumL, e_enumT, pairs2, pairs3, pairs4, e_lst9, e_lst10, e_lst11, e_lst12, e_tup9, e_tup10, e_tup11, e_tup12, e_ListF, e_listFT, e_listFL, e_IfB, e_ifBT, e_ifBF, e_notB, e_isB, o_int, o_str, o_tup, o_lst, o_non, o_bl, n_int, n_str, n_tup, n_lst, n_non, n_bl, f_teller, f_hearer, f_day, f_place, x1, outX3]
  have t : metOf t_exchanged "exchanged" (sitN a b c d) = some m_Situation_exchanged := by kernel_rfl
  refine (e_run [] 5 _ _ rfl).trans ?_
  unfold b__law_exchanged
  simp only [startE, List.map, List.length, List.replicate, e_Seq, e_Asg, e_Ret, e_RetF, e_Expr, e_exprK, e_op, e_op2, e_op1, e_un, e_is, e_B, e_bK, e_Cons, e_consK, e_consK2, e_Nil, e_var, e_C, e_bind, e_bindX, e_bindB, e_lookS, e_lookO, M.toD, e_of, e_asgK, e_gSet, e_stK, e_sqN, e_sqR, e_sqB, e_sqC, e_sNil, e_retK, e_retFK, e_add, e_vI, e_neg, e_fInt, e_fIntB, e_sIf, e_sifT, e_sifF, e_T, e_toB, e_Tru, e_truB, e_And, e_Or, e_andT, e_andF, e_orT, e_orF, e_Not, e_notK, e_AndV, e_OrV, e_andVT, e_andVF, e_orVT, e_orVF, e_NotV, e_notVK, e_If, e_ifT, e_ifF, e_Tup, e_Lst, e_LstF, e_tup0, e_lst0, e_lstF0, e_eqI, e_neI, e_ltI, e_leI, e_gtI, e_geI, e_lenL, e_lenT, e_lenR, e_lenS, e_ixL, e_ixT, at0, at1, at2, at3, e_tupL, e_tupT, e_lstT, e_Own, e_ownK, e_Sub, e_For, e_Items, e_itL, e_itT, e_itR, e_Call, e_CallF, e_aNil, e_aVal, e_aVK, e_aVK2, step0, step1, step2, step3, out0, out1, out2, out3, outX1, outX2, outO1, outO2, outO3, e_onSh, e_onOw, decide_true, decide_false, Bool.not_true, Bool.not_false, List.cons_append, List.nil_append, List.getElem?_cons_zero, List.getElem?_cons_succ, List.set_cons_zero, List.set_cons_succ, Nat.reduceLT, Nat.reduceAdd, Nat.reduceSub, Option.map_some, finF, outsE, e_frz, d_rng7, e_forK, e_tnN, e_tnC, e_tnB, e_tnR, e_whT, e_whF, e_Raise, e_Par, e_parK, e_parK2, e_augK, e_Ch, e_chK1, e_chK2, e_chT, e_chF, e_Try, e_tryO, e_tru, e_While, e_abs, e_max2, e_min2, e_gSq2, e_tup1, e_lst1, e_tup2, e_lst2, e_tup3, e_lst3, e_tup4, e_lst4, e_tup5, e_lst5, e_tup6, e_lst6, e_tup7, e_lst7, e_tup8, e_lst8, e_RaF, e_raF1, e_raF2, e_TryA, e_tryAO, e_asgnK, e_frzX, e_bindX, e_Fld, e_SFld, e_Mk, e_mkK1, e_mkK2, e_mkK3, e_mkK4, e_mkO, e_mkX, e_Met, e_metK2, e_Enum, e_enumL, e_enumT, pairs2, pairs3, pairs4, e_lst9, e_lst10, e_lst11, e_lst12, e_tup9, e_tup10, e_tup11, e_tup12, e_ListF, e_listFT, e_listFL, e_IfB, e_ifBT, e_ifBF, e_notB, e_isB, o_int, o_str, o_tup, o_lst, o_non, o_bl, n_int, n_str, n_tup, n_lst, n_non, n_bl, e_metK (h := t), e1, outX3, tryA, x_what]
end L05
set_option Elab.async false
set_option linter.all false
set_option maxRecDepth 100000
set_option maxHeartbeats 4000000
namespace L05
open PySem L2 Rf
/-! ### tongues -/
def ton (a b c d : Bool) : D := .ins 3 [("shifts_person", .bl a), ("shifts_you", .bl b), ("shifts_today", .bl c), ("shifts_here", .bl d), ("shifts", .tup [.bl a, .bl b, .bl c, .bl d])]
def tgN (k : Nat) : D := ton (decide (8 ≤ k)) (k / 4 % 2 == 1) (k / 2 % 2 == 1) (k % 2 == 1)
def dueN (k : Nat) : D := .tup [.bl (decide (8 ≤ k)), .bl (k / 4 % 2 == 1), .bl (k / 2 % 2 == 1), .bl (k % 2 == 1)]
def TG : List D := (List.range 16).map tgN
theorem all_ok : m_all_tongues [] = .ok (.sh (.tup TG)) [] := by kernel_rfl
theorem pairs_TG : pairs TG = (List.range 16).map fun k => .tup [.int (k : Nat), tgN k] := by kernel_rfl
def tS1 : ENV → R Fl := sAsg (dTup (dCons (dCmp .ge (dVar 2) (dC (.int 8))) (dCons (dOp (vEqO t___eq__ eq_is) (dMod (dB fInt (dCons (dDiv (dVar 2) (dC (.int 4))) (dNil))) (dC (.int 2))) (dC (.int 1))) (dCons (dOp (vEqO t___eq__ eq_is) (dMod (dB fInt (dCons (dDiv (dVar 2) (dC (.int 2))) (dNil))) (dC (.int 2))) (dC (.int 1))) (dCons (dOp (vEqO t___eq__ eq_is) (dMod (dB fInt (dCons (dVar 2) (dNil))) (dC (.int 2))) (dC (.int 1))) (dNil)))))) (gSet 4)
def tS2 : ENV → R Fl := sAsg (dTup (dCons (dFld (fun c => c == 3) "shifts_person" (dVar 3)) (dCons (dFld (fun c => c == 3) "shifts_you" (dVar 3)) (dCons (dFld (fun c => c == 3) "shifts_today" (dVar 3)) (dCons (dFld (fun c => c == 3) "shifts_here" (dVar 3)) (dNil)))))) (gSet 5)
def tS3 : ENV → R Fl := sIf (dOr (dT (dOp (vNeO t___eq__ eq_is) (dVar 5) (dVar 4))) (dOr (dT (dOp (vNeO t___eq__ eq_is) (dFld (fun c => c == 3) "shifts" (dVar 3)) (dVar 4))) (dOr (dNot (dTru (dIs (isTy "tuple") (dFld (fun c => c == 3) "shifts" (dVar 3))))) (dNot (dTru (dB fAll (dCons ((fun ρ => frz ((fLc (dItems (dAdd (dVar 5) (dFld (fun c => c == 3) "shifts" (dVar 3)))) (gSet 9) (dYes) (dIs (isTy "bool") (dVar 9)) [9]) ρ))) (dNil)))))))) (sRet (dC (.bl false))) (sNil)
def tS4 : ENV → R Fl := sFor (dEnumT (dVar 1)) (gSeq 2 (gsCons (gSet 6) (gsCons (gSet 7) (gsNil)))) (sIf (dOr (dTru (dCall m__law_unlike (aVal (dOp (vEqO t___eq__ eq_is) (dVar 3) (dVar 7)) (aVal (dOp (vEqO t___eq__ eq_is) (dVar 6) (dVar 2)) (aNil))))) (dTru (dCall m__law_unlike (aVal (dOp (vNeO t___eq__ eq_is) (dVar 3) (dVar 7)) (aVal (dOp (vNeO t___eq__ eq_is) (dVar 6) (dVar 2)) (aNil)))))) (sRet (dC (.bl false))) (sNil))
def tS5 : ENV → R Fl := sIf (dOr (dT (dOp (vNeO t___eq__ eq_is) (dCall m__law_tongue_tried (aVal (dVar 4) (aNil))) (dVar 3))) (dT (dOp (vEqO t___eq__ eq_is) (dVar 3) (dVar 4)))) (sRet (dC (.bl false))) (sNil)
def tS6 : ENV → R Fl := sSeq (sOwn (fListF (dVar 4)) 8)
  (sSeq (sSub 8 (dIx (dLst (dCons (dC (.int 0)) (dCons (dC (.int 1)) (dCons (dC .non) (dCons (dC (.str "True")) (dCons (dTup (dCons (dC (.bl true)) (dNil))) (dCons (dNeg (dC (.int 1))) (dNil)))))))) (dCall m__law_take (aIo 0 (aVal (dC (.int 6)) (aNil))))) (dCall m__law_take (aIo 0 (aVal (dC (.int 4)) (aNil)))))
  (sIf (dT (dOp (vNeO t___eq__ eq_is) (dCall m__law_tongue_tried (aVal (dVar 8) (aNil))) (dC (.str "refused")))) (sRet (dC (.bl false))) (sNil)))
def tB : ENV → R Fl := sSeq tS1 (sSeq tS2 (sSeq tS3 (sSeq tS4 (sSeq tS5 tS6))))
theorem b_tongues : b__law_tongues_right = sSeq (sAsg (dCall m_all_tongues aNil) (gSet 1))
  (sSeq (sIf (dOr (dNot (dTru (dIs (isTy "tuple") (dVar 1)))) (dT (dOp (vNeO t___eq__ eq_is) (dB fLen (dCons (dVar 1) (dNil))) (dC (.int 16))))) (sRet (dC (.bl false))) (sNil))
  (sSeq (sFor (dEnumT (dVar 1)) (gSeq 2 (gsCons (gSet 2) (gsCons (gSet 3) (gsNil)))) tB) (sRet (dC (.bl true))))) := rfl
theorem lt16 {k : Nat} (h : k < 16) : k = 0 ∨ k = 1 ∨ k = 2 ∨ k = 3 ∨ k = 4 ∨ k = 5 ∨ k = 6 ∨ k = 7 ∨ k = 8 ∨ k = 9 ∨ k = 10 ∨ k = 11 ∨ k = 12 ∨ k = 13 ∨ k = 14 ∨ k = 15 := by omega
variable {m : M} {o4 o5 o6 o7 o8 : Option DV}
theorem tS1_ok : ∀ {k : Nat}, k < 16 → tS1 [some (.ow m), some (.sh (.tup TG)), some (.sh (.int (k : Nat))), some (.sh (tgN k)), o4, o5, o6, o7, o8, none] = .ok .nx [some (.ow m), some (.sh (.tup TG)), some (.sh (.int (k : Nat))), some (.sh (tgN k)), some (.sh (dueN k)), o5, o6, o7, o8, none]
  | 0, _ => by kernel_rfl
  | 1, _ => by kernel_rfl
  | 2, _ => by kernel_rfl
  | 3, _ => by kernel_rfl
  | 4, _ => by kernel_rfl
  | 5, _ => by kernel_rfl
  | 6, _ => by kernel_rfl
  | 7, _ => by kernel_rfl
  | 8, _ => by kernel_rfl
  | 9, _ => by kernel_rfl
  | 10, _ => by kernel_rfl
  | 11, _ => by kernel_rfl
  | 12, _ => by kernel_rfl
  | 13, _ => by kernel_rfl
  | 14, _ => by kernel_rfl
  | 15, _ => by kernel_rfl
  | k + 16, h => absurd h (by omega)
theorem tS2_ok : ∀ {k : Nat}, k < 16 → tS2 [some (.ow m), some (.sh (.tup TG)), some (.sh (.int (k : Nat))), some (.sh (tgN k)), some (.sh (dueN k)), o5, o6, o7, o8, none] = .ok .nx [some (.ow m), some (.sh (.tup TG)), some (.sh (.int (k : Nat))), some (.sh (tgN k)), some (.sh (dueN k)), some (.sh (dueN k)), o6, o7, o8, none]
  | 0, _ => by kernel_rfl
  | 1, _ => by kernel_rfl
  | 2, _ => by kernel_rfl
  | 3, _ => by kernel_rfl
  | 4, _ => by kernel_rfl
  | 5, _ => by kernel_rfl
  | 6, _ => by kernel_rfl
  | 7, _ => by kernel_rfl
  | 8, _ => by kernel_rfl
  | 9, _ => by kernel_rfl
  | 10, _ => by kernel_rfl
  | 11, _ => by kernel_rfl
  | 12, _ => by kernel_rfl
  | 13, _ => by kernel_rfl
  | 14, _ => by kernel_rfl
  | 15, _ => by kernel_rfl
  | k + 16, h => absurd h (by omega)
theorem tS3_ok : ∀ {k : Nat}, k < 16 → tS3 [some (.ow m), some (.sh (.tup TG)), some (.sh (.int (k : Nat))), some (.sh (tgN k)), some (.sh (dueN k)), some (.sh (dueN k)), o6, o7, o8, none] = .ok .nx [some (.ow m), some (.sh (.tup TG)), some (.sh (.int (k : Nat))), some (.sh (tgN k)), some (.sh (dueN k)), some (.sh (dueN k)), o6, o7, o8, none]
  | 0, _ => by kernel_rfl
  | 1, _ => by kernel_rfl
  | 2, _ => by kernel_rfl
  | 3, _ => by kernel_rfl
  | 4, _ => by kernel_rfl
  | 5, _ => by kernel_rfl
  | 6, _ => by kernel_rfl
  | 7, _ => by kernel_rfl
  | 8, _ => by kernel_rfl
  | 9, _ => by kernel_rfl
  | 10, _ => by kernel_rfl
  | 11, _ => by kernel_rfl
  | 12, _ => by kernel_rfl
  | 13, _ => by kernel_rfl
  | 14, _ => by kernel_rfl
  | 15, _ => by kernel_rfl
  | k + 16, h => absurd h (by omega)
theorem tS4_ok : ∀ {k : Nat}, k < 16 → tS4 [some (.ow m), some (.sh (.tup TG)), some (.sh (.int (k : Nat))), some (.sh (tgN k)), some (.sh (dueN k)), some (.sh (dueN k)), o6, o7, o8, none] = .ok .nx [some (.ow m), some (.sh (.tup TG)), some (.sh (.int (k : Nat))), some (.sh (tgN k)), some (.sh (dueN k)), some (.sh (dueN k)), some (.sh (.int 15)), some (.sh (tgN 15)), o8, none]
  | 0, _ => by kernel_rfl
  | 1, _ => by kernel_rfl
  | 2, _ => by kernel_rfl
  | 3, _ => by kernel_rfl
  | 4, _ => by kernel_rfl
  | 5, _ => by kernel_rfl
  | 6, _ => by kernel_rfl
  | 7, _ => by kernel_rfl
  | 8, _ => by kernel_rfl
  | 9, _ => by kernel_rfl
  | 10, _ => by kernel_rfl
  | 11, _ => by kernel_rfl
  | 12, _ => by kernel_rfl
  | 13, _ => by kernel_rfl
  | 14, _ => by kernel_rfl
  | 15, _ => by kernel_rfl
  | k + 16, h => absurd h (by omega)
theorem tS5_ok : ∀ {k : Nat}, k < 16 → tS5 [some (.ow m), some (.sh (.tup TG)), some (.sh (.int (k : Nat))), some (.sh (tgN k)), some (.sh (dueN k)), some (.sh (dueN k)), o6, o7, o8, none] = .ok .nx [some (.ow m), some (.sh (.tup TG)), some (.sh (.int (k : Nat))), some (.sh (tgN k)), some (.sh (dueN k)), some (.sh (dueN k)), o6, o7, o8, none]
  | 0, _ => by kernel_rfl
  | 1, _ => by kernel_rfl
  | 2, _ => by kernel_rfl
  | 3, _ => by kernel_rfl
  | 4, _ => by kernel_rfl
  | 5, _ => by kernel_rfl
  | 6, _ => by kernel_rfl
  | 7, _ => by kernel_rfl
  | 8, _ => by kernel_rfl
  | 9, _ => by kernel_rfl
  | 10, _ => by kernel_rfl
  | 11, _ => by kernel_rfl
  | 12, _ => by kernel_rfl
  | 13, _ => by kernel_rfl
  | 14, _ => by kernel_rfl
  | 15, _ => by kernel_rfl
  | k + 16, h => absurd h (by omega)
end L05
set_option Elab.async false
set_option linter.all false
set_option maxRecDepth 100000
set_option maxHeartbeats 4000000
namespace L05
open PySem L2 Rf
def spX : List D := [.int 0, .int 1, .non, .str "True", .tup [.bl true], .int (-1)]
theorem tt0 (x : D) (b c d : Bool) : x ∈ spX → m__law_tongue_tried [.sh (.lst [x, .bl b, .bl c, .bl d])] = .ok (.sh (.str "refused")) [] := by
  intro h
  simp only [spX, List.mem_cons, List.not_mem_nil, or_false] at h
  rcases h with h | h | h | h | h | h <;> rw [h] <;> kernel_rfl
theorem tt1 (x : D) (b c d : Bool) : x ∈ spX → m__law_tongue_tried [.sh (.lst [.bl b, x, .bl c, .bl d])] = .ok (.sh (.str "refused")) [] := by
  intro h
  simp only [spX, List.mem_cons, List.not_mem_nil, or_false] at h
  rcases h with h | h | h | h | h | h <;> rw [h] <;> kernel_rfl
theorem tt2 (x : D) (b c d : Bool) : x ∈ spX → m__law_tongue_tried [.sh (.lst [.bl b, .bl c, x, .bl d])] = .ok (.sh (.str "refused")) [] := by
  intro h
  simp only [spX, List.mem_cons, List.not_mem_nil, or_false] at h
  rcases h with h | h | h | h | h | h <;> rw [h] <;> kernel_rfl
theorem tt3 (x : D) (b c d : Bool) : x ∈ spX → m__law_tongue_tried [.sh (.lst [.bl b, .bl c, .bl d, x])] = .ok (.sh (.str "refused")) [] := by
  intro h
  simp only [spX, List.mem_cons, List.not_mem_nil, or_false] at h
  rcases h with h | h | h | h | h | h <;> rw [h] <;> kernel_rfl
theorem atL {xs : List D} {r : Int} {n : Nat} (hl : xs.length = n) (h0 : 0 ≤ r) (h1 : r < n) : ∃ x, vIxI (.lst xs) (.int r) = some x ∧ x ∈ xs ∧ xs[r.toNat]? = some x := by
  have hr : r.toNat < xs.length := by omega
  exact ⟨xs[r.toNat], atN h0 (List.getElem?_eq_getElem hr), List.getElem_mem hr, List.getElem?_eq_getElem hr⟩
theorem ref_ne : vEq true (.str "refused") (.str "refused") = some (.bl false) := by kernel_rfl
theorem tS6_ok {m : M} (hm : Good m) (X o2 o3 o5 o6 o7 o8 : Option DV) (a b c d : Bool) : ∃ (m' : M) (o : Option DV), tS6 [some (.ow m), X, o2, o3, some (.sh (.tup [.bl a, .bl b, .bl c, .bl d])), o5, o6, o7, o8, none]
    = .ok .nx [some (.ow m'), X, o2, o3, some (.sh (.tup [.bl a, .bl b, .bl c, .bl d])), o5, o6, o7, o, none] ∧ Good m' := by
  obtain ⟨r, m1, e1, g1, r0, r1⟩ := tk (n := 6) hm (by decide)
  obtain ⟨s, m2, e2, g2, s0, s1⟩ := tk (n := 4) g1 (by decide)
  obtain ⟨x, hx, hmem, _⟩ := atL (xs := spX) (n := 6) rfl r0 r1
  have hs : s = 0 ∨ s = 1 ∨ s = 2 ∨ s = 3 := by omega
  have t0 := tt0 x b c d hmem
  have t1 := tt1 x a c d hmem
  have t2 := tt2 x a b d hmem
  have t3 := tt3 x a b c hmem
  unfold spX at hx
  rcases hs with rfl | rfl | rfl | rfl
  · refine ⟨m2, some (.sh (.lst [x, .bl b, .bl c, .bl d])), ?_, g2⟩
    unfold tS6
    simp only [startE, List.map, List.length, List.replicate, e_Seq, e_Asg, e_Ret, e_RetF, e_Expr, e_exprK, e_op, e_op2, e_op1, e_un, e_is, e_B, e_bK, e_Cons, e_consK, e_consK2, e_Nil, e_var, e_C, e_bind, e_bindX, e_bindB, e_lookS, e_lookO, M.toD, e_of, e_asgK, e_gSet, e_stK, e_sqN, e_sqR, e_sqB, e_sqC, e_sNil, e_retK, e_retFK, e_add, e_vI, e_neg, e_fInt, e_fIntB, e_sIf, e_sifT, e_sifF, e_T, e_toB, e_Tru, e_truB, e_And, e_Or, e_andT, e_andF, e_orT, e_orF, e_Not, e_notK, e_AndV, e_OrV, e_andVT, e_andVF, e_orVT, e_orVF, e_NotV, e_notVK, e_If, e_ifT, e_ifF, e_Tup, e_Lst, e_LstF, e_tup0, e_lst0, e_lstF0, e_eqI, e_neI, e_ltI, e_leI, e_gtI, e_geI, e_lenL, e_lenT, e_lenR, e_lenS, e_ixL, e_ixT, at0, at1, at2, at3, e_tupL, e_tupT, e_lstT, e_Own, e_ownK, e_Sub, e_For, e_Items, e_itL, e_itT, e_itR, e_Call, e_CallF, e_aNil, e_aVal, e_aVK, e_aVK2, step0, step1, step2, step3, out0, out1, out2, out3, outX1, outX2, outO1, outO2, outO3, e_onSh, e_onOw, decide_true, decide_false, Bool.not_true, Bool.not_false, List.cons_append, List.nil_append, List.getElem?_cons_zero, List.getElem?_cons_succ, List.set_cons_zero, List.set_cons_succ, Nat.reduceLT, Nat.reduceAdd, Nat.reduceSub, Option.map_some, finF, outsE, e_frz, d_rng7, e_forK, e_tnN, e_tnC, e_tnB, e_tnR, e_whT, e_whF, e_Raise, e_Par, e_parK, e_parK2, e_augK, e_Ch, e_chK1, e_chK2, e_chT, e_chF, e_Try, e_tryO, e_tru, e_While, e_abs, e_max2, e_min2, e_gSq2, e_tup1, e_lst1, e_tup2, e_lst2, e_tup3, e_lst3, e_tup4, e_lst4, e_tup5, e_lst5, e_tup6, e_lst6, e_tup7, e_lst7, e_tup8, e_lst8, e_RaF, e_raF1, e_raF2, e_TryA, e_tryAO, e_asgnK, e_frzX, e_bindX, e_Fld, e_SFld, e_Mk, e_mkK1, e_mkK2, e_mkK3, e_mkK4, e_mkO, e_mkX, e_Met, e_metK2, e_Enum, e_enumL, e_enumT, pairs2, pairs3, pairs4, e_lst9, e_lst10, e_lst11, e_lst12, e_tup9, e_tup10, e_tup11, e_tup12, e_ListF, e_listFT, e_listFL, e_IfB, e_ifBT, e_ifBF, e_notB, e_isB, o_int, o_str, o_tup, o_lst, o_non, o_bl, n_int, n_str, n_tup, n_lst, n_non, n_bl, Int.reduceNeg, e_aIo (m := m), stepO2 (m := m), e1, hx, e_aIo (m := m1), stepO2 (m := m1), e2, e_subK0 (ds := [.bl a, .bl b, .bl c, .bl d]), e_subK3 (ds := [.bl a, .bl b, .bl c, .bl d]), Int.reduceLE, Int.reduceLT, Int.cast_ofNat_Int, Int.reduceToNat, t0, ref_ne]
  · refine ⟨m2, some (.sh (.lst [.bl a, x, .bl c, .bl d])), ?_, g2⟩
    unfold tS6
    simp only [startE, List.map, List.length, List.replicate, e_Seq, e_Asg, e_Ret, e_RetF, e_Expr, e_exprK, e_op, e_op2, e_op1, e_un, e_is, e_B, e_bK, e_Cons, e_consK, e_consK2, e_Nil, e_var, e_C, e_bind, e_bindX, e_bindB, e_lookS, e_lookO, M.toD, e_of, e_asgK, e_gSet, e_stK, e_sqN, e_sqR, e_sqB, e_sqC, e_sNil, e_retK, e_retFK, e_add, e_vI, e_neg, e_fInt, e_fIntB, e_sIf, e_sifT, e_sifF, e_T, e_toB, e_Tru, e_truB, e_And, e_Or, e_andT, e_andF, e_orT, e_orF, e_Not, e_notK, e_AndV, e_OrV, e_andVT, e_andVF, e_orVT, e_orVF, e_NotV, e_notVK, e_If, e_ifT, e_ifF, e_Tup, e_Lst, e_LstF, e_tup0, e_lst0, e_lstF0, e_eqI, e_neI, e_ltI, e_leI, e_gtI, e_geI, e_lenL, e_lenT, e_lenR, e_lenS, e_ixL, e_ixT, at0, at1, at2, at3, e_tupL, e_tupT, e_lstT, e_Own, e_ownK, e_Sub, e_For, e_Items, e_itL, e_itT, e_itR, e_Call, e_CallF, e_aNil, e_aVal, e_aVK, e_aVK2, step0, step1, step2, step3, out0, out1, out2, out3, outX1, outX2, outO1, outO2, outO3, e_onSh, e_onOw, decide_true, decide_false, Bool.not_true, Bool.not_false, List.cons_append, List.nil_append, List.getElem?_cons_zero, List.getElem?_cons_succ, List.set_cons_zero, List.set_cons_succ, Nat.reduceLT, Nat.reduceAdd, Nat.reduceSub, Option.map_some, finF, outsE, e_frz, d_rng7, e_forK, e_tnN, e_tnC, e_tnB, e_tnR, e_whT, e_whF, e_Raise, e_Par, e_parK, e_parK2, e_augK, e_Ch, e_chK1, e_chK2, e_chT, e_chF, e_Try, e_tryO, e_tru, e_While, e_abs, e_max2, e_min2, e_gSq2, e_tup1, e_lst1, e_tup2, e_lst2, e_tup3, e_lst3, e_tup4, e_lst4, e_tup5, e_lst5, e_tup6, e_lst6, e_tup7, e_lst7, e_tup8, e_lst8, e_RaF, e_raF1, e_raF2, e_TryA, e_tryAO, e_asgnK, e_frzX, e_bindX, e_Fld, e_SFld, e_Mk, e_mkK1, e_mkK2, e_mkK3, e_mkK4, e_mkO, e_mkX, e_Met, e_metK2, e_Enum, e_enumL, e_enumT, pairs2, pairs3, pairs4, e_lst9, e_lst10, e_lst11, e_lst12, e_tup9, e_tup10, e_tup11, e_tup12, e_ListF, e_listFT, e_listFL, e_IfB, e_ifBT, e_ifBF, e_notB, e_isB, o_int, o_str, o_tup, o_lst, o_non, o_bl, n_int, n_str, n_tup, n_lst, n_non, n_bl, Int.reduceNeg, e_aIo (m := m), stepO2 (m := m), e1, hx, e_aIo (m := m1), stepO2 (m := m1), e2, e_subK0 (ds := [.bl a, .bl b, .bl c, .bl d]), e_subK3 (ds := [.bl a, .bl b, .bl c, .bl d]), Int.reduceLE, Int.reduceLT, Int.cast_ofNat_Int, Int.reduceToNat, Int.toNat_one, t1, ref_ne]
  · refine ⟨m2, some (.sh (.lst [.bl a, .bl b, x, .bl d])), ?_, g2⟩
    unfold tS6
    simp only [startE, List.map, List.length, List.replicate, e_Seq, e_Asg, e_Ret, e_RetF, e_Expr, e_exprK, e_op, e_op2, e_op1, e_un, e_is, e_B, e_bK, e_Cons, e_consK, e_consK2, e_Nil, e_var, e_C, e_bind, e_bindX, e_bindB, e_lookS, e_lookO, M.toD, e_of, e_asgK, e_gSet, e_stK, e_sqN, e_sqR, e_sqB, e_sqC, e_sNil, e_retK, e_retFK, e_add, e_vI, e_neg, e_fInt, e_fIntB, e_sIf, e_sifT, e_sifF, e_T, e_toB, e_Tru, e_truB, e_And, e_Or, e_andT, e_andF, e_orT, e_orF, e_Not, e_notK, e_AndV, e_OrV, e_andVT, e_andVF, e_orVT, e_orVF, e_NotV, e_notVK, e_If, e_ifT, e_ifF, e_Tup, e_Lst, e_LstF, e_tup0, e_lst0, e_lstF0, e_eqI, e_neI, e_ltI, e_leI, e_gtI, e_geI, e_lenL, e_lenT, e_lenR, e_lenS, e_ixL, e_ixT, at0, at1, at2, at3, e_tupL, e_tupT, e_lstT, e_Own, e_ownK, e_Sub, e_For, e_Items, e_itL, e_itT, e_itR, e_Call, e_CallF, e_aNil, e_aVal, e_aVK, e_aVK2, step0, step1, step2, step3, out0, out1, out2, out3, outX1, outX2, outO1, outO2, outO3, e_onSh, e_onOw, decide_true, decide_false, Bool.not_true, Bool.not_false, List.cons_append, List.nil_append, List.getElem?_cons_zero, List.getElem?_cons_succ, List.set_cons_zero, List.set_cons_succ, Nat.reduceLT, Nat.reduceAdd, Nat.reduceSub, Option.map_some, finF, outsE, e_frz, d_rng7, e_forK, e_tnN, e_tnC, e_tnB, e_tnR, e_whT, e_whF, e_Raise, e_Par, e_parK, e_parK2, e_augK, e_Ch, e_chK1, e_chK2, e_chT, e_chF, e_Try, e_tryO, e_tru, e_While, e_abs, e_max2, e_min2, e_gSq2, e_tup1, e_lst1, e_tup2, e_lst2, e_tup3, e_lst3, e_tup4, e_lst4, e_tup5, e_lst5, e_tup6, e_lst6, e_tup7, e_lst7, e_tup8, e_lst8, e_RaF, e_raF1, e_raF2, e_TryA, e_tryAO, e_asgnK, e_frzX, e_bindX, e_Fld, e_SFld, e_Mk, e_mkK1, e_mkK2, e_mkK3, e_mkK4, e_mkO, e_mkX, e_Met, e_metK2, e_Enum, e_enumL, e_enumT, pairs2, pairs3, pairs4, e_lst9, e_lst10, e_lst11, e_lst12, e_tup9, e_tup10, e_tup11, e_tup12, e_ListF, e_listFT, e_listFL, e_IfB, e_ifBT, e_ifBF, e_notB, e_isB, o_int, o_str, o_tup, o_lst, o_non, o_bl, n_int, n_str, n_tup, n_lst, n_non, n_bl, Int.reduceNeg, e_aIo (m := m), stepO2 (m := m), e1, hx, e_aIo (m := m1), stepO2 (m := m1), e2, e_subK0 (ds := [.bl a, .bl b, .bl c, .bl d]), e_subK3 (ds := [.bl a, .bl b, .bl c, .bl d]), Int.reduceLE, Int.reduceLT, Int.cast_ofNat_Int, Int.reduceToNat, t2, ref_ne]
  · refine ⟨m2, some (.sh (.lst [.bl a, .bl b, .bl c, x])), ?_, g2⟩
    unfold tS6
    simp only [startE, List.map, List.length, List.replicate, e_Seq, e_Asg, e_Ret, e_RetF, e_Expr, e_exprK, e_op, e_op2, e_op1, e_un, e_is, e_B, e_bK, e_Cons, e_consK, e_consK2, e_Nil, e_var, e_C, e_bind, e_bindX, e_bindB, e_lookS, e_lookO, M.toD, e_of, e_asgK, e_gSet, e_stK, e_sqN, e_sqR, e_sqB, e_sqC, e_sNil, e_retK, e_retFK, e_add, e_vI, e_neg, e_fInt, e_fIntB, e_sIf, e_sifT, e_sifF, e_T, e_toB, e_Tru, e_truB, e_And, e_Or, e_andT, e_andF, e_orT, e_orF, e_Not, e_notK, e_AndV, e_OrV, e_andVT, e_andVF, e_orVT, e_orVF, e_NotV, e_notVK, e_If, e_ifT, e_ifF, e_Tup, e_Lst, e_LstF, e_tup0, e_lst0, e_lstF0, e_eqI, e_neI, e_ltI, e_leI, e_gtI, e_geI, e_lenL, e_lenT, e_lenR, e_lenS, e_ixL, e_ixT, at0, at1, at2, at3, e_tupL, e_tupT, e_lstT, e_Own, e_ownK, e_Sub, e_For, e_Items, e_itL, e_itT, e_itR, e_Call, e_CallF, e_aNil, e_aVal, e_aVK, e_aVK2, step0, step1, step2, step3, out0, out1, out2, out3, outX1, outX2, outO1, outO2, outO3, e_onSh, e_onOw, decide_true, decide_false, Bool.not_true, Bool.not_false, List.cons_append, List.nil_append, List.getElem?_cons_zero, List.getElem?_cons_succ, List.set_cons_zero, List.set_cons_succ, Nat.reduceLT, Nat.reduceAdd, Nat.reduceSub, Option.map_some, finF, outsE, e_frz, d_rng7, e_forK, e_tnN, e_tnC, e_tnB, e_tnR, e_whT, e_whF, e_Raise, e_Par, e_parK, e_parK2, e_augK, e_Ch, e_chK1, e_chK2, e_chT, e_chF, e_Try, e_tryO, e_tru, e_While, e_abs, e_max2, e_min2, e_gSq2, e_tup1, e_lst1, e_tup2, e_lst2, e_tup3, e_lst3, e_tup4, e_lst4, e_tup5, e_lst5, e_tup6, e_lst6, e_tup7, e_lst7, e_tup8, e_lst8, e_RaF, e_raF1, e_raF2, e_TryA, e_tryAO, e_asgnK, e_frzX, e_bindX, e_Fld, e_SFld, e_Mk, e_mkK1, e_mkK2, e_mkK3, e_mkK4, e_mkO, e_mkX, e_Met, e_metK2, e_Enum, e_enumL, e_enumT, pairs2, pairs3, pairs4, e_lst9, e_lst10, e_lst11, e_lst12, e_tup9, e_tup10, e_tup11, e_tup12, e_ListF, e_listFT, e_listFL, e_IfB, e_ifBT, e_ifBF, e_notB, e_isB, o_int, o_str, o_tup, o_lst, o_non, o_bl, n_int, n_str, n_tup, n_lst, n_non, n_bl, Int.reduceNeg, e_aIo (m := m), stepO2 (m := m), e1, hx, e_aIo (m := m1), stepO2 (m := m1), e2, e_subK0 (ds := [.bl a, .bl b, .bl c, .bl d]), e_subK3 (ds := [.bl a, .bl b, .bl c, .bl d]), Int.reduceLE, Int.reduceLT, Int.cast_ofNat_Int, Int.reduceToNat, t3, ref_ne]
def PT (ρ : ENV) : Prop := ∃ (m : M) (o2 o3 o4 o5 o6 o7 o8 : Option DV), Good m ∧ ρ = [some (.ow m), some (.sh (.tup TG)), o2, o3, o4, o5, o6, o7, o8, none]
theorem tB_ok {k : Nat} (h : k < 16) {m : M} (hm : Good m) (o4 o5 o6 o7 o8 : Option DV) : ∃ ρ2, tB [some (.ow m), some (.sh (.tup TG)), some (.sh (.int (k : Nat))), some (.sh (tgN k)), o4, o5, o6, o7, o8, none] = .ok .nx ρ2 ∧ PT ρ2 := by
  obtain ⟨m', o, e, g⟩ := tS6_ok hm (some (.sh (.tup TG))) (some (.sh (.int (k : Nat)))) (some (.sh (tgN k))) (some (.sh (dueN k))) (some (.sh (.int 15))) (some (.sh (tgN 15))) o8 (decide (8 ≤ k)) (k / 4 % 2 == 1) (k / 2 % 2 == 1) (k % 2 == 1)
  have hb : tB [some (.ow m), some (.sh (.tup TG)), some (.sh (.int (k : Nat))), some (.sh (tgN k)), o4, o5, o6, o7, o8, none] = tS6 [some (.ow m), some (.sh (.tup TG)), some (.sh (.int (k : Nat))), some (.sh (tgN k)), some (.sh (dueN k)), some (.sh (dueN k)), some (.sh (.int 15)), some (.sh (tgN 15)), o8, none] := by
    unfold tB
    rw [seq_ok (tS1_ok h), seq_ok (tS2_ok h), seq_ok (tS3_ok h), seq_ok (tS4_ok h), seq_ok (tS5_ok h)]
  exact ⟨_, hb.trans e, m', _, _, _, _, _, _, _, g, rfl⟩
theorem tongues_ok {m : M} (hm : Good m) : ∃ m', m__law_tongues_right [.ow m] = .ok (.sh (.bl true)) [m'] ∧ Good m' := by
  obtain ⟨ρ', e, m', o2, o3, o4, o5, o6, o7, o8, g, hρ⟩ := for_inv (g := gSeq 2 (gsCons (gSet 2) (gsCons (gSet 3) (gsNil)))) (body := tB) PT (pairs TG) [some (.ow m), some (.sh (.tup TG)), none, none, none, none, none, none, none, none] (fun d hd ρ hp => by
    obtain ⟨m, o2, o3, o4, o5, o6, o7, o8, g, rfl⟩ := hp
    rw [pairs_TG] at hd
    obtain ⟨k, hk, rfl⟩ := List.mem_map.mp hd
    obtain ⟨ρ2, e, h⟩ := tB_ok (List.mem_range.mp hk) g o4 o5 o6 o7 o8
    exact ⟨_, ρ2, rfl, .inl e, h⟩) ⟨m, _, _, _, _, _, _, _, hm, rfl⟩
  subst hρ
  have n16 : vEq true (.int ((16 : Nat) : Int)) (.int 16) = some (.bl false) := by kernel_rfl
  have hl : TG.length = 16 := by kernel_rfl
  have isT : isTy "tuple" (.tup TG) = some true := rfl
  refine ⟨m', ?_, g⟩
  refine (e_run [0] 10 _ _ rfl).trans ?_
  rw [b_tongues]
  generalize hTG : TG = T at *
  generalize tB = B at *
  simp only [startE, List.map, List.length, List.replicate, e_Seq, e_Asg, e_Ret, e_RetF, e_Expr, e_exprK, e_op, e_op2, e_op1, e_un, e_is, e_B, e_bK, e_Cons, e_consK, e_consK2, e_Nil, e_var, e_C, e_bind, e_bindX, e_bindB, e_lookS, e_lookO, M.toD, e_of, e_asgK, e_gSet, e_stK, e_sqN, e_sqR, e_sqB, e_sqC, e_sNil, e_retK, e_retFK, e_add, e_vI, e_neg, e_fInt, e_fIntB, e_sIf, e_sifT, e_sifF, e_T, e_toB, e_Tru, e_truB, e_And, e_Or, e_andT, e_andF, e_orT, e_orF, e_Not, e_notK, e_AndV, e_OrV, e_andVT, e_andVF, e_orVT, e_orVF, e_NotV, e_notVK, e_If, e_ifT, e_ifF, e_Tup, e_Lst, e_LstF, e_tup0, e_lst0, e_lstF0, e_eqI, e_neI, e_ltI, e_leI, e_gtI, e_geI, e_lenL, e_lenT, e_lenR, e_lenS, e_ixL, e_ixT, at0, at1, at2, at3, e_tupL, e_tupT, e_lstT, e_Own, e_ownK, e_Sub, e_For, e_Items, e_itL, e_itT, e_itR, e_Call, e_CallF, e_aNil, e_aVal, e_aVK, e_aVK2, step0, step1, step2, step3, out0, out1, out2, out3, outX1, outX2, outO1, outO2, outO3, e_onSh, e_onOw, decide_true, decide_false, Bool.not_true, Bool.not_false, List.cons_append, List.nil_append, List.getElem?_cons_zero, List.getElem?_cons_succ, List.set_cons_zero, List.set_cons_succ, Nat.reduceLT, Nat.reduceAdd, Nat.reduceSub, Option.map_some, finF, outsE, e_frz, d_rng7, e_forK, e_tnN, e_tnC, e_tnB, e_tnR, e_whT, e_whF, e_Raise, e_Par, e_parK, e_parK2, e_augK, e_Ch, e_chK1, e_chK2, e_chT, e_chF, e_Try, e_tryO, e_tru, e_While, e_abs, e_max2, e_min2, e_gSq2, e_tup1, e_lst1, e_tup2, e_lst2, e_tup3, e_lst3, e_tup4, e_lst4, e_tup5, e_lst5, e_tup6, e_lst6, e_tup7, e_lst7, e_tup8, e_lst8, e_RaF, e_raF1, e_raF2, e_TryA, e_tryAO, e_asgnK, e_frzX, e_bindX, e_Fld, e_SFld, e_Mk, e_mkK1, e_mkK2, e_mkK3, e_mkK4, e_mkO, e_mkX, e_Met, e_metK2, e_Enum, e_enumL, e_enumT, pairs2, pairs3, pairs4, e_lst9, e_lst10, e_lst11, e_lst12, e_tup9, e_tup10, e_tup11, e_tup12, e_ListF, e_listFT, e_listFL, e_IfB, e_ifBT, e_ifBF, e_notB, e_isB, o_int, o_str, o_tup, o_lst, o_non, o_bl, n_int, n_str, n_tup, n_lst, n_non, n_bl, all_ok, hTG, hl, isT, n16, e]
end L05
set_option Elab.async false
set_option linter.all false
set_option maxRecDepth 100000
set_option maxHeartbeats 4000000
namespace L05
open PySem L2 Rf
def aSp : ENV → R Fl := (sSub 7 (dIx (dLst (dCons (dC .non) (dCons (dC (.bl true)) (dCons (dC (.str "")) (dCons (dAdd (dIx (dVar 4) (dC (.int 0))) (dC (.str "abcdefgh"))) (dCons (dCall m__law_name (aIo 1 (aNil))) (dCons (dC (.int 7)) (dCons (dAdd (dIx (dVar 4) (dC (.int 1))) (dC (.str "A"))) (dCons (dLst (dCons (dIx (dVar 4) (dC (.int 0))) (dNil))) (dCons (dSub (dC (.int 1)) (dIx (dVar 4) (dC (.int 2)))) (dNil))))))))))) (dCall m__law_take (aIo 1 (aVal (dC (.int 9)) (aNil))))) (dVar 8))
def aS0 : ENV → R Fl := (sOwn (fListF (dVar 4)) 7)
def aS1 : ENV → R Fl := (sFor (dItems (dLst (dCons (dCall m__law_take (aIo 1 (aVal (dC (.int 4)) (aNil)))) (dCons (dCall m__law_take (aIo 1 (aVal (dC (.int 4)) (aNil)))) (dNil))))) (gSet 8) aSp)
def aS2 : ENV → R Fl := (sAsg (dCall m__law_due (aVal (dVar 7) (aNil))) (gSet 9))
def aS3 : ENV → R Fl := (sAsg (dCall m__law_tried (aVal (dVar 7) (aNil))) (gSet 10))
def aS4 : ENV → R Fl := (sIf (dT (dCmp .notN (dVar 9) (dC .non))) (sIf (dT (dOp (vNeO t___eq__ eq_is) (dVar 10) (dVar 9))) (sRet (dC (.bl false))) (sNil)) (sIf (dOr (dNot (dTru (dIs (isOwn io_Situation) (dVar 10)))) (dOr (dT (dOp (vNeO t___eq__ eq_is) (dCall m__law_parts (aVal (dVar 10) (aNil))) (dB fTuple (dCons (dVar 7) (dNil))))) (dTru (dCall m__law_unlike (aVal (dOp (vEqO t___eq__ eq_is) (dVar 10) (dVar 5)) (aVal (dOp (vEqO t___eq__ eq_is) (dB fTuple (dCons (dVar 7) (dNil))) (dB fTuple (dCons (dVar 4) (dNil)))) (aNil))))))) (sRet (dC (.bl false))) (sNil)))
def aB : ENV → R Fl := sSeq aS0 (sSeq aS1 (sSeq aS2 (sSeq aS3 aS4)))
def lS0 : ENV → R Fl := (sAsg (dCall m__law_situation (aIo 1 (aVal (dVar 2) (aNil)))) (gSet 4))
def lS1 : ENV → R Fl := (sIf (dT (dOp (vEqO t___eq__ eq_is) (dVar 3) (dC (.int 1)))) (sAsg (dTup (dCons (dCall m__law_name (aIo 1 (aNil))) (dCons (dCall m__law_name (aIo 1 (aNil))) (dCons (dSub (dCall m__law_take (aIo 1 (aVal (dMul (dC (.int 2)) (dPow (dC (.int 10)) (dC (.int 40)))) (aNil)))) (dPow (dC (.int 10)) (dC (.int 40)))) (dCons (dCall m__law_name (aIo 1 (aNil))) (dNil)))))) (gSet 4)) (sNil))
def lS2 : ENV → R Fl := (sAsg (dCall m__law_tried (aVal (dVar 4) (aNil))) (gSet 5))
def lS3 : ENV → R Fl := (sIf (dOr (dNot (dTru (dIs (isOwn io_Situation) (dVar 5)))) (dOr (dT (dOp (vNeO t___eq__ eq_is) (dCall m__law_parts (aVal (dVar 5) (aNil))) (dB fTuple (dCons (dVar 4) (dNil))))) (dNot (dTru (dCall m__law_whole (aVal (dFld (fun c => c == 4) "day" (dVar 5)) (aNil))))))) (sRet (dC (.bl false))) (sNil))
def lS4 : ENV → R Fl := sFor (dRng1 (dC (.int 3))) (gSet 6) aB
def lS5 : ENV → R Fl := (sAsg (dIx (dLst (dCons (dSub (dCall m__law_take (aIo 1 (aVal (dC (.int 41)) (aNil)))) (dC (.int 20))) (dCons (dSub (dCall m__law_take (aIo 1 (aVal (dMul (dC (.int 2)) (dPow (dC (.int 10)) (dC (.int 40)))) (aNil)))) (dPow (dC (.int 10)) (dC (.int 40)))) (dCons (dC (.int 0)) (dNil))))) (dCall m__law_take (aIo 1 (aVal (dC (.int 3)) (aNil))))) (gSet 11))
def lS6 : ENV → R Fl := (sAsg (dCall m__law_moved (aVal (dVar 5) (aVal (dVar 11) (aNil)))) (gSet 12))
def lS7 : ENV → R Fl := (sIf (dOr (dT (dOp (vNeO t___eq__ eq_is) (dCall m__law_parts (aVal (dVar 12) (aNil))) (dTup (dCons (dIx (dVar 4) (dC (.int 0))) (dCons (dIx (dVar 4) (dC (.int 1))) (dCons (dAdd (dIx (dVar 4) (dC (.int 2))) (dVar 11)) (dCons (dIx (dVar 4) (dC (.int 3))) (dNil)))))))) (dT (dOp (vNeO t___eq__ eq_is) (dCall m__law_moved (aVal (dVar 12) (aVal (dNeg (dVar 11)) (aNil)))) (dVar 5)))) (sRet (dC (.bl false))) (sNil))
def lS8 : ENV → R Fl := (sIf (dT (dOp (vNeO t___eq__ eq_is) (dCall m__law_moved (aVal (dVar 5) (aVal (dIx (dLst (dCons (dC .non) (dCons (dC (.bl true)) (dCons (dC (.str "1")) (dCons (dTup (dCons (dC (.int 1)) (dNil))) (dNil)))))) (dCall m__law_take (aIo 1 (aVal (dC (.int 4)) (aNil))))) (aNil)))) (dC (.str "day")))) (sRet (dC (.bl false))) (sNil))
def lS9 : ENV → R Fl := (sAsg (dIx (dAdd (dB fList (dCons (dSl (dVar 4) (dNoPart) (dPart (dC (.int 2)))) (dNil))) (dB fList (dCons (dIx (dVar 2) (dC (.int 0))) (dNil)))) (dCall m__law_take (aIo 1 (aVal (dC (.int 5)) (aNil))))) (gSet 13))
def lS10 : ENV → R Fl := (sAsg (dIx (dAdd (dB fList (dCons (dSl (dVar 4) (dNoPart) (dPart (dC (.int 2)))) (dNil))) (dLst (dCons (dCall m__law_name (aIo 1 (aNil))) (dNil)))) (dCall m__law_take (aIo 1 (aVal (dC (.int 3)) (aNil))))) (gSet 14))
def lS11 : ENV → R Fl := (sAsg (dCall m__law_exchanged (aVal (dVar 5) (aVal (dVar 13) (aVal (dVar 14) (aNil))))) (gSet 10))
def lS12 : ENV → R Fl := (sIf (dT (dOp (vNeO t___eq__ eq_is) (dCall m__law_parts (aVal (dVar 10) (aNil))) (dTup (dCons (dCall m__law_other (aVal (dIx (dVar 4) (dC (.int 0))) (aVal (dVar 13) (aVal (dVar 14) (aNil))))) (dCons (dCall m__law_other (aVal (dIx (dVar 4) (dC (.int 1))) (aVal (dVar 13) (aVal (dVar 14) (aNil))))) (dCons (dIx (dVar 4) (dC (.int 2))) (dCons (dIx (dVar 4) (dC (.int 3))) (dNil)))))))) (sRet (dC (.bl false))) (sNil))
def lS13 : ENV → R Fl := (sIf (dOr (dT (dOp (vNeO t___eq__ eq_is) (dCall m__law_exchanged (aVal (dVar 10) (aVal (dVar 13) (aVal (dVar 14) (aNil))))) (dVar 5))) (dOr (dT (dOp (vNeO t___eq__ eq_is) (dCall m__law_exchanged (aVal (dVar 5) (aVal (dVar 14) (aVal (dVar 13) (aNil))))) (dVar 10))) (dT (dOp (vNeO t___eq__ eq_is) (dCall m__law_parts (aVal (dVar 5) (aNil))) (dB fTuple (dCons (dVar 4) (dNil))))))) (sRet (dC (.bl false))) (sNil))
def lB14 : ENV → R Fl := (sIf (dT (dOp (vNeO t___eq__ eq_is) (dCall m__law_name_exchanged (aVal (dVar 15) (aVal (dVar 13) (aVal (dVar 14) (aNil))))) (dCall m__law_other (aVal (dVar 15) (aVal (dVar 13) (aVal (dVar 14) (aNil))))))) (sRet (dC (.bl false))) (sNil))
def lS14 : ENV → R Fl := sFor (dItems (dLst (dCons (dVar 13) (dCons (dVar 14) (dCons (dCall m__law_name (aIo 1 (aNil))) (dCons (dIx (dVar 4) (dC (.int 0))) (dNil))))))) (gSet 15) lB14
def lS15 : ENV → R Fl := (sAsg (dIx (dLst (dCons (dC .non) (dCons (dC (.str "")) (dCons (dAdd (dVar 13) (dC (.str "abcdefgh"))) (dCons (dC (.int 3)) (dCons (dC (.str "Ann")) (dCons (dC (.bl true)) (dNil)))))))) (dCall m__law_take (aIo 1 (aVal (dC (.int 6)) (aNil))))) (gSet 16))
def lB16 : ENV → R Fl := (sIf (dOr (dT (dOp (vNeO t___eq__ eq_is) (dCall m__law_exchanged (aVal (dVar 5) (aVal (dIx (dVar 17) (dC (.int 0))) (aVal (dIx (dVar 17) (dC (.int 1))) (aNil))))) (dC (.str "name")))) (dT (dOp (vNeO t___eq__ eq_is) (dCall m__law_name_exchanged (aVal (dVar 13) (aVal (dIx (dVar 17) (dC (.int 0))) (aVal (dIx (dVar 17) (dC (.int 1))) (aNil))))) (dLst (dCons (dC (.str "no")) (dCons (dC (.str "name")) (dNil))))))) (sRet (dC (.bl false))) (sNil))
def lS16 : ENV → R Fl := sFor (dItems (dLst (dCons (dTup (dCons (dVar 16) (dCons (dVar 14) (dNil)))) (dCons (dTup (dCons (dVar 13) (dCons (dVar 16) (dNil)))) (dCons (dTup (dCons (dVar 16) (dCons (dVar 16) (dNil)))) (dNil)))))) (gSet 17) lB16
def lB : ENV → R Fl := sSeq lS0 (sSeq lS1 (sSeq lS2 (sSeq lS3 (sSeq lS4 (sSeq lS5 (sSeq lS6 (sSeq lS7 (sSeq lS8 (sSeq lS9 (sSeq lS10 (sSeq lS11 (sSeq lS12 (sSeq lS13 (sSeq lS14 (sSeq lS15 lS16)))))))))))))))
theorem law_cut : b_law = sSeq (sOwn (fCall m__law_hand (aVal (dVar 0) (aNil))) 1) (sSeq (sIf (dNot (dTru (dCall m__law_tongues_right (aIo 1 (aNil))))) (sRet (dC (.bl false))) (sNil)) (sSeq (sAsg (dCall m__law_world (aIo 1 (aNil))) (gSet 2)) (sSeq (sFor (dRng1 (dC (.int 5))) (gSet 3) lB) (sRet (dC (.bl true)))))) := rfl
end L05
set_option Elab.async false
set_option linter.all false
set_option maxRecDepth 100000
set_option maxHeartbeats 4000000
namespace L05
open PySem L2 Rf
/-! ### names not drawn twice -/
def ND (ns : List Str) : List D := ns.map D.str
theorem in_names (neg : Bool) {x : Str} (hx : Nm x) : ∀ (ns : List Str), (∀ n ∈ ns, Nm n) → vIn neg (.str x) (.lst (ND ns)) = some (.bl (if neg then !decide (x ∈ ns) else decide (x ∈ ns))) := by
  have lay : ∀ ns : List Str, (∀ n ∈ ns, Nm n) → PyData.canLayAll0 (toPyL (ND ns)) = true := by
    intro ns
    induction ns with
    | nil => intro _; rfl
    | cons a r ih => intro h; simp only [ND, List.map_cons, toPyL, D.toPy, PyData.canLayAll0, PyData.canLay0, (h a List.mem_cons_self).ok, Bool.true_and]; exact ih fun n hn => h n (List.mem_cons_of_mem _ hn)
  have any : ∀ ns : List Str, ((toPyL (ND ns)).any fun z => PyData.eqv z (D.str x).toPy) = decide (x ∈ ns) := by
    intro ns
    induction ns with
    | nil => rfl
    | cons a r ih =>
      simp only [ND, List.map_cons, toPyL, D.toPy, List.any_cons, PyData.eqv] at ih ⊢
      rw [ih]
      by_cases h : a = x
      · subst h; simp
      · have h' : ¬ x = a := fun z => h z.symm
        simp [h, h']
  intro ns h
  unfold vIn
  dsimp only
  rw [if_pos ⟨shaped_str hx.ok, lay ns h⟩, any ns]
def QS : List Str := ["q", "r", "s", "t"]
theorem QS_nm : ∀ x ∈ QS, Nm x := by
  intro x hx
  simp only [QS, List.mem_cons, List.not_mem_nil, or_false] at hx
  rcases hx with rfl | rfl | rfl | rfl
  all_goals exact ⟨by decide +kernel, by decide +kernel, by decide +kernel⟩
theorem QS_out {ns : List Str} (h : ns.length ≤ 2) : ∃ y ys, QS.filter (fun x => !decide (x ∈ ns)) = y :: ys := by
  cases e : QS.filter (fun x => !decide (x ∈ ns)) with
  | cons y ys => exact ⟨y, ys, rfl⟩
  | nil =>
    exfalso
    have hq : ∀ x ∈ QS, x ∈ ns := fun x hx => by
      have := List.filter_eq_nil_iff.mp e x hx
      simpa using this
    have a1 := hq "q" (by decide +kernel)
    have a2 := hq "r" (by decide +kernel)
    have a3 := hq "s" (by decide +kernel)
    have n12 : ("q" : Str) ≠ "r" := by decide +kernel
    have n13 : ("q" : Str) ≠ "s" := by decide +kernel
    have n23 : ("r" : Str) ≠ "s" := by decide +kernel
    match ns, h with
    | [], _ => cases a1
    | [a], _ =>
      simp only [List.mem_cons, List.not_mem_nil, or_false] at a1 a2
      exact n12 (a1.trans a2.symm)
    | [a, b], _ =>
      simp only [List.mem_cons, List.not_mem_nil, or_false] at a1 a2 a3
      rcases a1 with a1 | a1 <;> rcases a2 with a2 | a2 <;> rcases a3 with a3 | a3
      · exact n12 (a1.trans a2.symm)
      · exact n12 (a1.trans a2.symm)
      · exact n13 (a1.trans a3.symm)
      · exact n23 (a2.trans a3.symm)
      · exact n23 (a2.trans a3.symm)
      · exact n13 (a1.trans a3.symm)
      · exact n12 (a1.trans a2.symm)
      · exact n12 (a1.trans a2.symm)
def nmB : ENV → R Fl := sSeq (sAsg (dCall m__law_name (aIo 0 (aNil))) (gSet 4))
  (sSeq (sIf (dT (dInO false (dVar 4) 2)) (sAsg (dIx ((fun ρ => frz ((fLc (dItems (dLst (dCons (dC (.str "q")) (dCons (dC (.str "r")) (dCons (dC (.str "s")) (dCons (dC (.str "t")) (dNil))))))) (gSet 5) (dT (dInO true (dVar 5) 2)) (dVar 5) [5]) ρ))) (dC (.int 0))) (gSet 4)) (sNil))
  (sApp 2 (dVar 4)))
theorem names_cut : b__law_names = sSeq (sOwn (fLst (dNil)) 2) (sSeq (sFor (dRng1 (dVar 1)) (gSet 3) nmB) (sRet (dVar 2))) := rfl
theorem filt_str (p : Str → Bool) : ∀ ns : List Str, (ND ns).filter (fun d => match d with | .str x => p x | _ => false) = ND (ns.filter p)
  | [] => rfl
  | a :: r => by
    have ih := filt_str p r
    simp only [ND, List.map_cons, List.filter_cons] at ih ⊢
    rw [ih]
    by_cases h : p a = true <;> simp [h]
def inOK (neg : Bool) (i : Nat) : D → ENV → R D := fun x ρ1 => match ρ1[i]? with
  | some (some (.ow (.lst ds))) => R.of (vIn neg x (.lst ds)) ρ1
  | _ => .bot
theorem e_InO (neg : Bool) (da : ENV → R D) (i : Nat) (ρ : ENV) : dInO neg da i ρ = (da ρ).bind (inOK neg i) := rfl
theorem e_inOK (neg : Bool) (i : Nat) (x : D) (ρ : ENV) (ds : List D) (h : ρ[i]? = some (some (.ow (.lst ds)))) : inOK neg i x ρ = R.of (vIn neg x (.lst ds)) ρ := by unfold inOK; rw [h]
theorem near_ok {ns : List Str} (hn : ∀ n ∈ ns, Nm n) (m : M) (o1 o3 o4 : Option DV) : fLc (dItems (dLst (dCons (dC (.str "q")) (dCons (dC (.str "r")) (dCons (dC (.str "s")) (dCons (dC (.str "t")) (dNil))))))) (gSet 5) (dT (dInO true (dVar 5) 2)) (dVar 5) [5]
    [some (.ow m), o1, some (.ow (.lst (ND ns))), o3, o4, none] = .ok (.lst (ND (QS.filter fun x => !decide (x ∈ ns)))) [some (.ow m), o1, some (.ow (.lst (ND ns))), o3, o4, none] := by
  have h := lc_filt (ρ := [some (.ow m), o1, some (.ow (.lst (ND ns))), o3, o4, none]) (i := 5) (tt := dT (dInO true (dVar 5) 2)) (te := dVar 5) (di := dItems (dLst (dCons (dC (.str "q")) (dCons (dC (.str "r")) (dCons (dC (.str "s")) (dCons (dC (.str "t")) (dNil)))))))
    (ds := ND QS) (fun d => match d with | .str x => !decide (x ∈ ns) | _ => false) id (by simp only [startE, List.map, List.length, List.replicate, e_Seq, e_Asg, e_Ret, e_RetF, e_Expr, e_exprK, e_op, e_op2, e_op1, e_un, e_is, e_B, e_bK, e_Cons, e_consK, e_consK2, e_Nil, e_var, e_C, e_bind, e_bindX, e_bindB, e_lookS, e_lookO, M.toD, e_of, e_asgK, e_gSet, e_stK, e_sqN, e_sqR, e_sqB, e_sqC, e_sNil, e_retK, e_retFK, e_add, e_vI, e_neg, e_fInt, e_fIntB, e_sIf, e_sifT, e_sifF, e_T, e_toB, e_Tru, e_truB, e_And, e_Or, e_andT, e_andF, e_orT, e_orF, e_Not, e_notK, e_AndV, e_OrV, e_andVT, e_andVF, e_orVT, e_orVF, e_NotV, e_notVK, e_If, e_ifT, e_ifF, e_Tup, e_Lst, e_LstF, e_tup0, e_lst0, e_lstF0, e_eqI, e_neI, e_ltI, e_leI, e_gtI, e_geI, e_lenL, e_lenT, e_lenR, e_lenS, e_ixL, e_ixT, at0, at1, at2, at3, e_tupL, e_tupT, e_lstT, e_Own, e_ownK, e_Sub, e_For, e_Items, e_itL, e_itT, e_itR, e_Call, e_CallF, e_aNil, e_aVal, e_aVK, e_aVK2, step0, step1, step2, step3, out0, out1, out2, out3, outX1, outX2, outO1, outO2, outO3, e_onSh, e_onOw, decide_true, decide_false, Bool.not_true, Bool.not_false, List.cons_append, List.nil_append, List.getElem?_cons_zero, List.getElem?_cons_succ, List.set_cons_zero, List.set_cons_succ, Nat.reduceLT, Nat.reduceAdd, Nat.reduceSub, Option.map_some, finF, outsE, e_frz, d_rng7, e_forK, e_tnN, e_tnC, e_tnB, e_tnR, e_whT, e_whF, e_Raise, e_Par, e_parK, e_parK2, e_augK, e_Ch, e_chK1, e_chK2, e_chT, e_chF, e_Try, e_tryO, e_tru, e_While, e_abs, e_max2, e_min2, e_gSq2, e_tup1, e_lst1, e_tup2, e_lst2, e_tup3, e_lst3, e_tup4, e_lst4, e_tup5, e_lst5, e_tup6, e_lst6, e_tup7, e_lst7, e_tup8, e_lst8, ND, QS]) rfl (fun d hd => by
      obtain ⟨x, hx, rfl⟩ := List.mem_map.mp hd
      have q := in_names true (QS_nm x hx) ns hn
      simp only [if_true] at q
      simp only [startE, List.map, List.length, List.replicate, e_Seq, e_Asg, e_Ret, e_RetF, e_Expr, e_exprK, e_op, e_op2, e_op1, e_un, e_is, e_B, e_bK, e_Cons, e_consK, e_consK2, e_Nil, e_var, e_C, e_bind, e_bindX, e_bindB, e_lookS, e_lookO, M.toD, e_of, e_asgK, e_gSet, e_stK, e_sqN, e_sqR, e_sqB, e_sqC, e_sNil, e_retK, e_retFK, e_add, e_vI, e_neg, e_fInt, e_fIntB, e_sIf, e_sifT, e_sifF, e_T, e_toB, e_Tru, e_truB, e_And, e_Or, e_andT, e_andF, e_orT, e_orF, e_Not, e_notK, e_AndV, e_OrV, e_andVT, e_andVF, e_orVT, e_orVF, e_NotV, e_notVK, e_If, e_ifT, e_ifF, e_Tup, e_Lst, e_LstF, e_tup0, e_lst0, e_lstF0, e_eqI, e_neI, e_ltI, e_leI, e_gtI, e_geI, e_lenL, e_lenT, e_lenR, e_lenS, e_ixL, e_ixT, at0, at1, at2, at3, e_tupL, e_tupT, e_lstT, e_Own, e_ownK, e_Sub, e_For, e_Items, e_itL, e_itT, e_itR, e_Call, e_CallF, e_aNil, e_aVal, e_aVK, e_aVK2, step0, step1, step2, step3, out0, out1, out2, out3, outX1, outX2, outO1, outO2, outO3, e_onSh, e_onOw, decide_true, decide_false, Bool.not_true, Bool.not_false, List.cons_append, List.nil_append, List.getElem?_cons_zero, List.getElem?_cons_succ, List.set_cons_zero, List.set_cons_succ, Nat.reduceLT, Nat.reduceAdd, Nat.reduceSub, Option.map_some, finF, outsE, e_frz, d_rng7, e_forK, e_tnN, e_tnC, e_tnB, e_tnR, e_whT, e_whF, e_Raise, e_Par, e_parK, e_parK2, e_augK, e_Ch, e_chK1, e_chK2, e_chT, e_chF, e_Try, e_tryO, e_tru, e_While, e_abs, e_max2, e_min2, e_gSq2, e_tup1, e_lst1, e_tup2, e_lst2, e_tup3, e_lst3, e_tup4, e_lst4, e_tup5, e_lst5, e_tup6, e_lst6, e_tup7, e_lst7, e_tup8, e_lst8, e_InO, e_inOK (ds := ND ns), q]) (fun d hd _ => by
      obtain ⟨x, hx, rfl⟩ := List.mem_map.mp hd
      simp only [startE, List.map, List.length, List.replicate, e_Seq, e_Asg, e_Ret, e_RetF, e_Expr, e_exprK, e_op, e_op2, e_op1, e_un, e_is, e_B, e_bK, e_Cons, e_consK, e_consK2, e_Nil, e_var, e_C, e_bind, e_bindX, e_bindB, e_lookS, e_lookO, M.toD, e_of, e_asgK, e_gSet, e_stK, e_sqN, e_sqR, e_sqB, e_sqC, e_sNil, e_retK, e_retFK, e_add, e_vI, e_neg, e_fInt, e_fIntB, e_sIf, e_sifT, e_sifF, e_T, e_toB, e_Tru, e_truB, e_And, e_Or, e_andT, e_andF, e_orT, e_orF, e_Not, e_notK, e_AndV, e_OrV, e_andVT, e_andVF, e_orVT, e_orVF, e_NotV, e_notVK, e_If, e_ifT, e_ifF, e_Tup, e_Lst, e_LstF, e_tup0, e_lst0, e_lstF0, e_eqI, e_neI, e_ltI, e_leI, e_gtI, e_geI, e_lenL, e_lenT, e_lenR, e_lenS, e_ixL, e_ixT, at0, at1, at2, at3, e_tupL, e_tupT, e_lstT, e_Own, e_ownK, e_Sub, e_For, e_Items, e_itL, e_itT, e_itR, e_Call, e_CallF, e_aNil, e_aVal, e_aVK, e_aVK2, step0, step1, step2, step3, out0, out1, out2, out3, outX1, outX2, outO1, outO2, outO3, e_onSh, e_onOw, decide_true, decide_false, Bool.not_true, Bool.not_false, List.cons_append, List.nil_append, List.getElem?_cons_zero, List.getElem?_cons_succ, List.set_cons_zero, List.set_cons_succ, Nat.reduceLT, Nat.reduceAdd, Nat.reduceSub, Option.map_some, finF, outsE, e_frz, d_rng7, e_forK, e_tnN, e_tnC, e_tnB, e_tnR, e_whT, e_whF, e_Raise, e_Par, e_parK, e_parK2, e_augK, e_Ch, e_chK1, e_chK2, e_chT, e_chF, e_Try, e_tryO, e_tru, e_While, e_abs, e_max2, e_min2, e_gSq2, e_tup1, e_lst1, e_tup2, e_lst2, e_tup3, e_lst3, e_tup4, e_lst4, e_tup5, e_lst5, e_tup6, e_lst6, e_tup7, e_lst7, e_tup8, e_lst8, id]) (by rw [sizeLine_eq]; decide)
  rw [h, filt_str, List.map_id]
def PN (k : Nat) (ρ : ENV) : Prop := ∃ (m : M) (ns : List Str) (o1 o3 o4 : Option DV), Good m ∧ ns.length = k ∧ (∀ n ∈ ns, Nm n) ∧ ρ = [some (.ow m), o1, some (.ow (.lst (ND ns))), o3, o4, none]
theorem nmB_ok {m : M} {ns : List Str} (hm : Good m) (hl : ns.length ≤ 2) (hn : ∀ n ∈ ns, Nm n) (o1 o3 o4 : Option DV) : ∃ (m' : M) (x : Str), nmB [some (.ow m), o1, some (.ow (.lst (ND ns))), o3, o4, none]
    = .ok .nx [some (.ow m'), o1, some (.ow (.lst (ND (ns ++ [x])))), o3, some (.sh (.str x)), none] ∧ Good m' ∧ Nm x := by
  obtain ⟨x, m1, e1, g1, hx⟩ := dname_ok hm
  have q := in_names false hx ns hn
  have app : ∀ y : Str, ND (ns ++ [y]) = ND ns ++ [.str y] := fun y => by unfold ND; rw [List.map_append]; rfl
  have hsz : (ND ns).length < sizeLine := by unfold ND; rw [List.length_map, sizeLine_eq]; omega
  by_cases h : x ∈ ns
  · obtain ⟨y, ys, hy⟩ := QS_out hl
    have hym : y ∈ QS := (List.mem_filter.mp (by rw [hy]; exact List.mem_cons_self : y ∈ QS.filter fun x => !decide (x ∈ ns))).1
    have nk := near_ok hn m1 o1 o3 (some (.sh (.str x)))
    rw [hy] at nk
    simp only [h, decide_true, if_false, Bool.false_eq_true] at q
    refine ⟨m1, y, ?_, g1, QS_nm y hym⟩
    unfold nmB
    rw [app]
    simp only [ND, List.map_cons] at nk
    simp only [startE, List.map, List.length, List.replicate, e_Seq, e_Asg, e_Ret, e_RetF, e_Expr, e_exprK, e_op, e_op2, e_op1, e_un, e_is, e_B, e_bK, e_Cons, e_consK, e_consK2, e_Nil, e_var, e_C, e_bind, e_bindX, e_bindB, e_lookS, e_lookO, M.toD, e_of, e_asgK, e_gSet, e_stK, e_sqN, e_sqR, e_sqB, e_sqC, e_sNil, e_retK, e_retFK, e_add, e_vI, e_neg, e_fInt, e_fIntB, e_sIf, e_sifT, e_sifF, e_T, e_toB, e_Tru, e_truB, e_And, e_Or, e_andT, e_andF, e_orT, e_orF, e_Not, e_notK, e_AndV, e_OrV, e_andVT, e_andVF, e_orVT, e_orVF, e_NotV, e_notVK, e_If, e_ifT, e_ifF, e_Tup, e_Lst, e_LstF, e_tup0, e_lst0, e_lstF0, e_eqI, e_neI, e_ltI, e_leI, e_gtI, e_geI, e_lenL, e_lenT, e_lenR, e_lenS, e_ixL, e_ixT, at0, at1, at2, at3, e_tupL, e_tupT, e_lstT, e_Own, e_ownK, e_Sub, e_For, e_Items, e_itL, e_itT, e_itR, e_Call, e_CallF, e_aNil, e_aVal, e_aVK, e_aVK2, step0, step1, step2, step3, out0, out1, out2, out3, outX1, outX2, outO1, outO2, outO3, e_onSh, e_onOw, decide_true, decide_false, Bool.not_true, Bool.not_false, List.cons_append, List.nil_append, List.getElem?_cons_zero, List.getElem?_cons_succ, List.set_cons_zero, List.set_cons_succ, Nat.reduceLT, Nat.reduceAdd, Nat.reduceSub, Option.map_some, finF, outsE, e_frz, d_rng7, e_forK, e_tnN, e_tnC, e_tnB, e_tnR, e_whT, e_whF, e_Raise, e_Par, e_parK, e_parK2, e_augK, e_Ch, e_chK1, e_chK2, e_chT, e_chF, e_Try, e_tryO, e_tru, e_While, e_abs, e_max2, e_min2, e_gSq2, e_tup1, e_lst1, e_tup2, e_lst2, e_tup3, e_lst3, e_tup4, e_lst4, e_tup5, e_lst5, e_tup6, e_lst6, e_tup7, e_lst7, e_tup8, e_lst8, e_RaF, e_raF1, e_raF2, e_TryA, e_tryAO, e_asgnK, e_frzX, e_bindX, e_Fld, e_SFld, e_Mk, e_mkK1, e_mkK2, e_mkK3, e_mkK4, e_mkO, e_mkX, e_Met, e_metK2, e_Enum, e_enumL, e_enumT, pairs2, pairs3, pairs4, e_lst9, e_lst10, e_lst11, e_lst12, e_tup9, e_tup10, e_tup11, e_tup12, e_ListF, e_listFT, e_listFL, e_IfB, e_ifBT, e_ifBF, e_notB, e_isB, o_int, o_str, o_tup, o_lst, o_non, o_bl, n_int, n_str, n_tup, n_lst, n_non, n_bl, ND, e_aIo (m := m), stepO1 (m := m), e1, e_InO, e_inOK (ds := List.map D.str ns), show vIn false (D.str x) (D.lst (List.map D.str ns)) = some (.bl true) from q, nk, e_App (ds := List.map D.str ns), e_appK (ds := List.map D.str ns) (hl := hsz)]
  · simp only [h, decide_false, if_false, Bool.false_eq_true] at q
    refine ⟨m1, x, ?_, g1, hx⟩
    unfold nmB
    rw [app]
    simp only [startE, List.map, List.length, List.replicate, e_Seq, e_Asg, e_Ret, e_RetF, e_Expr, e_exprK, e_op, e_op2, e_op1, e_un, e_is, e_B, e_bK, e_Cons, e_consK, e_consK2, e_Nil, e_var, e_C, e_bind, e_bindX, e_bindB, e_lookS, e_lookO, M.toD, e_of, e_asgK, e_gSet, e_stK, e_sqN, e_sqR, e_sqB, e_sqC, e_sNil, e_retK, e_retFK, e_add, e_vI, e_neg, e_fInt, e_fIntB, e_sIf, e_sifT, e_sifF, e_T, e_toB, e_Tru, e_truB, e_And, e_Or, e_andT, e_andF, e_orT, e_orF, e_Not, e_notK, e_AndV, e_OrV, e_andVT, e_andVF, e_orVT, e_orVF, e_NotV, e_notVK, e_If, e_ifT, e_ifF, e_Tup, e_Lst, e_LstF, e_tup0, e_lst0, e_lstF0, e_eqI, e_neI, e_ltI, e_leI, e_gtI, e_geI, e_lenL, e_lenT, e_lenR, e_lenS, e_ixL, e_ixT, at0, at1, at2, at3, e_tupL, e_tupT, e_lstT, e_Own, e_ownK, e_Sub, e_For, e_Items, e_itL, e_itT, e_itR, e_Call, e_CallF, e_aNil, e_aVal, e_aVK, e_aVK2, step0, step1, step2, step3, out0, out1, out2, out3, outX1, outX2, outO1, outO2, outO3, e_onSh, e_onOw, decide_true, decide_false, Bool.not_true, Bool.not_false, List.cons_append, List.nil_append, List.getElem?_cons_zero, List.getElem?_cons_succ, List.set_cons_zero, List.set_cons_succ, Nat.reduceLT, Nat.reduceAdd, Nat.reduceSub, Option.map_some, finF, outsE, e_frz, d_rng7, e_forK, e_tnN, e_tnC, e_tnB, e_tnR, e_whT, e_whF, e_Raise, e_Par, e_parK, e_parK2, e_augK, e_Ch, e_chK1, e_chK2, e_chT, e_chF, e_Try, e_tryO, e_tru, e_While, e_abs, e_max2, e_min2, e_gSq2, e_tup1, e_lst1, e_tup2, e_lst2, e_tup3, e_lst3, e_tup4, e_lst4, e_tup5, e_lst5, e_tup6, e_lst6, e_tup7, e_lst7, e_tup8, e_lst8, e_RaF, e_raF1, e_raF2, e_TryA, e_tryAO, e_asgnK, e_frzX, e_bindX, e_Fld, e_SFld, e_Mk, e_mkK1, e_mkK2, e_mkK3, e_mkK4, e_mkO, e_mkX, e_Met, e_metK2, e_Enum, e_enumL, e_enumT, pairs2, pairs3, pairs4, e_lst9, e_lst10, e_lst11, e_lst12, e_tup9, e_tup10, e_tup11, e_tup12, e_ListF, e_listFT, e_listFL, e_IfB, e_ifBT, e_ifBF, e_notB, e_isB, o_int, o_str, o_tup, o_lst, o_non, o_bl, n_int, n_str, n_tup, n_lst, n_non, n_bl, e_aIo (m := m), stepO1 (m := m), e1, e_InO, e_inOK (ds := ND ns), q, e_App (ds := ND ns), e_appK (ds := ND ns) (hl := hsz)]
theorem names_run {m : M} (hm : Good m) {n : Nat} (hn : n ≤ 3) (ds : List D) (hr : ds.length = n) (o1 : Option DV) : ∃ (m' : M) (ns : List Str) (o3 o4 : Option DV),
    forL (gSet 3) nmB ds [some (.ow m), o1, some (.ow (.lst [])), none, none, none] = .ok .nx [some (.ow m'), o1, some (.ow (.lst (ND ns))), o3, o4, none] ∧ Good m' ∧ ns.length = n ∧ ∀ x ∈ ns, Nm x := by
  obtain ⟨ρ', e, m', ns, o3, o4, g, hl, hx, hρ⟩ := for_run (g := gSet 3) (body := nmB) (fun k ρ => ∃ (m : M) (ns : List Str) (o3 o4 : Option DV), Good m ∧ ns.length = k ∧ (∀ n ∈ ns, Nm n) ∧ ρ = [some (.ow m), o1, some (.ow (.lst (ND ns))), o3, o4, none])
    ds 0 [some (.ow m), o1, some (.ow (.lst [])), none, none, none] (fun i d hd ρ hp => by
      obtain ⟨m, ns, o3, o4, g, hl, hx, rfl⟩ := hp
      have hi : i < n := by have := (List.getElem?_eq_some_iff.mp hd).1; omega
      obtain ⟨m', x, e, g', hx'⟩ := nmB_ok g (show ns.length ≤ 2 by omega) hx o1 (some (.sh d)) o4
      refine ⟨_, _, rfl, .inl e, m', ns ++ [x], _, _, g', by rw [List.length_append, hl]; rfl, fun y hy => ?_, rfl⟩
      rcases List.mem_append.mp hy with hy | hy
      · exact hx y hy
      · rw [List.mem_singleton.mp hy]; exact hx') ⟨m, [], _, _, hm, rfl, (fun _ h => nomatch h), rfl⟩
  subst hρ
  exact ⟨m', ns, o3, o4, e, g, by omega, hx⟩
theorem names_ok {m : M} (hm : Good m) {n : Nat} (hn : n ≤ 3) : ∃ (m' : M) (ns : List Str), m__law_names [.ow m, .sh (.int (n : Nat))] = .ok (.sh (.lst (ND ns))) [m'] ∧ Good m' ∧ ns.length = n ∧ ∀ x ∈ ns, Nm x := by
  have hr : (rng 0 (n : Nat)).length = n := by unfold rng; rw [List.length_map, List.length_range]; omega
  obtain ⟨m', ns, o3, o4, e, g, hl, hx⟩ := names_run hm hn (rng 0 (n : Nat)) hr (some (.sh (.int (n : Nat))))
  refine ⟨m', ns, ?_, g, hl, hx⟩
  have hk := rngOk_le (show 0 ≤ ((n : Nat) : Int) by omega) (show ((n : Nat) : Int) ≤ 100 by omega)
  generalize ((n : Nat) : Int) = z at *
  have h1 : sOwn (fLst (dNil)) 2 [some (.ow m), some (.sh (.int z)), none, none, none, none] = .ok .nx [some (.ow m), some (.sh (.int z)), some (.ow (.lst [])), none, none, none] := by kernel_rfl
  have h2 : sFor (dRng1 (dVar 1)) (gSet 3) nmB [some (.ow m), some (.sh (.int z)), some (.ow (.lst [])), none, none, none] = .ok .nx [some (.ow m'), some (.sh (.int z)), some (.ow (.lst (ND ns))), o3, o4, none] := by
    have e1 := e_rng1K z [some (.ow m), some (.sh (.int z)), some (.ow (.lst [])), none, none, none] hk
    have e2 : dVar 1 [some (.ow m), some (.sh (.int z)), some (.ow (.lst [])), none, none, none] = .ok (.int z) [some (.ow m), some (.sh (.int z)), some (.ow (.lst [])), none, none, none] := rfl
    generalize rng 0 z = ds at *
    rw [e_For, e_Rng1, e2, e_bind, e1, e_bind, e_forK]
    exact e
  refine (e_run [0] 6 _ _ rfl).trans ?_
  rw [names_cut, show startE 6 [.ow m, .sh (.int z)] = [some (.ow m), some (.sh (.int z)), none, none, none, none] from rfl, seq_ok h1, seq_ok h2]
  rfl
theorem world_ok {m : M} (hm : Good m) : ∃ (m' : M) (ns ps : List Str), m__law_world [.ow m] = .ok (.sh (.lst [.lst (ND ns), .lst (ND ps)])) [m'] ∧ Good m' ∧ ns.length = 3 ∧ ps.length = 2 ∧ (∀ x ∈ ns, Nm x) ∧ ∀ x ∈ ps, Nm x := by
  obtain ⟨m1, ns, e1, g1, l1, h1⟩ := names_ok hm (n := 3) (by decide)
  obtain ⟨m2, ps, e2, g2, l2, h2⟩ := names_ok g1 (n := 2) (by decide)
  refine ⟨m2, ns, ps, ?_, g2, l1, l2, h1, h2⟩
  refine (e_run [0] 1 _ _ rfl).trans ?_
  unfold b__law_world
  have e1' : m__law_names [.ow m, .sh (.int 3)] = .ok (.sh (.lst (ND ns))) [m1] := e1
  have e2' : m__law_names [.ow m1, .sh (.int 2)] = .ok (.sh (.lst (ND ps))) [m2] := e2
  simp only [startE, List.map, List.length, List.replicate, e_Seq, e_Asg, e_Ret, e_RetF, e_Expr, e_exprK, e_op, e_op2, e_op1, e_un, e_is, e_B, e_bK, e_Cons, e_consK, e_consK2, e_Nil, e_var, e_C, e_bind, e_bindX, e_bindB, e_lookS, e_lookO, M.toD, e_of, e_asgK, e_gSet, e_stK, e_sqN, e_sqR, e_sqB, e_sqC, e_sNil, e_retK, e_retFK, e_add, e_vI, e_neg, e_fInt, e_fIntB, e_sIf, e_sifT, e_sifF, e_T, e_toB, e_Tru, e_truB, e_And, e_Or, e_andT, e_andF, e_orT, e_orF, e_Not, e_notK, e_AndV, e_OrV, e_andVT, e_andVF, e_orVT, e_orVF, e_NotV, e_notVK, e_If, e_ifT, e_ifF, e_Tup, e_Lst, e_LstF, e_tup0, e_lst0, e_lstF0, e_eqI, e_neI, e_ltI, e_leI, e_gtI, e_geI, e_lenL, e_lenT, e_lenR, e_lenS, e_ixL, e_ixT, at0, at1, at2, at3, e_tupL, e_tupT, e_lstT, e_Own, e_ownK, e_Sub, e_For, e_Items, e_itL, e_itT, e_itR, e_Call, e_CallF, e_aNil, e_aVal, e_aVK, e_aVK2, step0, step1, step2, step3, out0, out1, out2, out3, outX1, outX2, outO1, outO2, outO3, e_onSh, e_onOw, decide_true, decide_false, Bool.not_true, Bool.not_false, List.cons_append, List.nil_append, List.getElem?_cons_zero, List.getElem?_cons_succ, List.set_cons_zero, List.set_cons_succ, Nat.reduceLT, Nat.reduceAdd, Nat.reduceSub, Option.map_some, finF, outsE, e_frz, d_rng7, e_forK, e_tnN, e_tnC, e_tnB, e_tnR, e_whT, e_whF, e_Raise, e_Par, e_parK, e_parK2, e_augK, e_Ch, e_chK1, e_chK2, e_chT, e_chF, e_Try, e_tryO, e_tru, e_While, e_abs, e_max2, e_min2, e_gSq2, e_tup1, e_lst1, e_tup2, e_lst2, e_tup3, e_lst3, e_tup4, e_lst4, e_tup5, e_lst5, e_tup6, e_lst6, e_tup7, e_lst7, e_tup8, e_lst8, e_RaF, e_raF1, e_raF2, e_TryA, e_tryAO, e_asgnK, e_frzX, e_bindX, e_Fld, e_SFld, e_Mk, e_mkK1, e_mkK2, e_mkK3, e_mkK4, e_mkO, e_mkX, e_Met, e_metK2, e_Enum, e_enumL, e_enumT, pairs2, pairs3, pairs4, e_lst9, e_lst10, e_lst11, e_lst12, e_tup9, e_tup10, e_tup11, e_tup12, e_ListF, e_listFT, e_listFL, e_IfB, e_ifBT, e_ifBF, e_notB, e_isB, o_int, o_str, o_tup, o_lst, o_non, o_bl, n_int, n_str, n_tup, n_lst, n_non, n_bl, e_aIo (m := m), stepO2 (m := m), e1', e_aIo (m := m1), stepO2 (m := m1), e2']
theorem at_name {ns : List Str} {r : Int} (h0 : 0 ≤ r) (h1 : r < ns.length) (h : ∀ x ∈ ns, Nm x) : ∃ x, vIxI (.lst (ND ns)) (.int r) = some (.str x) ∧ Nm x := by
  have hr : r.toNat < ns.length := by omega
  refine ⟨ns[r.toNat], ?_, h _ (List.getElem_mem hr)⟩
  exact atN h0 (by unfold ND; rw [List.getElem?_map, List.getElem?_eq_getElem hr]; rfl)
theorem pw12 : vIc cPow (fun i j => i ^ j.toNat) (.int 10) (.int 12) = some (.int 1000000000000) := by kernel_rfl
theorem mu12 : vIc cMul (fun i j => i * j) (.int 2) (.int 1000000000000) = some (.int 2000000000000) := by kernel_rfl
theorem date_ok {m : M} (hm : Good m) : ∃ (c : Int) (m' : M), m__law_date [.ow m] = .ok (.sh (.int c)) [m'] ∧ Good m' := by
  obtain ⟨a, m1, e1, g1, a0, a1⟩ := tk (n := 8) hm (by decide)
  by_cases h : a = 0
  · subst h
    obtain ⟨b, m2, e2, g2, b0, b1⟩ := tk (n := 2000000000000) g1 (by decide)
    refine ⟨b - 1000000000000, m2, ?_, g2⟩
    refine (e_run [0] 1 _ _ rfl).trans ?_
    unfold b__law_date
    simp only [startE, List.map, List.length, List.replicate, e_Seq, e_Asg, e_Ret, e_RetF, e_Expr, e_exprK, e_op, e_op2, e_op1, e_un, e_is, e_B, e_bK, e_Cons, e_consK, e_consK2, e_Nil, e_var, e_C, e_bind, e_bindX, e_bindB, e_lookS, e_lookO, M.toD, e_of, e_asgK, e_gSet, e_stK, e_sqN, e_sqR, e_sqB, e_sqC, e_sNil, e_retK, e_retFK, e_add, e_vI, e_neg, e_fInt, e_fIntB, e_sIf, e_sifT, e_sifF, e_T, e_toB, e_Tru, e_truB, e_And, e_Or, e_andT, e_andF, e_orT, e_orF, e_Not, e_notK, e_AndV, e_OrV, e_andVT, e_andVF, e_orVT, e_orVF, e_NotV, e_notVK, e_If, e_ifT, e_ifF, e_Tup, e_Lst, e_LstF, e_tup0, e_lst0, e_lstF0, e_eqI, e_neI, e_ltI, e_leI, e_gtI, e_geI, e_lenL, e_lenT, e_lenR, e_lenS, e_ixL, e_ixT, at0, at1, at2, at3, e_tupL, e_tupT, e_lstT, e_Own, e_ownK, e_Sub, e_For, e_Items, e_itL, e_itT, e_itR, e_Call, e_CallF, e_aNil, e_aVal, e_aVK, e_aVK2, step0, step1, step2, step3, out0, out1, out2, out3, outX1, outX2, outO1, outO2, outO3, e_onSh, e_onOw, decide_true, decide_false, Bool.not_true, Bool.not_false, List.cons_append, List.nil_append, List.getElem?_cons_zero, List.getElem?_cons_succ, List.set_cons_zero, List.set_cons_succ, Nat.reduceLT, Nat.reduceAdd, Nat.reduceSub, Option.map_some, finF, outsE, e_frz, d_rng7, e_forK, e_tnN, e_tnC, e_tnB, e_tnR, e_whT, e_whF, e_Raise, e_Par, e_parK, e_parK2, e_augK, e_Ch, e_chK1, e_chK2, e_chT, e_chF, e_Try, e_tryO, e_tru, e_While, e_abs, e_max2, e_min2, e_gSq2, e_tup1, e_lst1, e_tup2, e_lst2, e_tup3, e_lst3, e_tup4, e_lst4, e_tup5, e_lst5, e_tup6, e_lst6, e_tup7, e_lst7, e_tup8, e_lst8, e_RaF, e_raF1, e_raF2, e_TryA, e_tryAO, e_asgnK, e_frzX, e_bindX, e_Fld, e_SFld, e_Mk, e_mkK1, e_mkK2, e_mkK3, e_mkK4, e_mkO, e_mkX, e_Met, e_metK2, e_Enum, e_enumL, e_enumT, pairs2, pairs3, pairs4, e_lst9, e_lst10, e_lst11, e_lst12, e_tup9, e_tup10, e_tup11, e_tup12, e_ListF, e_listFT, e_listFL, e_IfB, e_ifBT, e_ifBF, e_notB, e_isB, o_int, o_str, o_tup, o_lst, o_non, o_bl, n_int, n_str, n_tup, n_lst, n_non, n_bl, pw12, mu12, e_aIo (m := m), stepO2 (m := m), e1, e_aIo (m := m1), stepO2 (m := m1), e2, beq_self_eq_true]
  · have hb : (a == 0) = false := beq_false_of_ne h
    obtain ⟨b, m2, e2, g2, b0, b1⟩ := tk (n := 17) g1 (by decide)
    refine ⟨b - 3, m2, ?_, g2⟩
    refine (e_run [0] 1 _ _ rfl).trans ?_
    unfold b__law_date
    simp only [startE, List.map, List.length, List.replicate, e_Seq, e_Asg, e_Ret, e_RetF, e_Expr, e_exprK, e_op, e_op2, e_op1, e_un, e_is, e_B, e_bK, e_Cons, e_consK, e_consK2, e_Nil, e_var, e_C, e_bind, e_bindX, e_bindB, e_lookS, e_lookO, M.toD, e_of, e_asgK, e_gSet, e_stK, e_sqN, e_sqR, e_sqB, e_sqC, e_sNil, e_retK, e_retFK, e_add, e_vI, e_neg, e_fInt, e_fIntB, e_sIf, e_sifT, e_sifF, e_T, e_toB, e_Tru, e_truB, e_And, e_Or, e_andT, e_andF, e_orT, e_orF, e_Not, e_notK, e_AndV, e_OrV, e_andVT, e_andVF, e_orVT, e_orVF, e_NotV, e_notVK, e_If, e_ifT, e_ifF, e_Tup, e_Lst, e_LstF, e_tup0, e_lst0, e_lstF0, e_eqI, e_neI, e_ltI, e_leI, e_gtI, e_geI, e_lenL, e_lenT, e_lenR, e_lenS, e_ixL, e_ixT, at0, at1, at2, at3, e_tupL, e_tupT, e_lstT, e_Own, e_ownK, e_Sub, e_For, e_Items, e_itL, e_itT, e_itR, e_Call, e_CallF, e_aNil, e_aVal, e_aVK, e_aVK2, step0, step1, step2, step3, out0, out1, out2, out3, outX1, outX2, outO1, outO2, outO3, e_onSh, e_onOw, decide_true, decide_false, Bool.not_true, Bool.not_false, List.cons_append, List.nil_append, List.getElem?_cons_zero, List.getElem?_cons_succ, List.set_cons_zero, List.set_cons_succ, Nat.reduceLT, Nat.reduceAdd, Nat.reduceSub, Option.map_some, finF, outsE, e_frz, d_rng7, e_forK, e_tnN, e_tnC, e_tnB, e_tnR, e_whT, e_whF, e_Raise, e_Par, e_parK, e_parK2, e_augK, e_Ch, e_chK1, e_chK2, e_chT, e_chF, e_Try, e_tryO, e_tru, e_While, e_abs, e_max2, e_min2, e_gSq2, e_tup1, e_lst1, e_tup2, e_lst2, e_tup3, e_lst3, e_tup4, e_lst4, e_tup5, e_lst5, e_tup6, e_lst6, e_tup7, e_lst7, e_tup8, e_lst8, e_RaF, e_raF1, e_raF2, e_TryA, e_tryAO, e_asgnK, e_frzX, e_bindX, e_Fld, e_SFld, e_Mk, e_mkK1, e_mkK2, e_mkK3, e_mkK4, e_mkO, e_mkX, e_Met, e_metK2, e_Enum, e_enumL, e_enumT, pairs2, pairs3, pairs4, e_lst9, e_lst10, e_lst11, e_lst12, e_tup9, e_tup10, e_tup11, e_tup12, e_ListF, e_listFT, e_listFL, e_IfB, e_ifBT, e_ifBF, e_notB, e_isB, o_int, o_str, o_tup, o_lst, o_non, o_bl, n_int, n_str, n_tup, n_lst, n_non, n_bl, e_aIo (m := m), stepO2 (m := m), e1, e_aIo (m := m1), stepO2 (m := m1), e2, hb]
def WD (ns ps : List Str) : D := .lst [.lst (ND ns), .lst (ND ps)]
structure Wo (ns ps : List Str) : Prop where
  l1 : ns.length = 3
  l2 : ps.length = 2
  h1 : ∀ x ∈ ns, Nm x
  h2 : ∀ x ∈ ps, Nm x
theorem situ_ok {m : M} {ns ps : List Str} (hm : Good m) (w : Wo ns ps) : ∃ (a b d : Str) (c : Int) (m' : M), m__law_situation [.ow m, .sh (WD ns ps)] = .ok (.sh (argN a b c d)) [m'] ∧ Good m' ∧ Nm a ∧ Nm b ∧ Nm d := by
  obtain ⟨r1, m1, e1, g1, a0, a1⟩ := tk (n := 3) hm (by decide)
  obtain ⟨r2, m2, e2, g2, b0, b1⟩ := tk (n := 3) g1 (by decide)
  obtain ⟨c, m3, e3, g3⟩ := date_ok g2
  obtain ⟨r4, m4, e4, g4, d0, d1⟩ := tk (n := 2) g3 (by decide)
  obtain ⟨a, ha, na⟩ := at_name a0 (by rw [w.l1]; exact a1) w.h1
  obtain ⟨b, hb, nb⟩ := at_name b0 (by rw [w.l1]; exact b1) w.h1
  obtain ⟨d, hd, nd⟩ := at_name d0 (by rw [w.l2]; exact d1) w.h2
  have l1 : fLen [.lst (ND ns)] = some (.int 3) := by
    show some (D.int ((ND ns).length : Int)) = _
    unfold ND
    rw [List.length_map, w.l1]; rfl
  have l2 : fLen [.lst (ND ps)] = some (.int 2) := by
    show some (D.int ((ND ps).length : Int)) = _
    unfold ND
    rw [List.length_map, w.l2]; rfl
  have i0 : vIxI (WD ns ps) (.int 0) = some (.lst (ND ns)) := at0 _ _
  have i1 : vIxI (WD ns ps) (.int 1) = some (.lst (ND ps)) := at1 _ _ _
  refine ⟨a, b, d, c, m4, ?_, g4, na, nb, nd⟩
  refine (e_run [0] 3 _ _ rfl).trans ?_
  unfold b__law_situation argN
  generalize WD ns ps = W at *
  generalize ND ns = N1 at *
  generalize ND ps = N2 at *
  have q : ∀ (x : D) (k : D), vIxI x k = vIxI x k := fun _ _ => rfl
  simp only [e_Seq, e_Asg, e_op, e_var, e_lookS, e_bind, e_op2, e_C, e_op1, i0, i1, e_of, e_asgK, e_gSet, e_stK, e_sqN, e_Ret, e_Tup, e_Cons, e_Call, e_aIo (m := m), e_aIo (m := m1), e_aIo (m := m2), e_aIo (m := m3), e_aVal, e_B, e_consK, e_Nil, e_consK2, e_bK, l1, l2, e_aVK, e_aNil, e_aVK2, stepO2 (m := m), stepO2 (m := m1), stepO1 (m := m2), stepO2 (m := m3), e1, e2, e3, e4,
    outO1, outO2, e_onSh, ha, hb, hd, e_tup4, e_retK, finF, outsE, startE, List.length, List.replicate, List.map, List.cons_append, List.nil_append, List.getElem?_cons_zero, List.getElem?_cons_succ, List.set_cons_zero, List.set_cons_succ, Nat.reduceLT, Nat.reduceAdd, Nat.reduceSub, Option.map_some]
end L05
set_option Elab.async false
set_option linter.all false
set_option maxRecDepth 100000
set_option maxHeartbeats 4000000
namespace L05
open PySem L2 Rf
/-! ### the law, statement by statement -/
variable {m : M} {ns ps : List Str} {a b d : Str} {c : Int} {o0 o3 o4 o5 o6 o7 o8 o9 o10 o11 o12 o13 o14 o15 o16 o17 W : Option DV}
theorem lS0_ok (hm : Good m) (w : Wo ns ps) : ∃ (a b d : Str) (c : Int) (m' : M), lS0 [o0, some (.ow m), some (.sh (WD ns ps)), o3, o4, o5, o6, o7, o8, o9, o10, o11, o12, o13, o14, o15, o16, o17]
    = .ok .nx [o0, some (.ow m'), some (.sh (WD ns ps)), o3, some (.sh (argN a b c d)), o5, o6, o7, o8, o9, o10, o11, o12, o13, o14, o15, o16, o17] ∧ Good m' ∧ Nm a ∧ Nm b ∧ Nm d := by
  obtain ⟨a, b, d, c, m', e, g, ha, hb, hd⟩ := situ_ok hm w
  refine ⟨a, b, d, c, m', ?_, g, ha, hb, hd⟩
  generalize WD ns ps = W at *
  generalize argN a b c d = A at *
  unfold lS0
  simp only [startE, List.map, List.length, List.replicate, e_Seq, e_Asg, e_Ret, e_RetF, e_Expr, e_exprK, e_op, e_op2, e_op1, e_un, e_is, e_B, e_bK, e_Cons, e_consK, e_consK2, e_Nil, e_var, e_C, e_bind, e_bindX, e_bindB, e_lookS, e_lookO, M.toD, e_of, e_asgK, e_gSet, e_stK, e_sqN, e_sqR, e_sqB, e_sqC, e_sNil, e_retK, e_retFK, e_add, e_vI, e_neg, e_fInt, e_fIntB, e_sIf, e_sifT, e_sifF, e_T, e_toB, e_Tru, e_truB, e_And, e_Or, e_andT, e_andF, e_orT, e_orF, e_Not, e_notK, e_AndV, e_OrV, e_andVT, e_andVF, e_orVT, e_orVF, e_NotV, e_notVK, e_If, e_ifT, e_ifF, e_Tup, e_Lst, e_LstF, e_tup0, e_lst0, e_lstF0, e_eqI, e_neI, e_ltI, e_leI, e_gtI, e_geI, e_lenL, e_lenT, e_lenR, e_lenS, e_ixL, e_ixT, at0, at1, at2, at3, e_tupL, e_tupT, e_lstT, e_Own, e_ownK, e_Sub, e_For, e_Items, e_itL, e_itT, e_itR, e_Call, e_CallF, e_aNil, e_aVal, e_aVK, e_aVK2, step0, step1, step2, step3, out0, out1, out2, out3, outX1, outX2, outO1, outO2, outO3, e_onSh, e_onOw, decide_true, decide_false, Bool.not_true, Bool.not_false, List.cons_append, List.nil_append, List.getElem?_cons_zero, List.getElem?_cons_succ, List.set_cons_zero, List.set_cons_succ, Nat.reduceLT, Nat.reduceAdd, Nat.reduceSub, Option.map_some, finF, outsE, e_frz, d_rng7, e_forK, e_tnN, e_tnC, e_tnB, e_tnR, e_whT, e_whF, e_Raise, e_Par, e_parK, e_parK2, e_augK, e_Ch, e_chK1, e_chK2, e_chT, e_chF, e_Try, e_tryO, e_tru, e_While, e_abs, e_max2, e_min2, e_gSq2, e_tup1, e_lst1, e_tup2, e_lst2, e_tup3, e_lst3, e_tup4, e_lst4, e_tup5, e_lst5, e_tup6, e_lst6, e_tup7, e_lst7, e_tup8, e_lst8, e_aIo (m := m), stepO2 (m := m), e]
def N40 : Int := 10000000000000000000000000000000000000000
theorem pw40 : vIc cPow (fun i j => i ^ j.toNat) (.int 10) (.int 40) = some (.int N40) := by kernel_rfl
theorem mu40 : vIc cMul (fun i j => i * j) (.int 2) (.int N40) = some (.int (2 * N40)) := by kernel_rfl
theorem tk40 {m : M} (hm : Good m) : ∃ r m', m__law_take [.ow m, .sh (.int (2 * N40))] = .ok (.sh (.int r)) [m'] ∧ Good m' := by
  obtain ⟨r, m', e, g, _⟩ := take_ok hm (n := 2 * N40) (by decide) (by decide +kernel)
  exact ⟨r, m', e, g⟩
theorem lS1_ok (hm : Good m) (ha : Nm a) (hb : Nm b) (hd : Nm d) (t : Int) : ∃ (a' b' d' : Str) (c' : Int) (m' : M), lS1 [o0, some (.ow m), W, some (.sh (.int t)), some (.sh (argN a b c d)), o5, o6, o7, o8, o9, o10, o11, o12, o13, o14, o15, o16, o17]
    = .ok .nx [o0, some (.ow m'), W, some (.sh (.int t)), some (.sh (argN a' b' c' d')), o5, o6, o7, o8, o9, o10, o11, o12, o13, o14, o15, o16, o17] ∧ Good m' ∧ Nm a' ∧ Nm b' ∧ Nm d' := by
  have q := vEq_int false t 1
  by_cases ht : t = 1
  · subst ht
    obtain ⟨a', m1, e1, g1, h1⟩ := dname_ok hm
    obtain ⟨b', m2, e2, g2, h2⟩ := dname_ok g1
    obtain ⟨r, m3, e3, g3⟩ := tk40 g2
    obtain ⟨d', m4, e4, g4, h4⟩ := dname_ok g3
    refine ⟨a', b', d', r - N40, m4, ?_, g4, h1, h2, h4⟩
    unfold lS1 argN
    simp only [if_false, Bool.false_eq_true, beq_self_eq_true] at q
    simp only [startE, List.map, List.length, List.replicate, e_Seq, e_Asg, e_Ret, e_RetF, e_Expr, e_exprK, e_op, e_op2, e_op1, e_un, e_is, e_B, e_bK, e_Cons, e_consK, e_consK2, e_Nil, e_var, e_C, e_bind, e_bindX, e_bindB, e_lookS, e_lookO, M.toD, e_of, e_asgK, e_gSet, e_stK, e_sqN, e_sqR, e_sqB, e_sqC, e_sNil, e_retK, e_retFK, e_add, e_vI, e_neg, e_fInt, e_fIntB, e_sIf, e_sifT, e_sifF, e_T, e_toB, e_Tru, e_truB, e_And, e_Or, e_andT, e_andF, e_orT, e_orF, e_Not, e_notK, e_AndV, e_OrV, e_andVT, e_andVF, e_orVT, e_orVF, e_NotV, e_notVK, e_If, e_ifT, e_ifF, e_Tup, e_Lst, e_LstF, e_tup0, e_lst0, e_lstF0, e_eqI, e_neI, e_ltI, e_leI, e_gtI, e_geI, e_lenL, e_lenT, e_lenR, e_lenS, e_ixL, e_ixT, at0, at1, at2, at3, e_tupL, e_tupT, e_lstT, e_Own, e_ownK, e_Sub, e_For, e_Items, e_itL, e_itT, e_itR, e_Call, e_CallF, e_aNil, e_aVal, e_aVK, e_aVK2, step0, step1, step2, step3, out0, out1, out2, out3, outX1, outX2, outO1, outO2, outO3, e_onSh, e_onOw, decide_true, decide_false, Bool.not_true, Bool.not_false, List.cons_append, List.nil_append, List.getElem?_cons_zero, List.getElem?_cons_succ, List.set_cons_zero, List.set_cons_succ, Nat.reduceLT, Nat.reduceAdd, Nat.reduceSub, Option.map_some, finF, outsE, e_frz, d_rng7, e_forK, e_tnN, e_tnC, e_tnB, e_tnR, e_whT, e_whF, e_Raise, e_Par, e_parK, e_parK2, e_augK, e_Ch, e_chK1, e_chK2, e_chT, e_chF, e_Try, e_tryO, e_tru, e_While, e_abs, e_max2, e_min2, e_gSq2, e_tup1, e_lst1, e_tup2, e_lst2, e_tup3, e_lst3, e_tup4, e_lst4, e_tup5, e_lst5, e_tup6, e_lst6, e_tup7, e_lst7, e_tup8, e_lst8, e_RaF, e_raF1, e_raF2, e_TryA, e_tryAO, e_asgnK, e_frzX, e_bindX, e_Fld, e_SFld, e_Mk, e_mkK1, e_mkK2, e_mkK3, e_mkK4, e_mkO, e_mkX, e_Met, e_metK2, e_Enum, e_enumL, e_enumT, pairs2, pairs3, pairs4, e_lst9, e_lst10, e_lst11, e_lst12, e_tup9, e_tup10, e_tup11, e_tup12, e_ListF, e_listFT, e_listFL, e_IfB, e_ifBT, e_ifBF, e_notB, e_isB, o_int, o_str, o_tup, o_lst, o_non, o_bl, n_int, n_str, n_tup, n_lst, n_non, n_bl, q, pw40, mu40, e_aIo (m := m), e_aIo (m := m1), e_aIo (m := m2), e_aIo (m := m3), stepO1 (m := m), stepO1 (m := m1), stepO2 (m := m2), stepO1 (m := m3), e1, e2, e3, e4]
  · refine ⟨a, b, d, c, m, ?_, hm, ha, hb, hd⟩
    have hb' : (t == 1) = false := beq_false_of_ne ht
    rw [hb'] at q
    simp only [if_false, Bool.false_eq_true] at q
    unfold lS1
    generalize argN a b c d = A
    simp only [startE, List.map, List.length, List.replicate, e_Seq, e_Asg, e_Ret, e_RetF, e_Expr, e_exprK, e_op, e_op2, e_op1, e_un, e_is, e_B, e_bK, e_Cons, e_consK, e_consK2, e_Nil, e_var, e_C, e_bind, e_bindX, e_bindB, e_lookS, e_lookO, M.toD, e_of, e_asgK, e_gSet, e_stK, e_sqN, e_sqR, e_sqB, e_sqC, e_sNil, e_retK, e_retFK, e_add, e_vI, e_neg, e_fInt, e_fIntB, e_sIf, e_sifT, e_sifF, e_T, e_toB, e_Tru, e_truB, e_And, e_Or, e_andT, e_andF, e_orT, e_orF, e_Not, e_notK, e_AndV, e_OrV, e_andVT, e_andVF, e_orVT, e_orVF, e_NotV, e_notVK, e_If, e_ifT, e_ifF, e_Tup, e_Lst, e_LstF, e_tup0, e_lst0, e_lstF0, e_eqI, e_neI, e_ltI, e_leI, e_gtI, e_geI, e_lenL, e_lenT, e_lenR, e_lenS, e_ixL, e_ixT, at0, at1, at2, at3, e_tupL, e_tupT, e_lstT, e_Own, e_ownK, e_Sub, e_For, e_Items, e_itL, e_itT, e_itR, e_Call, e_CallF, e_aNil, e_aVal, e_aVK, e_aVK2, step0, step1, step2, step3, out0, out1, out2, out3, outX1, outX2, outO1, outO2, outO3, e_onSh, e_onOw, decide_true, decide_false, Bool.not_true, Bool.not_false, List.cons_append, List.nil_append, List.getElem?_cons_zero, List.getElem?_cons_succ, List.set_cons_zero, List.set_cons_succ, Nat.reduceLT, Nat.reduceAdd, Nat.reduceSub, Option.map_some, finF, outsE, e_frz, d_rng7, e_forK, e_tnN, e_tnC, e_tnB, e_tnR, e_whT, e_whF, e_Raise, e_Par, e_parK, e_parK2, e_augK, e_Ch, e_chK1, e_chK2, e_chT, e_chF, e_Try, e_tryO, e_tru, e_While, e_abs, e_max2, e_min2, e_gSq2, e_tup1, e_lst1, e_tup2, e_lst2, e_tup3, e_lst3, e_tup4, e_lst4, e_tup5, e_lst5, e_tup6, e_lst6, e_tup7, e_lst7, e_tup8, e_lst8, e_RaF, e_raF1, e_raF2, e_TryA, e_tryAO, e_asgnK, e_frzX, e_bindX, e_Fld, e_SFld, e_Mk, e_mkK1, e_mkK2, e_mkK3, e_mkK4, e_mkO, e_mkX, e_Met, e_metK2, e_Enum, e_enumL, e_enumT, pairs2, pairs3, pairs4, e_lst9, e_lst10, e_lst11, e_lst12, e_tup9, e_tup10, e_tup11, e_tup12, e_ListF, e_listFT, e_listFL, e_IfB, e_ifBT, e_ifBF, e_notB, e_isB, o_int, o_str, o_tup, o_lst, o_non, o_bl, n_int, n_str, n_tup, n_lst, n_non, n_bl, q]
theorem lS2_ok (ha : Nm a) (hb : Nm b) (hd : Nm d) : lS2 [o0, some (.ow m), W, o3, some (.sh (argN a b c d)), o5, o6, o7, o8, o9, o10, o11, o12, o13, o14, o15, o16, o17]
    = .ok .nx [o0, some (.ow m), W, o3, some (.sh (argN a b c d)), some (.sh (sitN a b c d)), o6, o7, o8, o9, o10, o11, o12, o13, o14, o15, o16, o17] := by
  have e := tried_gen (.inl rfl : D.tup [.str a, .str b, .int c, .str d] = .tup [.str a, .str b, .int c, .str d] ∨ _) (.nam ha) (.nam hb) (.int c) (.nam hd)
  rw [tried_N c ha hb hd] at e
  unfold lS2 argN
  generalize sitN a b c d = S at *
  simp only [startE, List.map, List.length, List.replicate, e_Seq, e_Asg, e_Ret, e_RetF, e_Expr, e_exprK, e_op, e_op2, e_op1, e_un, e_is, e_B, e_bK, e_Cons, e_consK, e_consK2, e_Nil, e_var, e_C, e_bind, e_bindX, e_bindB, e_lookS, e_lookO, M.toD, e_of, e_asgK, e_gSet, e_stK, e_sqN, e_sqR, e_sqB, e_sqC, e_sNil, e_retK, e_retFK, e_add, e_vI, e_neg, e_fInt, e_fIntB, e_sIf, e_sifT, e_sifF, e_T, e_toB, e_Tru, e_truB, e_And, e_Or, e_andT, e_andF, e_orT, e_orF, e_Not, e_notK, e_AndV, e_OrV, e_andVT, e_andVF, e_orVT, e_orVF, e_NotV, e_notVK, e_If, e_ifT, e_ifF, e_Tup, e_Lst, e_LstF, e_tup0, e_lst0, e_lstF0, e_eqI, e_neI, e_ltI, e_leI, e_gtI, e_geI, e_lenL, e_lenT, e_lenR, e_lenS, e_ixL, e_ixT, at0, at1, at2, at3, e_tupL, e_tupT, e_lstT, e_Own, e_ownK, e_Sub, e_For, e_Items, e_itL, e_itT, e_itR, e_Call, e_CallF, e_aNil, e_aVal, e_aVK, e_aVK2, step0, step1, step2, step3, out0, out1, out2, out3, outX1, outX2, outO1, outO2, outO3, e_onSh, e_onOw, decide_true, decide_false, Bool.not_true, Bool.not_false, List.cons_append, List.nil_append, List.getElem?_cons_zero, List.getElem?_cons_succ, List.set_cons_zero, List.set_cons_succ, Nat.reduceLT, Nat.reduceAdd, Nat.reduceSub, Option.map_some, finF, outsE, e_frz, d_rng7, e_forK, e_tnN, e_tnC, e_tnB, e_tnR, e_whT, e_whF, e_Raise, e_Par, e_parK, e_parK2, e_augK, e_Ch, e_chK1, e_chK2, e_chT, e_chF, e_Try, e_tryO, e_tru, e_While, e_abs, e_max2, e_min2, e_gSq2, e_tup1, e_lst1, e_tup2, e_lst2, e_tup3, e_lst3, e_tup4, e_lst4, e_tup5, e_lst5, e_tup6, e_lst6, e_tup7, e_lst7, e_tup8, e_lst8, e]
theorem tup_arg : fTuple [argN a b c d] = some (argN a b c d) := rfl
theorem n_arg (x : D) : vNeO t___eq__ eq_is (argN a b c d) x = vEq true (argN a b c d) x := rfl
theorem o_arg (x : D) : vEqO t___eq__ eq_is (argN a b c d) x = vEq false (argN a b c d) x := rfl
theorem parts_N : m__law_parts [.sh (sitN a b c d)] = .ok (.sh (argN a b c d)) [] := parts_ok _ _ _ _
theorem ne_arg (ha : Nm a) (hb : Nm b) (hd : Nm d) : vEq true (argN a b c d) (argN a b c d) = some (.bl false) := by
  rw [eq4 true c c ha.ok hb.ok hd.ok ha.ok hb.ok hd.ok, eqB_self]; rfl
theorem io_sitN : isOwn io_Situation (sitN a b c d) = some true := io4 _ _ _ _
theorem lS3_ok (ha : Nm a) (hb : Nm b) (hd : Nm d) : lS3 [o0, some (.ow m), W, o3, some (.sh (argN a b c d)), some (.sh (sitN a b c d)), o6, o7, o8, o9, o10, o11, o12, o13, o14, o15, o16, o17]
    = .ok .nx [o0, some (.ow m), W, o3, some (.sh (argN a b c d)), some (.sh (sitN a b c d)), o6, o7, o8, o9, o10, o11, o12, o13, o14, o15, o16, o17] := by
  have e1 := parts_N (a := a) (b := b) (c := c) (d := d)
  have e2 := tup_arg (a := a) (b := b) (c := c) (d := d)
  have e3 := n_arg (a := a) (b := b) (c := c) (d := d) (argN a b c d)
  rw [ne_arg ha hb hd] at e3
  have e4 := io_sitN (a := a) (b := b) (c := c) (d := d)
  have e5 : vFld (fun c => c == 4) "day" (sitN a b c d) = some (.int c) := f_day _ _ _ _
  have e6 := lwhole_ok (.int c)
  rw [show wh (.int c) = true from rfl] at e6
  unfold lS3
  generalize sitN a b c d = S at *
  generalize argN a b c d = A at *
  simp only [startE, List.map, List.length, List.replicate, e_Seq, e_Asg, e_Ret, e_RetF, e_Expr, e_exprK, e_op, e_op2, e_op1, e_un, e_is, e_B, e_bK, e_Cons, e_consK, e_consK2, e_Nil, e_var, e_C, e_bind, e_bindX, e_bindB, e_lookS, e_lookO, M.toD, e_of, e_asgK, e_gSet, e_stK, e_sqN, e_sqR, e_sqB, e_sqC, e_sNil, e_retK, e_retFK, e_add, e_vI, e_neg, e_fInt, e_fIntB, e_sIf, e_sifT, e_sifF, e_T, e_toB, e_Tru, e_truB, e_And, e_Or, e_andT, e_andF, e_orT, e_orF, e_Not, e_notK, e_AndV, e_OrV, e_andVT, e_andVF, e_orVT, e_orVF, e_NotV, e_notVK, e_If, e_ifT, e_ifF, e_Tup, e_Lst, e_LstF, e_tup0, e_lst0, e_lstF0, e_eqI, e_neI, e_ltI, e_leI, e_gtI, e_geI, e_lenL, e_lenT, e_lenR, e_lenS, e_ixL, e_ixT, at0, at1, at2, at3, e_tupL, e_tupT, e_lstT, e_Own, e_ownK, e_Sub, e_For, e_Items, e_itL, e_itT, e_itR, e_Call, e_CallF, e_aNil, e_aVal, e_aVK, e_aVK2, step0, step1, step2, step3, out0, out1, out2, out3, outX1, outX2, outO1, outO2, outO3, e_onSh, e_onOw, decide_true, decide_false, Bool.not_true, Bool.not_false, List.cons_append, List.nil_append, List.getElem?_cons_zero, List.getElem?_cons_succ, List.set_cons_zero, List.set_cons_succ, Nat.reduceLT, Nat.reduceAdd, Nat.reduceSub, Option.map_some, finF, outsE, e_frz, d_rng7, e_forK, e_tnN, e_tnC, e_tnB, e_tnR, e_whT, e_whF, e_Raise, e_Par, e_parK, e_parK2, e_augK, e_Ch, e_chK1, e_chK2, e_chT, e_chF, e_Try, e_tryO, e_tru, e_While, e_abs, e_max2, e_min2, e_gSq2, e_tup1, e_lst1, e_tup2, e_lst2, e_tup3, e_lst3, e_tup4, e_lst4, e_tup5, e_lst5, e_tup6, e_lst6, e_tup7, e_lst7, e_tup8, e_lst8, e_RaF, e_raF1, e_raF2, e_TryA, e_tryAO, e_asgnK, e_frzX, e_bindX, e_Fld, e_SFld, e_Mk, e_mkK1, e_mkK2, e_mkK3, e_mkK4, e_mkO, e_mkX, e_Met, e_metK2, e_Enum, e_enumL, e_enumT, pairs2, pairs3, pairs4, e_lst9, e_lst10, e_lst11, e_lst12, e_tup9, e_tup10, e_tup11, e_tup12, e_ListF, e_listFT, e_listFL, e_IfB, e_ifBT, e_ifBF, e_notB, e_isB, o_int, o_str, o_tup, o_lst, o_non, o_bl, n_int, n_str, n_tup, n_lst, n_non, n_bl, e1, e2, e3, e4, e5, e6]
/-! ### spoilt -/
theorem str_len {x : Str} (h : Nm x) : x.length ≤ 8 := h.hi
theorem len_app (x y : Str) : (x ++ y).length = x.length + y.length := by show (x.cps ++ y.cps).size = _; simp; rfl
theorem cat_ok {x y : Str} (h : Nm x) (hy : y.length ≤ 8) : vAdd (.str x) (.str y) = some (.str (x ++ y)) := e_addS x y (by have := str_len h; rw [sizeLine_eq]; omega)
theorem long_bad {x : Str} (h : Nm x) : Pl (.str (x ++ "abcdefgh")) := by
  have l := len_app x "abcdefgh"
  have l8 : ("abcdefgh" : Str).length = 8 := by decide +kernel
  have h1 : 1 ≤ x.length := h.lo
  have h8 : x.length ≤ 8 := h.hi
  refine .bad ?_ (by rw [sizeLine_eq]; omega)
  unfold nmS
  rw [decide_eq_false (show ¬ (x ++ ("abcdefgh" : Str)).length ≤ 8 by omega)]
  simp
theorem big_bad {x : Str} (h : Nm x) : Pl (.str (x ++ "A")) := by
  have l := len_app x "A"
  have l8 : ("A" : Str).length = 1 := by decide +kernel
  have h8 : x.length ≤ 8 := h.hi
  refine .bad ?_ (by rw [sizeLine_eq]; omega)
  unfold nmS
  have : (x ++ ("A" : Str)).cps.toList.all low = false := by
    show (x.cps ++ ("A" : Str).cps).toList.all low = false
    rw [Array.toList_append, List.all_append, show ("A" : Str).cps.toList.all low = false from by kernel_rfl]
    simp
  rw [this]
  simp
theorem empty_bad : Pl (.str "") := .bad (by kernel_rfl) (by decide +kernel)
theorem aSp_ok (hm : Good m) (ha : Nm a) (hb : Nm b) {e0 e1 e2 e3 : D} (p0 : Pl e0) (p1 : Pl e1) (p2 : Pl e2) (p3 : Pl e3) {s : Int} (s0 : 0 ≤ s) (s1 : s < 4) : ∃ (m' : M) (f0 f1 f2 f3 : D),
    aSp [o0, some (.ow m), W, o3, some (.sh (argN a b c d)), o5, o6, some (.ow (.lst [e0, e1, e2, e3])), some (.sh (.int s)), o9, o10, o11, o12, o13, o14, o15, o16, o17]
      = .ok .nx [o0, some (.ow m'), W, o3, some (.sh (argN a b c d)), o5, o6, some (.ow (.lst [f0, f1, f2, f3])), some (.sh (.int s)), o9, o10, o11, o12, o13, o14, o15, o16, o17] ∧ Good m' ∧ Pl f0 ∧ Pl f1 ∧ Pl f2 ∧ Pl f3 := by
  obtain ⟨x, m1, e1', g1, hx⟩ := dname_ok hm
  obtain ⟨r, m2, e2', g2, r0, r1⟩ := tk (n := 9) g1 (by decide)
  have c1 := cat_ok ha (y := "abcdefgh") (by decide +kernel)
  have c2 := cat_ok hb (y := "A") (by decide +kernel)
  obtain ⟨z, hz, hmem, _⟩ := atL (xs := [.non, .bl true, .str "", .str (a ++ "abcdefgh"), .str x, .int 7, .str (b ++ "A"), .lst [.str a], .int (1 - c)]) (n := 9) rfl r0 r1
  have pz : Pl z := by
    simp only [List.mem_cons, List.not_mem_nil, or_false] at hmem
    rcases hmem with h | h | h | h | h | h | h | h | h <;> rw [h]
    · exact .non
    · exact .bl _
    · exact empty_bad
    · exact long_bad ha
    · exact .nam hx
    · exact .int _
    · exact big_bad hb
    · exact .lst _
    · exact .int _
  have go : ∀ (f : List D), [e0, e1, e2, e3].set s.toNat z = f → aSp [o0, some (.ow m), W, o3, some (.sh (argN a b c d)), o5, o6, some (.ow (.lst [e0, e1, e2, e3])), some (.sh (.int s)), o9, o10, o11, o12, o13, o14, o15, o16, o17]
      = .ok .nx [o0, some (.ow m2), W, o3, some (.sh (argN a b c d)), o5, o6, some (.ow (.lst f)), some (.sh (.int s)), o9, o10, o11, o12, o13, o14, o15, o16, o17] := by
    intro f hf
    have hk := e_subK3 7 s z [o0, some (.ow m2), W, o3, some (.sh (argN a b c d)), o5, o6, some (.ow (.lst [e0, e1, e2, e3])), some (.sh (.int s)), o9, o10, o11, o12, o13, o14, o15, o16, o17] [e0, e1, e2, e3] rfl s0 (by show s < 4; exact s1)
    rw [hf] at hk
    have h4 : ∀ (i : Int) (y : D), L2.atI [D.str a, D.str b, D.int c, D.str d] i = some y → vIxI (argN a b c d) (.int i) = some y := fun _ _ h => h
    have i0 := h4 0 _ (at0 _ _)
    have i1 := h4 1 _ (at1 _ _ _)
    have i2 := h4 2 _ (at2 _ _ _ _)
    unfold aSp
    generalize argN a b c d = A at *
    simp only [startE, List.map, List.length, List.replicate, e_Seq, e_Asg, e_Ret, e_RetF, e_Expr, e_exprK, e_op, e_op2, e_op1, e_un, e_is, e_B, e_bK, e_Cons, e_consK, e_consK2, e_Nil, e_var, e_C, e_bind, e_bindX, e_bindB, e_lookS, e_lookO, M.toD, e_of, e_asgK, e_gSet, e_stK, e_sqN, e_sqR, e_sqB, e_sqC, e_sNil, e_retK, e_retFK, e_add, e_vI, e_neg, e_fInt, e_fIntB, e_sIf, e_sifT, e_sifF, e_T, e_toB, e_Tru, e_truB, e_And, e_Or, e_andT, e_andF, e_orT, e_orF, e_Not, e_notK, e_AndV, e_OrV, e_andVT, e_andVF, e_orVT, e_orVF, e_NotV, e_notVK, e_If, e_ifT, e_ifF, e_Tup, e_Lst, e_LstF, e_tup0, e_lst0, e_lstF0, e_eqI, e_neI, e_ltI, e_leI, e_gtI, e_geI, e_lenL, e_lenT, e_lenR, e_lenS, e_ixL, e_ixT, at0, at1, at2, at3, e_tupL, e_tupT, e_lstT, e_Own, e_ownK, e_Sub, e_For, e_Items, e_itL, e_itT, e_itR, e_Call, e_CallF, e_aNil, e_aVal, e_aVK, e_aVK2, step0, step1, step2, step3, out0, out1, out2, out3, outX1, outX2, outO1, outO2, outO3, e_onSh, e_onOw, decide_true, decide_false, Bool.not_true, Bool.not_false, List.cons_append, List.nil_append, List.getElem?_cons_zero, List.getElem?_cons_succ, List.set_cons_zero, List.set_cons_succ, Nat.reduceLT, Nat.reduceAdd, Nat.reduceSub, Option.map_some, finF, outsE, e_frz, d_rng7, e_forK, e_tnN, e_tnC, e_tnB, e_tnR, e_whT, e_whF, e_Raise, e_Par, e_parK, e_parK2, e_augK, e_Ch, e_chK1, e_chK2, e_chT, e_chF, e_Try, e_tryO, e_tru, e_While, e_abs, e_max2, e_min2, e_gSq2, e_tup1, e_lst1, e_tup2, e_lst2, e_tup3, e_lst3, e_tup4, e_lst4, e_tup5, e_lst5, e_tup6, e_lst6, e_tup7, e_lst7, e_tup8, e_lst8, e_RaF, e_raF1, e_raF2, e_TryA, e_tryAO, e_asgnK, e_frzX, e_bindX, e_Fld, e_SFld, e_Mk, e_mkK1, e_mkK2, e_mkK3, e_mkK4, e_mkO, e_mkX, e_Met, e_metK2, e_Enum, e_enumL, e_enumT, pairs2, pairs3, pairs4, e_lst9, e_lst10, e_lst11, e_lst12, e_tup9, e_tup10, e_tup11, e_tup12, e_ListF, e_listFT, e_listFL, e_IfB, e_ifBT, e_ifBF, e_notB, e_isB, o_int, o_str, o_tup, o_lst, o_non, o_bl, n_int, n_str, n_tup, n_lst, n_non, n_bl, i0, i1, i2, c1, c2, e_aIo (m := m), stepO1 (m := m), e1', e_aIo (m := m1), stepO2 (m := m1), e2', hz, e_subK0 (ds := [e0, e1, e2, e3]), hk]
  have hs : s = 0 ∨ s = 1 ∨ s = 2 ∨ s = 3 := by omega
  rcases hs with rfl | rfl | rfl | rfl
  · exact ⟨m2, z, e1, e2, e3, go _ rfl, g2, pz, p1, p2, p3⟩
  · exact ⟨m2, e0, z, e2, e3, go _ rfl, g2, p0, pz, p2, p3⟩
  · exact ⟨m2, e0, e1, z, e3, go _ rfl, g2, p0, p1, pz, p3⟩
  · exact ⟨m2, e0, e1, e2, z, go _ rfl, g2, p0, p1, p2, pz⟩
end L05
set_option Elab.async false
set_option linter.all false
set_option maxRecDepth 100000
set_option maxHeartbeats 4000000
namespace L05
open PySem L2 Rf
variable {m : M} {ns ps : List Str} {a b d : Str} {c : Int} {o0 o3 o4 o5 o6 o7 o8 o9 o10 o11 o12 o13 o14 o15 o16 o17 W : Option DV}
/-- what a spoilt row is told -/
theorem due_tried {e0 e1 e2 e3 : D} (p0 : Pl e0) (p1 : Pl e1) (p2 : Pl e2) (p3 : Pl e3) : (∃ s : Str, due e0 e1 e2 e3 = .str s ∧ tried e0 e1 e2 e3 = .str s ∧ PyData.strOk s = true) ∨
    (∃ (a b d : Str) (c : Int), due e0 e1 e2 e3 = .non ∧ e0 = .str a ∧ e1 = .str b ∧ e2 = .int c ∧ e3 = .str d ∧ Nm a ∧ Nm b ∧ Nm d) := by
  unfold due tried
  have isN : ∀ {e : D}, Pl e → nm e = true → ∃ x, e = .str x ∧ Nm x := by
    intro e p h
    cases p with
    | nam hx => exact ⟨_, rfl, hx⟩
    | bad hx _ => have : nmS _ = true := h; rw [hx] at this; cases this
    | _ => cases h
  have isW : ∀ {e : D}, Pl e → wh e = true → ∃ x, e = .int x := by
    intro e p h
    cases p with
    | int x => exact ⟨_, rfl⟩
    | _ => cases h
  cases h0 : nm e0 with
  | false => exact .inl ⟨"teller", rfl, rfl, by decide +kernel⟩
  | true =>
    cases h1 : nm e1 with
    | false => exact .inl ⟨"hearer", rfl, rfl, by decide +kernel⟩
    | true =>
      cases h2 : wh e2 with
      | false => exact .inl ⟨"day", rfl, rfl, by decide +kernel⟩
      | true =>
        cases h3 : nm e3 with
        | false => exact .inl ⟨"place", rfl, rfl, by decide +kernel⟩
        | true =>
          obtain ⟨a, rfl, ha⟩ := isN p0 h0
          obtain ⟨b, rfl, hb⟩ := isN p1 h1
          obtain ⟨c, rfl⟩ := isW p2 h2
          obtain ⟨d, rfl, hd⟩ := isN p3 h3
          exact .inr ⟨a, b, d, c, rfl, rfl, rfl, rfl, rfl, ha, hb, hd⟩
theorem notN_str (s : Str) : CK.f .notN (.str s) .non = some (.bl true) := rfl
theorem notN_non : CK.f .notN .non .non = some (.bl false) := rfl
theorem unl_same (p : Bool) : m__law_unlike [.sh (.bl p), .sh (.bl p)] = .ok (.sh (.bl false)) [] := by rw [unlike_ok]; cases p <;> rfl
/-- the tail of a try: due, tried, compared -/
theorem aTail_ok (ha : Nm a) (hb : Nm b) (hd : Nm d) {e0 e1 e2 e3 : D} (p0 : Pl e0) (p1 : Pl e1) (p2 : Pl e2) (p3 : Pl e3) : ∃ (u v : D),
    (sSeq aS2 (sSeq aS3 aS4)) [o0, some (.ow m), W, o3, some (.sh (argN a b c d)), some (.sh (sitN a b c d)), o6, some (.ow (.lst [e0, e1, e2, e3])), o8, o9, o10, o11, o12, o13, o14, o15, o16, o17]
      = .ok .nx [o0, some (.ow m), W, o3, some (.sh (argN a b c d)), some (.sh (sitN a b c d)), o6, some (.sh (.lst [e0, e1, e2, e3])), o8, some (.sh u), some (.sh v), o11, o12, o13, o14, o15, o16, o17] := by
  have f1 := due_ok p0 p1 p2 p3
  have f2 := tried_gen (.inr rfl : D.lst [e0, e1, e2, e3] = .tup [e0, e1, e2, e3] ∨ _) p0 p1 p2 p3
  have s1 : aS2 [o0, some (.ow m), W, o3, some (.sh (argN a b c d)), some (.sh (sitN a b c d)), o6, some (.ow (.lst [e0, e1, e2, e3])), o8, o9, o10, o11, o12, o13, o14, o15, o16, o17]
      = .ok .nx [o0, some (.ow m), W, o3, some (.sh (argN a b c d)), some (.sh (sitN a b c d)), o6, some (.sh (.lst [e0, e1, e2, e3])), o8, some (.sh (due e0 e1 e2 e3)), o10, o11, o12, o13, o14, o15, o16, o17] := by
    unfold aS2
    generalize argN a b c d = A
    generalize sitN a b c d = S
    simp only [startE, List.map, List.length, List.replicate, e_Seq, e_Asg, e_Ret, e_RetF, e_Expr, e_exprK, e_op, e_op2, e_op1, e_un, e_is, e_B, e_bK, e_Cons, e_consK, e_consK2, e_Nil, e_var, e_C, e_bind, e_bindX, e_bindB, e_lookS, e_lookO, M.toD, e_of, e_asgK, e_gSet, e_stK, e_sqN, e_sqR, e_sqB, e_sqC, e_sNil, e_retK, e_retFK, e_add, e_vI, e_neg, e_fInt, e_fIntB, e_sIf, e_sifT, e_sifF, e_T, e_toB, e_Tru, e_truB, e_And, e_Or, e_andT, e_andF, e_orT, e_orF, e_Not, e_notK, e_AndV, e_OrV, e_andVT, e_andVF, e_orVT, e_orVF, e_NotV, e_notVK, e_If, e_ifT, e_ifF, e_Tup, e_Lst, e_LstF, e_tup0, e_lst0, e_lstF0, e_eqI, e_neI, e_ltI, e_leI, e_gtI, e_geI, e_lenL, e_lenT, e_lenR, e_lenS, e_ixL, e_ixT, at0, at1, at2, at3, e_tupL, e_tupT, e_lstT, e_Own, e_ownK, e_Sub, e_For, e_Items, e_itL, e_itT, e_itR, e_Call, e_CallF, e_aNil, e_aVal, e_aVK, e_aVK2, step0, step1, step2, step3, out0, out1, out2, out3, outX1, outX2, outO1, outO2, outO3, e_onSh, e_onOw, decide_true, decide_false, Bool.not_true, Bool.not_false, List.cons_append, List.nil_append, List.getElem?_cons_zero, List.getElem?_cons_succ, List.set_cons_zero, List.set_cons_succ, Nat.reduceLT, Nat.reduceAdd, Nat.reduceSub, Option.map_some, finF, outsE, e_frz, d_rng7, e_forK, e_tnN, e_tnC, e_tnB, e_tnR, e_whT, e_whF, e_Raise, e_Par, e_parK, e_parK2, e_augK, e_Ch, e_chK1, e_chK2, e_chT, e_chF, e_Try, e_tryO, e_tru, e_While, e_abs, e_max2, e_min2, e_gSq2, e_tup1, e_lst1, e_tup2, e_lst2, e_tup3, e_lst3, e_tup4, e_lst4, e_tup5, e_lst5, e_tup6, e_lst6, e_tup7, e_lst7, e_tup8, e_lst8, f1]
  have s2 : aS3 [o0, some (.ow m), W, o3, some (.sh (argN a b c d)), some (.sh (sitN a b c d)), o6, some (.sh (.lst [e0, e1, e2, e3])), o8, some (.sh (due e0 e1 e2 e3)), o10, o11, o12, o13, o14, o15, o16, o17]
      = .ok .nx [o0, some (.ow m), W, o3, some (.sh (argN a b c d)), some (.sh (sitN a b c d)), o6, some (.sh (.lst [e0, e1, e2, e3])), o8, some (.sh (due e0 e1 e2 e3)), some (.sh (tried e0 e1 e2 e3)), o11, o12, o13, o14, o15, o16, o17] := by
    unfold aS3
    generalize argN a b c d = A
    generalize sitN a b c d = S
    generalize due e0 e1 e2 e3 = D1
    generalize tried e0 e1 e2 e3 = D2 at *
    simp only [startE, List.map, List.length, List.replicate, e_Seq, e_Asg, e_Ret, e_RetF, e_Expr, e_exprK, e_op, e_op2, e_op1, e_un, e_is, e_B, e_bK, e_Cons, e_consK, e_consK2, e_Nil, e_var, e_C, e_bind, e_bindX, e_bindB, e_lookS, e_lookO, M.toD, e_of, e_asgK, e_gSet, e_stK, e_sqN, e_sqR, e_sqB, e_sqC, e_sNil, e_retK, e_retFK, e_add, e_vI, e_neg, e_fInt, e_fIntB, e_sIf, e_sifT, e_sifF, e_T, e_toB, e_Tru, e_truB, e_And, e_Or, e_andT, e_andF, e_orT, e_orF, e_Not, e_notK, e_AndV, e_OrV, e_andVT, e_andVF, e_orVT, e_orVF, e_NotV, e_notVK, e_If, e_ifT, e_ifF, e_Tup, e_Lst, e_LstF, e_tup0, e_lst0, e_lstF0, e_eqI, e_neI, e_ltI, e_leI, e_gtI, e_geI, e_lenL, e_lenT, e_lenR, e_lenS, e_ixL, e_ixT, at0, at1, at2, at3, e_tupL, e_tupT, e_lstT, e_Own, e_ownK, e_Sub, e_For, e_Items, e_itL, e_itT, e_itR, e_Call, e_CallF, e_aNil, e_aVal, e_aVK, e_aVK2, step0, step1, step2, step3, out0, out1, out2, out3, outX1, outX2, outO1, outO2, outO3, e_onSh, e_onOw, decide_true, decide_false, Bool.not_true, Bool.not_false, List.cons_append, List.nil_append, List.getElem?_cons_zero, List.getElem?_cons_succ, List.set_cons_zero, List.set_cons_succ, Nat.reduceLT, Nat.reduceAdd, Nat.reduceSub, Option.map_some, finF, outsE, e_frz, d_rng7, e_forK, e_tnN, e_tnC, e_tnB, e_tnR, e_whT, e_whF, e_Raise, e_Par, e_parK, e_parK2, e_augK, e_Ch, e_chK1, e_chK2, e_chT, e_chF, e_Try, e_tryO, e_tru, e_While, e_abs, e_max2, e_min2, e_gSq2, e_tup1, e_lst1, e_tup2, e_lst2, e_tup3, e_lst3, e_tup4, e_lst4, e_tup5, e_lst5, e_tup6, e_lst6, e_tup7, e_lst7, e_tup8, e_lst8, f2]
  refine ⟨due e0 e1 e2 e3, tried e0 e1 e2 e3, ?_⟩
  rw [seq_ok s1, seq_ok s2]
  rcases due_tried p0 p1 p2 p3 with ⟨s, h1, h2, h3⟩ | ⟨a', b', d', c', h1, rfl, rfl, rfl, rfl, ha', hb', hd'⟩
  · rw [h1, h2]
    have q := n_str (tab := t___eq__) (ok := eq_is) s (.str s)
    rw [vEq_strT true h3] at q
    simp only [Bool.not_true] at q
    unfold aS4
    generalize argN a b c d = A
    generalize sitN a b c d = S
    simp only [startE, List.map, List.length, List.replicate, e_Seq, e_Asg, e_Ret, e_RetF, e_Expr, e_exprK, e_op, e_op2, e_op1, e_un, e_is, e_B, e_bK, e_Cons, e_consK, e_consK2, e_Nil, e_var, e_C, e_bind, e_bindX, e_bindB, e_lookS, e_lookO, M.toD, e_of, e_asgK, e_gSet, e_stK, e_sqN, e_sqR, e_sqB, e_sqC, e_sNil, e_retK, e_retFK, e_add, e_vI, e_neg, e_fInt, e_fIntB, e_sIf, e_sifT, e_sifF, e_T, e_toB, e_Tru, e_truB, e_And, e_Or, e_andT, e_andF, e_orT, e_orF, e_Not, e_notK, e_AndV, e_OrV, e_andVT, e_andVF, e_orVT, e_orVF, e_NotV, e_notVK, e_If, e_ifT, e_ifF, e_Tup, e_Lst, e_LstF, e_tup0, e_lst0, e_lstF0, e_eqI, e_neI, e_ltI, e_leI, e_gtI, e_geI, e_lenL, e_lenT, e_lenR, e_lenS, e_ixL, e_ixT, at0, at1, at2, at3, e_tupL, e_tupT, e_lstT, e_Own, e_ownK, e_Sub, e_For, e_Items, e_itL, e_itT, e_itR, e_Call, e_CallF, e_aNil, e_aVal, e_aVK, e_aVK2, step0, step1, step2, step3, out0, out1, out2, out3, outX1, outX2, outO1, outO2, outO3, e_onSh, e_onOw, decide_true, decide_false, Bool.not_true, Bool.not_false, List.cons_append, List.nil_append, List.getElem?_cons_zero, List.getElem?_cons_succ, List.set_cons_zero, List.set_cons_succ, Nat.reduceLT, Nat.reduceAdd, Nat.reduceSub, Option.map_some, finF, outsE, e_frz, d_rng7, e_forK, e_tnN, e_tnC, e_tnB, e_tnR, e_whT, e_whF, e_Raise, e_Par, e_parK, e_parK2, e_augK, e_Ch, e_chK1, e_chK2, e_chT, e_chF, e_Try, e_tryO, e_tru, e_While, e_abs, e_max2, e_min2, e_gSq2, e_tup1, e_lst1, e_tup2, e_lst2, e_tup3, e_lst3, e_tup4, e_lst4, e_tup5, e_lst5, e_tup6, e_lst6, e_tup7, e_lst7, e_tup8, e_lst8, e_RaF, e_raF1, e_raF2, e_TryA, e_tryAO, e_asgnK, e_frzX, e_bindX, e_Fld, e_SFld, e_Mk, e_mkK1, e_mkK2, e_mkK3, e_mkK4, e_mkO, e_mkX, e_Met, e_metK2, e_Enum, e_enumL, e_enumT, pairs2, pairs3, pairs4, e_lst9, e_lst10, e_lst11, e_lst12, e_tup9, e_tup10, e_tup11, e_tup12, e_ListF, e_listFT, e_listFL, e_IfB, e_ifBT, e_ifBF, e_notB, e_isB, o_int, o_str, o_tup, o_lst, o_non, o_bl, n_int, n_str, n_tup, n_lst, n_non, n_bl, notN_str, vEq_strT true h3]
  · rw [h1, tried_N c' ha' hb' hd']
    have e1 := parts_N (a := a') (b := b') (c := c') (d := d')
    have e2 : fTuple [.lst [.str a', .str b', .int c', .str d']] = some (argN a' b' c' d') := rfl
    have e3 := n_arg (a := a') (b := b') (c := c') (d := d') (argN a' b' c' d')
    rw [ne_arg ha' hb' hd'] at e3
    have e4 := io_sitN (a := a') (b := b') (c := c') (d := d')
    have e5 := o_sit c' c ha' hb' hd' ha hb hd
    have e6 := o_arg (a := a') (b := b') (c := c') (d := d') (argN a b c d)
    rw [eq4 false c' c ha'.ok hb'.ok hd'.ok ha.ok hb.ok hd.ok] at e6
    simp only [if_false, Bool.false_eq_true] at e6
    have e7 := unl_same (eqB a' b' c' d' a b c d)
    have e8 := tup_arg (a := a) (b := b) (c := c) (d := d)
    generalize eqB a' b' c' d' a b c d = E at *
    unfold aS4
    generalize argN a b c d = A at *
    generalize sitN a b c d = S at *
    generalize argN a' b' c' d' = A' at *
    generalize sitN a' b' c' d' = S' at *
    simp only [startE, List.map, List.length, List.replicate, e_Seq, e_Asg, e_Ret, e_RetF, e_Expr, e_exprK, e_op, e_op2, e_op1, e_un, e_is, e_B, e_bK, e_Cons, e_consK, e_consK2, e_Nil, e_var, e_C, e_bind, e_bindX, e_bindB, e_lookS, e_lookO, M.toD, e_of, e_asgK, e_gSet, e_stK, e_sqN, e_sqR, e_sqB, e_sqC, e_sNil, e_retK, e_retFK, e_add, e_vI, e_neg, e_fInt, e_fIntB, e_sIf, e_sifT, e_sifF, e_T, e_toB, e_Tru, e_truB, e_And, e_Or, e_andT, e_andF, e_orT, e_orF, e_Not, e_notK, e_AndV, e_OrV, e_andVT, e_andVF, e_orVT, e_orVF, e_NotV, e_notVK, e_If, e_ifT, e_ifF, e_Tup, e_Lst, e_LstF, e_tup0, e_lst0, e_lstF0, e_eqI, e_neI, e_ltI, e_leI, e_gtI, e_geI, e_lenL, e_lenT, e_lenR, e_lenS, e_ixL, e_ixT, at0, at1, at2, at3, e_tupL, e_tupT, e_lstT, e_Own, e_ownK, e_Sub, e_For, e_Items, e_itL, e_itT, e_itR, e_Call, e_CallF, e_aNil, e_aVal, e_aVK, e_aVK2, step0, step1, step2, step3, out0, out1, out2, out3, outX1, outX2, outO1, outO2, outO3, e_onSh, e_onOw, decide_true, decide_false, Bool.not_true, Bool.not_false, List.cons_append, List.nil_append, List.getElem?_cons_zero, List.getElem?_cons_succ, List.set_cons_zero, List.set_cons_succ, Nat.reduceLT, Nat.reduceAdd, Nat.reduceSub, Option.map_some, finF, outsE, e_frz, d_rng7, e_forK, e_tnN, e_tnC, e_tnB, e_tnR, e_whT, e_whF, e_Raise, e_Par, e_parK, e_parK2, e_augK, e_Ch, e_chK1, e_chK2, e_chT, e_chF, e_Try, e_tryO, e_tru, e_While, e_abs, e_max2, e_min2, e_gSq2, e_tup1, e_lst1, e_tup2, e_lst2, e_tup3, e_lst3, e_tup4, e_lst4, e_tup5, e_lst5, e_tup6, e_lst6, e_tup7, e_lst7, e_tup8, e_lst8, e_RaF, e_raF1, e_raF2, e_TryA, e_tryAO, e_asgnK, e_frzX, e_bindX, e_Fld, e_SFld, e_Mk, e_mkK1, e_mkK2, e_mkK3, e_mkK4, e_mkO, e_mkX, e_Met, e_metK2, e_Enum, e_enumL, e_enumT, pairs2, pairs3, pairs4, e_lst9, e_lst10, e_lst11, e_lst12, e_tup9, e_tup10, e_tup11, e_tup12, e_ListF, e_listFT, e_listFL, e_IfB, e_ifBT, e_ifBF, e_notB, e_isB, o_int, o_str, o_tup, o_lst, o_non, o_bl, n_int, n_str, n_tup, n_lst, n_non, n_bl, notN_non, e1, e2, e3, e4, e5, e6, e7, e8]
theorem aS0_ok : aS0 [o0, some (.ow m), W, o3, some (.sh (argN a b c d)), some (.sh (sitN a b c d)), o6, o7, o8, o9, o10, o11, o12, o13, o14, o15, o16, o17]
    = .ok .nx [o0, some (.ow m), W, o3, some (.sh (argN a b c d)), some (.sh (sitN a b c d)), o6, some (.ow (.lst [.str a, .str b, .int c, .str d])), o8, o9, o10, o11, o12, o13, o14, o15, o16, o17] := rfl
theorem aS1_ok (hm : Good m) (ha : Nm a) (hb : Nm b) (hd : Nm d) : ∃ (m' : M) (f0 f1 f2 f3 : D) (o8' : Option DV), aS1 [o0, some (.ow m), W, o3, some (.sh (argN a b c d)), o5, o6, some (.ow (.lst [.str a, .str b, .int c, .str d])), o8, o9, o10, o11, o12, o13, o14, o15, o16, o17]
    = .ok .nx [o0, some (.ow m'), W, o3, some (.sh (argN a b c d)), o5, o6, some (.ow (.lst [f0, f1, f2, f3])), o8', o9, o10, o11, o12, o13, o14, o15, o16, o17] ∧ Good m' ∧ Pl f0 ∧ Pl f1 ∧ Pl f2 ∧ Pl f3 := by
  obtain ⟨r, m1, e1, g1, r0, r1⟩ := tk (n := 4) hm (by decide)
  obtain ⟨s, m2, e2, g2, s0, s1⟩ := tk (n := 4) g1 (by decide)
  obtain ⟨m3, f0, f1, f2, f3, q1, g3, h0, h1, h2, h3⟩ := aSp_ok (o0 := o0) (W := W) (o3 := o3) (o5 := o5) (o6 := o6) (o9 := o9) (o10 := o10) (o11 := o11) (o12 := o12) (o13 := o13) (o14 := o14) (o15 := o15) (o16 := o16) (o17 := o17) (c := c) (d := d) g2 ha hb (.nam ha) (.nam hb) (.int c) (.nam hd) r0 r1
  obtain ⟨m4, u0, u1, u2, u3, q2, g4, k0, k1, k2, k3⟩ := aSp_ok (o0 := o0) (W := W) (o3 := o3) (o5 := o5) (o6 := o6) (o9 := o9) (o10 := o10) (o11 := o11) (o12 := o12) (o13 := o13) (o14 := o14) (o15 := o15) (o16 := o16) (o17 := o17) (c := c) (d := d) g3 ha hb h0 h1 h2 h3 s0 s1
  refine ⟨m4, u0, u1, u2, u3, some (.sh (.int s)), ?_, g4, k0, k1, k2, k3⟩
  unfold aS1
  generalize argN a b c d = A at *
  generalize aSp = sp at *
  simp only [startE, List.map, List.length, List.replicate, e_Seq, e_Asg, e_Ret, e_RetF, e_Expr, e_exprK, e_op, e_op2, e_op1, e_un, e_is, e_B, e_bK, e_Cons, e_consK, e_consK2, e_Nil, e_var, e_C, e_bind, e_bindX, e_bindB, e_lookS, e_lookO, M.toD, e_of, e_asgK, e_gSet, e_stK, e_sqN, e_sqR, e_sqB, e_sqC, e_sNil, e_retK, e_retFK, e_add, e_vI, e_neg, e_fInt, e_fIntB, e_sIf, e_sifT, e_sifF, e_T, e_toB, e_Tru, e_truB, e_And, e_Or, e_andT, e_andF, e_orT, e_orF, e_Not, e_notK, e_AndV, e_OrV, e_andVT, e_andVF, e_orVT, e_orVF, e_NotV, e_notVK, e_If, e_ifT, e_ifF, e_Tup, e_Lst, e_LstF, e_tup0, e_lst0, e_lstF0, e_eqI, e_neI, e_ltI, e_leI, e_gtI, e_geI, e_lenL, e_lenT, e_lenR, e_lenS, e_ixL, e_ixT, at0, at1, at2, at3, e_tupL, e_tupT, e_lstT, e_Own, e_ownK, e_Sub, e_For, e_Items, e_itL, e_itT, e_itR, e_Call, e_CallF, e_aNil, e_aVal, e_aVK, e_aVK2, step0, step1, step2, step3, out0, out1, out2, out3, outX1, outX2, outO1, outO2, outO3, e_onSh, e_onOw, decide_true, decide_false, Bool.not_true, Bool.not_false, List.cons_append, List.nil_append, List.getElem?_cons_zero, List.getElem?_cons_succ, List.set_cons_zero, List.set_cons_succ, Nat.reduceLT, Nat.reduceAdd, Nat.reduceSub, Option.map_some, finF, outsE, e_frz, d_rng7, e_forK, e_tnN, e_tnC, e_tnB, e_tnR, e_whT, e_whF, e_Raise, e_Par, e_parK, e_parK2, e_augK, e_Ch, e_chK1, e_chK2, e_chT, e_chF, e_Try, e_tryO, e_tru, e_While, e_abs, e_max2, e_min2, e_gSq2, e_tup1, e_lst1, e_tup2, e_lst2, e_tup3, e_lst3, e_tup4, e_lst4, e_tup5, e_lst5, e_tup6, e_lst6, e_tup7, e_lst7, e_tup8, e_lst8, e_RaF, e_raF1, e_raF2, e_TryA, e_tryAO, e_asgnK, e_frzX, e_bindX, e_Fld, e_SFld, e_Mk, e_mkK1, e_mkK2, e_mkK3, e_mkK4, e_mkO, e_mkX, e_Met, e_metK2, e_Enum, e_enumL, e_enumT, pairs2, pairs3, pairs4, e_lst9, e_lst10, e_lst11, e_lst12, e_tup9, e_tup10, e_tup11, e_tup12, e_ListF, e_listFT, e_listFL, e_IfB, e_ifBT, e_ifBF, e_notB, e_isB, o_int, o_str, o_tup, o_lst, o_non, o_bl, n_int, n_str, n_tup, n_lst, n_non, n_bl, e_aIo (m := m), stepO2 (m := m), e1, e_aIo (m := m1), stepO2 (m := m1), e2, forL_set, q1, q2, forL_nil]
theorem aB_ok (hm : Good m) (ha : Nm a) (hb : Nm b) (hd : Nm d) : ∃ (m' : M) (o7' o8' o9' o10' : Option DV), aB [o0, some (.ow m), W, o3, some (.sh (argN a b c d)), some (.sh (sitN a b c d)), o6, o7, o8, o9, o10, o11, o12, o13, o14, o15, o16, o17]
    = .ok .nx [o0, some (.ow m'), W, o3, some (.sh (argN a b c d)), some (.sh (sitN a b c d)), o6, o7', o8', o9', o10', o11, o12, o13, o14, o15, o16, o17] ∧ Good m' := by
  obtain ⟨m1, f0, f1, f2, f3, o8', q1, g1, h0, h1, h2, h3⟩ := aS1_ok (o0 := o0) (W := W) (o3 := o3) (o5 := some (.sh (sitN a b c d))) (o6 := o6) (o8 := o8) (o9 := o9) (o10 := o10) (o11 := o11) (o12 := o12) (o13 := o13) (o14 := o14) (o15 := o15) (o16 := o16) (o17 := o17) (c := c) hm ha hb hd
  obtain ⟨u, v, q2⟩ := aTail_ok (m := m1) (o0 := o0) (W := W) (o3 := o3) (o6 := o6) (o8 := o8') (o9 := o9) (o10 := o10) (o11 := o11) (o12 := o12) (o13 := o13) (o14 := o14) (o15 := o15) (o16 := o16) (o17 := o17) (c := c) ha hb hd h0 h1 h2 h3
  rw [show aB = sSeq aS0 (sSeq aS1 (sSeq aS2 (sSeq aS3 aS4))) from rfl, seq_ok aS0_ok, seq_ok q1]
  exact ⟨m1, _, _, _, _, q2, g1⟩
theorem lS4_ok (hm : Good m) (ha : Nm a) (hb : Nm b) (hd : Nm d) : ∃ (m' : M) (o6' o7' o8' o9' o10' : Option DV), lS4 [o0, some (.ow m), W, o3, some (.sh (argN a b c d)), some (.sh (sitN a b c d)), o6, o7, o8, o9, o10, o11, o12, o13, o14, o15, o16, o17]
    = .ok .nx [o0, some (.ow m'), W, o3, some (.sh (argN a b c d)), some (.sh (sitN a b c d)), o6', o7', o8', o9', o10', o11, o12, o13, o14, o15, o16, o17] ∧ Good m' := by
  obtain ⟨ρ', e, m', o6', o7', o8', o9', o10', g, hρ⟩ := for_inv (g := gSet 6) (body := aB) (fun ρ => ∃ (m : M) (o6 o7 o8 o9 o10 : Option DV), Good m ∧ ρ = [o0, some (.ow m), W, o3, some (.sh (argN a b c d)), some (.sh (sitN a b c d)), o6, o7, o8, o9, o10, o11, o12, o13, o14, o15, o16, o17])
    (rng 0 3) [o0, some (.ow m), W, o3, some (.sh (argN a b c d)), some (.sh (sitN a b c d)), o6, o7, o8, o9, o10, o11, o12, o13, o14, o15, o16, o17] (fun x hx ρ hp => by
      obtain ⟨m, o6, o7, o8, o9, o10, g, rfl⟩ := hp
      obtain ⟨m', o7', o8', o9', o10', e, g'⟩ := aB_ok (o0 := o0) (W := W) (o3 := o3) (o6 := some (.sh x)) (o7 := o7) (o8 := o8) (o9 := o9) (o10 := o10) (o11 := o11) (o12 := o12) (o13 := o13) (o14 := o14) (o15 := o15) (o16 := o16) (o17 := o17) (c := c) g ha hb hd
      exact ⟨_, _, rfl, .inl e, _, _, _, _, _, _, g', rfl⟩) ⟨m, _, _, _, _, _, hm, rfl⟩
  subst hρ
  refine ⟨m', o6', o7', o8', o9', o10', ?_, g⟩
  have r3 : rngOk 3 = true := by decide
  have e1 := fun ρ => e_rng1K 3 ρ r3
  unfold lS4
  generalize rng 0 3 = ds at *
  rw [e_For, e_Rng1, e_C, e_bind, e1, e_bind, e_forK]
  exact e
end L05
set_option Elab.async false
set_option linter.all false
set_option maxRecDepth 100000
set_option maxHeartbeats 4000000
namespace L05
open PySem L2 Rf
variable {m : M} {ns ps : List Str} {a b d : Str} {c : Int} {o0 o3 o4 o5 o6 o7 o8 o9 o10 o11 o12 o13 o14 o15 o16 o17 W : Option DV}
theorem ix_arg (i : Int) (y : D) (h : L2.atI [D.str a, D.str b, D.int c, D.str d] i = some y) : vIxI (argN a b c d) (.int i) = some y := h
theorem ix0 : vIxI (argN a b c d) (.int 0) = some (.str a) := at0 _ _
theorem ix1 : vIxI (argN a b c d) (.int 1) = some (.str b) := at1 _ _ _
theorem ix2 : vIxI (argN a b c d) (.int 2) = some (.int c) := at2 _ _ _ _
theorem ix3 : vIxI (argN a b c d) (.int 3) = some (.str d) := at3 _ _ _ _ _
theorem lS5_ok (hm : Good m) : ∃ (m' : M) (k : Int), lS5 [o0, some (.ow m), W, o3, o4, o5, o6, o7, o8, o9, o10, o11, o12, o13, o14, o15, o16, o17]
    = .ok .nx [o0, some (.ow m'), W, o3, o4, o5, o6, o7, o8, o9, o10, some (.sh (.int k)), o12, o13, o14, o15, o16, o17] ∧ Good m' := by
  obtain ⟨r, m1, e1, g1, r0, r1⟩ := tk (n := 41) hm (by decide)
  obtain ⟨s, m2, e2, g2⟩ := tk40 g1
  obtain ⟨u, m3, e3, g3, u0, u1⟩ := tk (n := 3) g2 (by decide)
  have hu : u = 0 ∨ u = 1 ∨ u = 2 := by omega
  have go : ∀ k, vIxI (.lst [.int (r - 20), .int (s - N40), .int 0]) (.int u) = some (.int k) → lS5 [o0, some (.ow m), W, o3, o4, o5, o6, o7, o8, o9, o10, o11, o12, o13, o14, o15, o16, o17]
    = .ok .nx [o0, some (.ow m3), W, o3, o4, o5, o6, o7, o8, o9, o10, some (.sh (.int k)), o12, o13, o14, o15, o16, o17] := by
    intro k hk
    unfold lS5
    simp only [startE, List.map, List.length, List.replicate, e_Seq, e_Asg, e_Ret, e_RetF, e_Expr, e_exprK, e_op, e_op2, e_op1, e_un, e_is, e_B, e_bK, e_Cons, e_consK, e_consK2, e_Nil, e_var, e_C, e_bind, e_bindX, e_bindB, e_lookS, e_lookO, M.toD, e_of, e_asgK, e_gSet, e_stK, e_sqN, e_sqR, e_sqB, e_sqC, e_sNil, e_retK, e_retFK, e_add, e_vI, e_neg, e_fInt, e_fIntB, e_sIf, e_sifT, e_sifF, e_T, e_toB, e_Tru, e_truB, e_And, e_Or, e_andT, e_andF, e_orT, e_orF, e_Not, e_notK, e_AndV, e_OrV, e_andVT, e_andVF, e_orVT, e_orVF, e_NotV, e_notVK, e_If, e_ifT, e_ifF, e_Tup, e_Lst, e_LstF, e_tup0, e_lst0, e_lstF0, e_eqI, e_neI, e_ltI, e_leI, e_gtI, e_geI, e_lenL, e_lenT, e_lenR, e_lenS, e_ixL, e_ixT, at0, at1, at2, at3, e_tupL, e_tupT, e_lstT, e_Own, e_ownK, e_Sub, e_For, e_Items, e_itL, e_itT, e_itR, e_Call, e_CallF, e_aNil, e_aVal, e_aVK, e_aVK2, step0, step1, step2, step3, out0, out1, out2, out3, outX1, outX2, outO1, outO2, outO3, e_onSh, e_onOw, decide_true, decide_false, Bool.not_true, Bool.not_false, List.cons_append, List.nil_append, List.getElem?_cons_zero, List.getElem?_cons_succ, List.set_cons_zero, List.set_cons_succ, Nat.reduceLT, Nat.reduceAdd, Nat.reduceSub, Option.map_some, finF, outsE, e_frz, d_rng7, e_forK, e_tnN, e_tnC, e_tnB, e_tnR, e_whT, e_whF, e_Raise, e_Par, e_parK, e_parK2, e_augK, e_Ch, e_chK1, e_chK2, e_chT, e_chF, e_Try, e_tryO, e_tru, e_While, e_abs, e_max2, e_min2, e_gSq2, e_tup1, e_lst1, e_tup2, e_lst2, e_tup3, e_lst3, e_tup4, e_lst4, e_tup5, e_lst5, e_tup6, e_lst6, e_tup7, e_lst7, e_tup8, e_lst8, e_RaF, e_raF1, e_raF2, e_TryA, e_tryAO, e_asgnK, e_frzX, e_bindX, e_Fld, e_SFld, e_Mk, e_mkK1, e_mkK2, e_mkK3, e_mkK4, e_mkO, e_mkX, e_Met, e_metK2, e_Enum, e_enumL, e_enumT, pairs2, pairs3, pairs4, e_lst9, e_lst10, e_lst11, e_lst12, e_tup9, e_tup10, e_tup11, e_tup12, e_ListF, e_listFT, e_listFL, e_IfB, e_ifBT, e_ifBF, e_notB, e_isB, o_int, o_str, o_tup, o_lst, o_non, o_bl, n_int, n_str, n_tup, n_lst, n_non, n_bl, pw40, mu40, e_aIo (m := m), stepO2 (m := m), e1, e_aIo (m := m1), stepO2 (m := m1), e2, e_aIo (m := m2), stepO2 (m := m2), e3, show L2.atI [D.int (r - 20), D.int (s - N40), D.int 0] u = some (.int k) from hk]
  rcases hu with rfl | rfl | rfl
  · exact ⟨m3, _, go _ (at0 _ _), g3⟩
  · exact ⟨m3, _, go _ (at1 _ _ _), g3⟩
  · exact ⟨m3, _, go _ (at2 _ _ _ _), g3⟩
theorem lS6_ok (ha : Nm a) (hb : Nm b) (hd : Nm d) {k : Int} : lS6 [o0, o3, W, o4, o5, some (.sh (sitN a b c d)), o6, o7, o8, o9, o10, some (.sh (.int k)), o12, o13, o14, o15, o16, o17]
    = .ok .nx [o0, o3, W, o4, o5, some (.sh (sitN a b c d)), o6, o7, o8, o9, o10, some (.sh (.int k)), some (.sh (sitN a b (c + k) d)), o13, o14, o15, o16, o17] := by
  have e := moved_int c k ha hb hd
  unfold lS6
  generalize sitN a b (c + k) d = S' at *
  generalize sitN a b c d = S at *
  simp only [startE, List.map, List.length, List.replicate, e_Seq, e_Asg, e_Ret, e_RetF, e_Expr, e_exprK, e_op, e_op2, e_op1, e_un, e_is, e_B, e_bK, e_Cons, e_consK, e_consK2, e_Nil, e_var, e_C, e_bind, e_bindX, e_bindB, e_lookS, e_lookO, M.toD, e_of, e_asgK, e_gSet, e_stK, e_sqN, e_sqR, e_sqB, e_sqC, e_sNil, e_retK, e_retFK, e_add, e_vI, e_neg, e_fInt, e_fIntB, e_sIf, e_sifT, e_sifF, e_T, e_toB, e_Tru, e_truB, e_And, e_Or, e_andT, e_andF, e_orT, e_orF, e_Not, e_notK, e_AndV, e_OrV, e_andVT, e_andVF, e_orVT, e_orVF, e_NotV, e_notVK, e_If, e_ifT, e_ifF, e_Tup, e_Lst, e_LstF, e_tup0, e_lst0, e_lstF0, e_eqI, e_neI, e_ltI, e_leI, e_gtI, e_geI, e_lenL, e_lenT, e_lenR, e_lenS, e_ixL, e_ixT, at0, at1, at2, at3, e_tupL, e_tupT, e_lstT, e_Own, e_ownK, e_Sub, e_For, e_Items, e_itL, e_itT, e_itR, e_Call, e_CallF, e_aNil, e_aVal, e_aVK, e_aVK2, step0, step1, step2, step3, out0, out1, out2, out3, outX1, outX2, outO1, outO2, outO3, e_onSh, e_onOw, decide_true, decide_false, Bool.not_true, Bool.not_false, List.cons_append, List.nil_append, List.getElem?_cons_zero, List.getElem?_cons_succ, List.set_cons_zero, List.set_cons_succ, Nat.reduceLT, Nat.reduceAdd, Nat.reduceSub, Option.map_some, finF, outsE, e_frz, d_rng7, e_forK, e_tnN, e_tnC, e_tnB, e_tnR, e_whT, e_whF, e_Raise, e_Par, e_parK, e_parK2, e_augK, e_Ch, e_chK1, e_chK2, e_chT, e_chF, e_Try, e_tryO, e_tru, e_While, e_abs, e_max2, e_min2, e_gSq2, e_tup1, e_lst1, e_tup2, e_lst2, e_tup3, e_lst3, e_tup4, e_lst4, e_tup5, e_lst5, e_tup6, e_lst6, e_tup7, e_lst7, e_tup8, e_lst8, e]
theorem lS7_ok (ha : Nm a) (hb : Nm b) (hd : Nm d) {k : Int} : lS7 [o0, o3, W, o6, some (.sh (argN a b c d)), some (.sh (sitN a b c d)), o5, o7, o8, o9, o10, some (.sh (.int k)), some (.sh (sitN a b (c + k) d)), o13, o14, o15, o16, o17]
    = .ok .nx [o0, o3, W, o6, some (.sh (argN a b c d)), some (.sh (sitN a b c d)), o5, o7, o8, o9, o10, some (.sh (.int k)), some (.sh (sitN a b (c + k) d)), o13, o14, o15, o16, o17] := by
  have e1 := parts_N (a := a) (b := b) (c := c + k) (d := d)
  have e2 := n_arg (a := a) (b := b) (c := c + k) (d := d) (.tup [.str a, .str b, .int (c + k), .str d])
  have e2' : vEq true (argN a b (c + k) d) (.tup [.str a, .str b, .int (c + k), .str d]) = some (.bl false) := ne_arg ha hb hd
  rw [e2'] at e2
  have e3 := moved_int (c + k) (-k) ha hb hd
  rw [show c + k + -k = c by omega] at e3
  have e4 := n_sit c c ha hb hd ha hb hd
  rw [eqB_self] at e4
  simp only [Bool.not_true] at e4
  have i0 := ix0 (a := a) (b := b) (c := c) (d := d)
  have i1 := ix1 (a := a) (b := b) (c := c) (d := d)
  have i2 := ix2 (a := a) (b := b) (c := c) (d := d)
  have i3 := ix3 (a := a) (b := b) (c := c) (d := d)
  unfold lS7
  generalize sitN a b (c + k) d = S' at *
  generalize sitN a b c d = S at *
  generalize argN a b (c + k) d = A' at *
  generalize argN a b c d = A at *
  simp only [startE, List.map, List.length, List.replicate, e_Seq, e_Asg, e_Ret, e_RetF, e_Expr, e_exprK, e_op, e_op2, e_op1, e_un, e_is, e_B, e_bK, e_Cons, e_consK, e_consK2, e_Nil, e_var, e_C, e_bind, e_bindX, e_bindB, e_lookS, e_lookO, M.toD, e_of, e_asgK, e_gSet, e_stK, e_sqN, e_sqR, e_sqB, e_sqC, e_sNil, e_retK, e_retFK, e_add, e_vI, e_neg, e_fInt, e_fIntB, e_sIf, e_sifT, e_sifF, e_T, e_toB, e_Tru, e_truB, e_And, e_Or, e_andT, e_andF, e_orT, e_orF, e_Not, e_notK, e_AndV, e_OrV, e_andVT, e_andVF, e_orVT, e_orVF, e_NotV, e_notVK, e_If, e_ifT, e_ifF, e_Tup, e_Lst, e_LstF, e_tup0, e_lst0, e_lstF0, e_eqI, e_neI, e_ltI, e_leI, e_gtI, e_geI, e_lenL, e_lenT, e_lenR, e_lenS, e_ixL, e_ixT, at0, at1, at2, at3, e_tupL, e_tupT, e_lstT, e_Own, e_ownK, e_Sub, e_For, e_Items, e_itL, e_itT, e_itR, e_Call, e_CallF, e_aNil, e_aVal, e_aVK, e_aVK2, step0, step1, step2, step3, out0, out1, out2, out3, outX1, outX2, outO1, outO2, outO3, e_onSh, e_onOw, decide_true, decide_false, Bool.not_true, Bool.not_false, List.cons_append, List.nil_append, List.getElem?_cons_zero, List.getElem?_cons_succ, List.set_cons_zero, List.set_cons_succ, Nat.reduceLT, Nat.reduceAdd, Nat.reduceSub, Option.map_some, finF, outsE, e_frz, d_rng7, e_forK, e_tnN, e_tnC, e_tnB, e_tnR, e_whT, e_whF, e_Raise, e_Par, e_parK, e_parK2, e_augK, e_Ch, e_chK1, e_chK2, e_chT, e_chF, e_Try, e_tryO, e_tru, e_While, e_abs, e_max2, e_min2, e_gSq2, e_tup1, e_lst1, e_tup2, e_lst2, e_tup3, e_lst3, e_tup4, e_lst4, e_tup5, e_lst5, e_tup6, e_lst6, e_tup7, e_lst7, e_tup8, e_lst8, e_RaF, e_raF1, e_raF2, e_TryA, e_tryAO, e_asgnK, e_frzX, e_bindX, e_Fld, e_SFld, e_Mk, e_mkK1, e_mkK2, e_mkK3, e_mkK4, e_mkO, e_mkX, e_Met, e_metK2, e_Enum, e_enumL, e_enumT, pairs2, pairs3, pairs4, e_lst9, e_lst10, e_lst11, e_lst12, e_tup9, e_tup10, e_tup11, e_tup12, e_ListF, e_listFT, e_listFL, e_IfB, e_ifBT, e_ifBF, e_notB, e_isB, o_int, o_str, o_tup, o_lst, o_non, o_bl, n_int, n_str, n_tup, n_lst, n_non, n_bl, e1, i0, i1, i2, i3, e2, e3, e4]
theorem one_bad : Pl (.str "1") := .bad (by kernel_rfl) (by decide +kernel)
theorem lS8_ok (hm : Good m) : ∃ m', lS8 [o0, some (.ow m), W, o6, o4, some (.sh (sitN a b c d)), o5, o7, o8, o9, o10, o11, o12, o13, o14, o15, o16, o17]
    = .ok .nx [o0, some (.ow m'), W, o6, o4, some (.sh (sitN a b c d)), o5, o7, o8, o9, o10, o11, o12, o13, o14, o15, o16, o17] ∧ Good m' := by
  obtain ⟨r, m1, e1, g1, r0, r1⟩ := tk (n := 4) hm (by decide)
  obtain ⟨z, hz, hmem, _⟩ := atL (xs := [.non, .bl true, .str "1", .tup [.int 1]]) (n := 4) rfl r0 r1
  have hz' : Pl z ∧ wh z = false := by
    simp only [List.mem_cons, List.not_mem_nil, or_false] at hmem
    rcases hmem with h | h | h | h <;> rw [h]
    · exact ⟨.non, rfl⟩
    · exact ⟨.bl _, rfl⟩
    · exact ⟨one_bad, rfl⟩
    · exact ⟨.tup _, rfl⟩
  have e2 : m__law_moved [.sh (sitN a b c d), .sh z] = .ok (.sh (.str "day")) [] := moved_bad hz'.1 hz'.2
  have q : vEq true (.str "day") (.str "day") = some (.bl false) := by kernel_rfl
  refine ⟨m1, ?_, g1⟩
  unfold lS8
  generalize sitN a b c d = S at *
  simp only [startE, List.map, List.length, List.replicate, e_Seq, e_Asg, e_Ret, e_RetF, e_Expr, e_exprK, e_op, e_op2, e_op1, e_un, e_is, e_B, e_bK, e_Cons, e_consK, e_consK2, e_Nil, e_var, e_C, e_bind, e_bindX, e_bindB, e_lookS, e_lookO, M.toD, e_of, e_asgK, e_gSet, e_stK, e_sqN, e_sqR, e_sqB, e_sqC, e_sNil, e_retK, e_retFK, e_add, e_vI, e_neg, e_fInt, e_fIntB, e_sIf, e_sifT, e_sifF, e_T, e_toB, e_Tru, e_truB, e_And, e_Or, e_andT, e_andF, e_orT, e_orF, e_Not, e_notK, e_AndV, e_OrV, e_andVT, e_andVF, e_orVT, e_orVF, e_NotV, e_notVK, e_If, e_ifT, e_ifF, e_Tup, e_Lst, e_LstF, e_tup0, e_lst0, e_lstF0, e_eqI, e_neI, e_ltI, e_leI, e_gtI, e_geI, e_lenL, e_lenT, e_lenR, e_lenS, e_ixL, e_ixT, at0, at1, at2, at3, e_tupL, e_tupT, e_lstT, e_Own, e_ownK, e_Sub, e_For, e_Items, e_itL, e_itT, e_itR, e_Call, e_CallF, e_aNil, e_aVal, e_aVK, e_aVK2, step0, step1, step2, step3, out0, out1, out2, out3, outX1, outX2, outO1, outO2, outO3, e_onSh, e_onOw, decide_true, decide_false, Bool.not_true, Bool.not_false, List.cons_append, List.nil_append, List.getElem?_cons_zero, List.getElem?_cons_succ, List.set_cons_zero, List.set_cons_succ, Nat.reduceLT, Nat.reduceAdd, Nat.reduceSub, Option.map_some, finF, outsE, e_frz, d_rng7, e_forK, e_tnN, e_tnC, e_tnB, e_tnR, e_whT, e_whF, e_Raise, e_Par, e_parK, e_parK2, e_augK, e_Ch, e_chK1, e_chK2, e_chT, e_chF, e_Try, e_tryO, e_tru, e_While, e_abs, e_max2, e_min2, e_gSq2, e_tup1, e_lst1, e_tup2, e_lst2, e_tup3, e_lst3, e_tup4, e_lst4, e_tup5, e_lst5, e_tup6, e_lst6, e_tup7, e_lst7, e_tup8, e_lst8, e_RaF, e_raF1, e_raF2, e_TryA, e_tryAO, e_asgnK, e_frzX, e_bindX, e_Fld, e_SFld, e_Mk, e_mkK1, e_mkK2, e_mkK3, e_mkK4, e_mkO, e_mkX, e_Met, e_metK2, e_Enum, e_enumL, e_enumT, pairs2, pairs3, pairs4, e_lst9, e_lst10, e_lst11, e_lst12, e_tup9, e_tup10, e_tup11, e_tup12, e_ListF, e_listFT, e_listFL, e_IfB, e_ifBT, e_ifBF, e_notB, e_isB, o_int, o_str, o_tup, o_lst, o_non, o_bl, n_int, n_str, n_tup, n_lst, n_non, n_bl, e_aIo (m := m), stepO2 (m := m), e1, show L2.atI [D.non, D.bl true, D.str "1", D.tup [D.int 1]] r = some z from hz, e2, q]
theorem sl_arg : vSl (argN a b c d) none (some 2) = some (.tup [.str a, .str b]) := by kernel_rfl
theorem lS9_ok (hm : Good m) (w : Wo ns ps) (ha : Nm a) (hb : Nm b) : ∃ (m' : M) (p : Str), lS9 [o0, some (.ow m), some (.sh (WD ns ps)), o6, some (.sh (argN a b c d)), o4, o5, o7, o8, o9, o10, o11, o12, o13, o14, o15, o16, o17]
    = .ok .nx [o0, some (.ow m'), some (.sh (WD ns ps)), o6, some (.sh (argN a b c d)), o4, o5, o7, o8, o9, o10, o11, o12, some (.sh (.str p)), o14, o15, o16, o17] ∧ Good m' ∧ Nm p := by
  obtain ⟨r, m1, e1, g1, r0, r1⟩ := tk (n := 5) hm (by decide)
  have hl : (a :: b :: ns).length = 5 := by rw [List.length_cons, List.length_cons, w.l1]
  obtain ⟨p, hp, np⟩ := at_name (ns := a :: b :: ns) r0 (by rw [hl]; exact r1) (fun x hx => by
    rcases List.mem_cons.mp hx with rfl | hx
    · exact ha
    · rcases List.mem_cons.mp hx with rfl | hx
      · exact hb
      · exact w.h1 x hx)
  have i0 : vIxI (WD ns ps) (.int 0) = some (.lst (ND ns)) := at0 _ _
  have hadd : vAdd (.lst [.str a, .str b]) (.lst (ND ns)) = some (.lst (ND (a :: b :: ns))) := by
    show (if [D.str a, D.str b].length + (ND ns).length ≤ sizeLine then some (D.lst ([D.str a, D.str b] ++ ND ns)) else none) = _
    rw [if_pos (by unfold ND; rw [List.length_map, w.l1, sizeLine_eq]; show 2 + 3 ≤ _; decide)]
    rfl
  have s1 := sl_arg (a := a) (b := b) (c := c) (d := d)
  have l1 : fList [.tup [.str a, .str b]] = some (.lst [.str a, .str b]) := rfl
  have l2 : fList [.lst (ND ns)] = some (.lst (ND ns)) := rfl
  have dsl : dSl (dVar 4) (dNoPart) (dPart (dC (.int 2))) [o0, some (.ow m), some (.sh (WD ns ps)), o6, some (.sh (argN a b c d)), o4, o5, o7, o8, o9, o10, o11, o12, o13, o14, o15, o16, o17]
      = .ok (.tup [.str a, .str b]) [o0, some (.ow m), some (.sh (WD ns ps)), o6, some (.sh (argN a b c d)), o4, o5, o7, o8, o9, o10, o11, o12, o13, o14, o15, o16, o17] := rfl
  refine ⟨m1, p, ?_, g1, np⟩
  unfold lS9
  generalize WD ns ps = W at *
  generalize argN a b c d = A at *
  generalize ND (a :: b :: ns) = N2 at *
  generalize ND ns = N1 at *
  simp only [e_Asg, e_op, e_B, e_Cons, dsl, e_bind, e_consK, e_Nil, e_consK2, e_bK, l1, e_of, e_op2, e_var, e_lookS, List.getElem?_cons_zero, List.getElem?_cons_succ, e_C, e_op1, i0, l2, hadd, e_Call, e_aIo (m := m), e_aVal, e_aVK, e_aNil, e_aVK2, stepO2 (m := m), e1, outO2, e_onSh, hp, e_asgK, e_gSet, e_stK, List.length, Nat.reduceLT, Nat.reduceAdd, List.set_cons_zero, List.set_cons_succ]
theorem lS10_ok (hm : Good m) (ha : Nm a) (hb : Nm b) : ∃ (m' : M) (p : Str), lS10 [o0, some (.ow m), W, o6, some (.sh (argN a b c d)), o4, o5, o7, o8, o9, o10, o11, o12, o13, o14, o15, o16, o17]
    = .ok .nx [o0, some (.ow m'), W, o6, some (.sh (argN a b c d)), o4, o5, o7, o8, o9, o10, o11, o12, o13, some (.sh (.str p)), o15, o16, o17] ∧ Good m' ∧ Nm p := by
  obtain ⟨x, m0, e0, g0, hx⟩ := dname_ok hm
  obtain ⟨r, m1, e1, g1, r0, r1⟩ := tk (n := 3) g0 (by decide)
  obtain ⟨p, hp, np⟩ := at_name (ns := [a, b, x]) r0 (by exact r1) (fun y hy => by
    simp only [List.mem_cons, List.not_mem_nil, or_false] at hy
    rcases hy with rfl | rfl | rfl
    · exact ha
    · exact hb
    · exact hx)
  have hadd : vAdd (.lst [.str a, .str b]) (.lst [.str x]) = some (.lst (ND [a, b, x])) := by
    show (if [D.str a, D.str b].length + [D.str x].length ≤ sizeLine then some (D.lst ([D.str a, D.str b] ++ [D.str x])) else none) = _
    rw [if_pos (by rw [sizeLine_eq]; show 2 + 1 ≤ _; decide)]
    rfl
  have l1 : fList [.tup [.str a, .str b]] = some (.lst [.str a, .str b]) := rfl
  have dsl : dSl (dVar 4) (dNoPart) (dPart (dC (.int 2))) [o0, some (.ow m), W, o6, some (.sh (argN a b c d)), o4, o5, o7, o8, o9, o10, o11, o12, o13, o14, o15, o16, o17]
      = .ok (.tup [.str a, .str b]) [o0, some (.ow m), W, o6, some (.sh (argN a b c d)), o4, o5, o7, o8, o9, o10, o11, o12, o13, o14, o15, o16, o17] := rfl
  refine ⟨m1, p, ?_, g1, np⟩
  unfold lS10
  generalize argN a b c d = A at *
  generalize ND [a, b, x] = N2 at *
  simp only [e_Asg, e_op, e_B, e_Cons, dsl, e_bind, e_consK, e_Nil, e_consK2, e_bK, l1, e_of, e_op2, e_var, e_lookS, List.getElem?_cons_zero, List.getElem?_cons_succ, e_C, e_op1, e_Lst, e_lst1, hadd, e_Call, e_aIo (m := m), e_aIo (m := m0), e_aVal, e_aVK, e_aNil, e_aVK2, stepO1 (m := m), stepO2 (m := m0), e0, e1, outO1, outO2, e_onSh, hp, e_asgK, e_gSet, e_stK, List.length, Nat.reduceLT, Nat.reduceAdd, List.set_cons_zero, List.set_cons_succ]
end L05
set_option Elab.async false
set_option linter.all false
set_option maxRecDepth 100000
set_option maxHeartbeats 4000000
namespace L05
open PySem L2 Rf
variable {m : M} {ns ps : List Str} {a b d p q : Str} {c : Int} {o0 o2 o3 o4 o5 o6 o7 o8 o9 o10 o11 o12 o13 o14 o15 o16 o17 W : Option DV}
theorem lS11_ok (ha : Nm a) (hb : Nm b) (hd : Nm d) (hp : Nm p) (hq : Nm q) : lS11 [o0, o3, W, o6, o4, some (.sh (sitN a b c d)), o5, o7, o8, o9, o10, o11, o12, some (.sh (.str p)), some (.sh (.str q)), o15, o16, o17]
    = .ok .nx [o0, o3, W, o6, o4, some (.sh (sitN a b c d)), o5, o7, o8, o9, some (.sh (sitN (swap a p q) (swap b p q) c d)), o11, o12, some (.sh (.str p)), some (.sh (.str q)), o15, o16, o17] := by
  have e := exch_ok c ha hb hd hp hq
  unfold lS11
  generalize sitN (swap a p q) (swap b p q) c d = S' at *
  generalize sitN a b c d = S at *
  simp only [startE, List.map, List.length, List.replicate, e_Seq, e_Asg, e_Ret, e_RetF, e_Expr, e_exprK, e_op, e_op2, e_op1, e_un, e_is, e_B, e_bK, e_Cons, e_consK, e_consK2, e_Nil, e_var, e_C, e_bind, e_bindX, e_bindB, e_lookS, e_lookO, M.toD, e_of, e_asgK, e_gSet, e_stK, e_sqN, e_sqR, e_sqB, e_sqC, e_sNil, e_retK, e_retFK, e_add, e_vI, e_neg, e_fInt, e_fIntB, e_sIf, e_sifT, e_sifF, e_T, e_toB, e_Tru, e_truB, e_And, e_Or, e_andT, e_andF, e_orT, e_orF, e_Not, e_notK, e_AndV, e_OrV, e_andVT, e_andVF, e_orVT, e_orVF, e_NotV, e_notVK, e_If, e_ifT, e_ifF, e_Tup, e_Lst, e_LstF, e_tup0, e_lst0, e_lstF0, e_eqI, e_neI, e_ltI, e_leI, e_gtI, e_geI, e_lenL, e_lenT, e_lenR, e_lenS, e_ixL, e_ixT, at0, at1, at2, at3, e_tupL, e_tupT, e_lstT, e_Own, e_ownK, e_Sub, e_For, e_Items, e_itL, e_itT, e_itR, e_Call, e_CallF, e_aNil, e_aVal, e_aVK, e_aVK2, step0, step1, step2, step3, out0, out1, out2, out3, outX1, outX2, outO1, outO2, outO3, e_onSh, e_onOw, decide_true, decide_false, Bool.not_true, Bool.not_false, List.cons_append, List.nil_append, List.getElem?_cons_zero, List.getElem?_cons_succ, List.set_cons_zero, List.set_cons_succ, Nat.reduceLT, Nat.reduceAdd, Nat.reduceSub, Option.map_some, finF, outsE, e_frz, d_rng7, e_forK, e_tnN, e_tnC, e_tnB, e_tnR, e_whT, e_whF, e_Raise, e_Par, e_parK, e_parK2, e_augK, e_Ch, e_chK1, e_chK2, e_chT, e_chF, e_Try, e_tryO, e_tru, e_While, e_abs, e_max2, e_min2, e_gSq2, e_tup1, e_lst1, e_tup2, e_lst2, e_tup3, e_lst3, e_tup4, e_lst4, e_tup5, e_lst5, e_tup6, e_lst6, e_tup7, e_lst7, e_tup8, e_lst8, e]
theorem lS12_ok (ha : Nm a) (hb : Nm b) (hd : Nm d) (hp : Nm p) (hq : Nm q) : lS12 [o0, o3, W, o6, some (.sh (argN a b c d)), o4, o5, o7, o8, o9, some (.sh (sitN (swap a p q) (swap b p q) c d)), o11, o12, some (.sh (.str p)), some (.sh (.str q)), o15, o16, o17]
    = .ok .nx [o0, o3, W, o6, some (.sh (argN a b c d)), o4, o5, o7, o8, o9, some (.sh (sitN (swap a p q) (swap b p q) c d)), o11, o12, some (.sh (.str p)), some (.sh (.str q)), o15, o16, o17] := by
  have e1 := parts_N (a := swap a p q) (b := swap b p q) (c := c) (d := d)
  have e2 := n_arg (a := swap a p q) (b := swap b p q) (c := c) (d := d) (.tup [.str (swap a p q), .str (swap b p q), .int c, .str d])
  have e2' : vEq true (argN (swap a p q) (swap b p q) c d) (.tup [.str (swap a p q), .str (swap b p q), .int c, .str d]) = some (.bl false) := ne_arg (swap_nm ha hp hq) (swap_nm hb hp hq) hd
  rw [e2'] at e2
  have x1 := other_ok ha hp hq
  have x2 := other_ok hb hp hq
  have i0 := ix0 (a := a) (b := b) (c := c) (d := d)
  have i1 := ix1 (a := a) (b := b) (c := c) (d := d)
  have i2 := ix2 (a := a) (b := b) (c := c) (d := d)
  have i3 := ix3 (a := a) (b := b) (c := c) (d := d)
  unfold lS12
  generalize sitN (swap a p q) (swap b p q) c d = S' at *
  generalize argN (swap a p q) (swap b p q) c d = A' at *
  generalize argN a b c d = A at *
  simp only [startE, List.map, List.length, List.replicate, e_Seq, e_Asg, e_Ret, e_RetF, e_Expr, e_exprK, e_op, e_op2, e_op1, e_un, e_is, e_B, e_bK, e_Cons, e_consK, e_consK2, e_Nil, e_var, e_C, e_bind, e_bindX, e_bindB, e_lookS, e_lookO, M.toD, e_of, e_asgK, e_gSet, e_stK, e_sqN, e_sqR, e_sqB, e_sqC, e_sNil, e_retK, e_retFK, e_add, e_vI, e_neg, e_fInt, e_fIntB, e_sIf, e_sifT, e_sifF, e_T, e_toB, e_Tru, e_truB, e_And, e_Or, e_andT, e_andF, e_orT, e_orF, e_Not, e_notK, e_AndV, e_OrV, e_andVT, e_andVF, e_orVT, e_orVF, e_NotV, e_notVK, e_If, e_ifT, e_ifF, e_Tup, e_Lst, e_LstF, e_tup0, e_lst0, e_lstF0, e_eqI, e_neI, e_ltI, e_leI, e_gtI, e_geI, e_lenL, e_lenT, e_lenR, e_lenS, e_ixL, e_ixT, at0, at1, at2, at3, e_tupL, e_tupT, e_lstT, e_Own, e_ownK, e_Sub, e_For, e_Items, e_itL, e_itT, e_itR, e_Call, e_CallF, e_aNil, e_aVal, e_aVK, e_aVK2, step0, step1, step2, step3, out0, out1, out2, out3, outX1, outX2, outO1, outO2, outO3, e_onSh, e_onOw, decide_true, decide_false, Bool.not_true, Bool.not_false, List.cons_append, List.nil_append, List.getElem?_cons_zero, List.getElem?_cons_succ, List.set_cons_zero, List.set_cons_succ, Nat.reduceLT, Nat.reduceAdd, Nat.reduceSub, Option.map_some, finF, outsE, e_frz, d_rng7, e_forK, e_tnN, e_tnC, e_tnB, e_tnR, e_whT, e_whF, e_Raise, e_Par, e_parK, e_parK2, e_augK, e_Ch, e_chK1, e_chK2, e_chT, e_chF, e_Try, e_tryO, e_tru, e_While, e_abs, e_max2, e_min2, e_gSq2, e_tup1, e_lst1, e_tup2, e_lst2, e_tup3, e_lst3, e_tup4, e_lst4, e_tup5, e_lst5, e_tup6, e_lst6, e_tup7, e_lst7, e_tup8, e_lst8, e_RaF, e_raF1, e_raF2, e_TryA, e_tryAO, e_asgnK, e_frzX, e_bindX, e_Fld, e_SFld, e_Mk, e_mkK1, e_mkK2, e_mkK3, e_mkK4, e_mkO, e_mkX, e_Met, e_metK2, e_Enum, e_enumL, e_enumT, pairs2, pairs3, pairs4, e_lst9, e_lst10, e_lst11, e_lst12, e_tup9, e_tup10, e_tup11, e_tup12, e_ListF, e_listFT, e_listFL, e_IfB, e_ifBT, e_ifBF, e_notB, e_isB, o_int, o_str, o_tup, o_lst, o_non, o_bl, n_int, n_str, n_tup, n_lst, n_non, n_bl, e1, i0, i1, i2, i3, x1, x2, e2]
theorem lS13_ok (ha : Nm a) (hb : Nm b) (hd : Nm d) (hp : Nm p) (hq : Nm q) : lS13 [o0, o3, W, o6, some (.sh (argN a b c d)), some (.sh (sitN a b c d)), o5, o7, o8, o9, some (.sh (sitN (swap a p q) (swap b p q) c d)), o11, o12, some (.sh (.str p)), some (.sh (.str q)), o15, o16, o17]
    = .ok .nx [o0, o3, W, o6, some (.sh (argN a b c d)), some (.sh (sitN a b c d)), o5, o7, o8, o9, some (.sh (sitN (swap a p q) (swap b p q) c d)), o11, o12, some (.sh (.str p)), some (.sh (.str q)), o15, o16, o17] := by
  have na := swap_nm ha hp hq
  have nb := swap_nm hb hp hq
  have e1 := exch_ok c na nb hd hp hq
  rw [swap_back, swap_back] at e1
  have e2 := n_sit c c ha hb hd ha hb hd
  have e3 := exch_ok c ha hb hd hq hp
  rw [swap_sym a p q, swap_sym b p q] at e3
  have e4 := n_sit c c na nb hd na nb hd
  rw [eqB_self] at e2 e4
  simp only [Bool.not_true] at e2 e4
  have e5 := parts_N (a := a) (b := b) (c := c) (d := d)
  have e6 := tup_arg (a := a) (b := b) (c := c) (d := d)
  have e7 := n_arg (a := a) (b := b) (c := c) (d := d) (argN a b c d)
  rw [ne_arg ha hb hd] at e7
  unfold lS13
  generalize sitN (swap a p q) (swap b p q) c d = S' at *
  generalize sitN a b c d = S at *
  generalize argN a b c d = A at *
  simp only [startE, List.map, List.length, List.replicate, e_Seq, e_Asg, e_Ret, e_RetF, e_Expr, e_exprK, e_op, e_op2, e_op1, e_un, e_is, e_B, e_bK, e_Cons, e_consK, e_consK2, e_Nil, e_var, e_C, e_bind, e_bindX, e_bindB, e_lookS, e_lookO, M.toD, e_of, e_asgK, e_gSet, e_stK, e_sqN, e_sqR, e_sqB, e_sqC, e_sNil, e_retK, e_retFK, e_add, e_vI, e_neg, e_fInt, e_fIntB, e_sIf, e_sifT, e_sifF, e_T, e_toB, e_Tru, e_truB, e_And, e_Or, e_andT, e_andF, e_orT, e_orF, e_Not, e_notK, e_AndV, e_OrV, e_andVT, e_andVF, e_orVT, e_orVF, e_NotV, e_notVK, e_If, e_ifT, e_ifF, e_Tup, e_Lst, e_LstF, e_tup0, e_lst0, e_lstF0, e_eqI, e_neI, e_ltI, e_leI, e_gtI, e_geI, e_lenL, e_lenT, e_lenR, e_lenS, e_ixL, e_ixT, at0, at1, at2, at3, e_tupL, e_tupT, e_lstT, e_Own, e_ownK, e_Sub, e_For, e_Items, e_itL, e_itT, e_itR, e_Call, e_CallF, e_aNil, e_aVal, e_aVK, e_aVK2, step0, step1, step2, step3, out0, out1, out2, out3, outX1, outX2, outO1, outO2, outO3, e_onSh, e_onOw, decide_true, decide_false, Bool.not_true, Bool.not_false, List.cons_append, List.nil_append, List.getElem?_cons_zero, List.getElem?_cons_succ, List.set_cons_zero, List.set_cons_succ, Nat.reduceLT, Nat.reduceAdd, Nat.reduceSub, Option.map_some, finF, outsE, e_frz, d_rng7, e_forK, e_tnN, e_tnC, e_tnB, e_tnR, e_whT, e_whF, e_Raise, e_Par, e_parK, e_parK2, e_augK, e_Ch, e_chK1, e_chK2, e_chT, e_chF, e_Try, e_tryO, e_tru, e_While, e_abs, e_max2, e_min2, e_gSq2, e_tup1, e_lst1, e_tup2, e_lst2, e_tup3, e_lst3, e_tup4, e_lst4, e_tup5, e_lst5, e_tup6, e_lst6, e_tup7, e_lst7, e_tup8, e_lst8, e_RaF, e_raF1, e_raF2, e_TryA, e_tryAO, e_asgnK, e_frzX, e_bindX, e_Fld, e_SFld, e_Mk, e_mkK1, e_mkK2, e_mkK3, e_mkK4, e_mkO, e_mkX, e_Met, e_metK2, e_Enum, e_enumL, e_enumT, pairs2, pairs3, pairs4, e_lst9, e_lst10, e_lst11, e_lst12, e_tup9, e_tup10, e_tup11, e_tup12, e_ListF, e_listFT, e_listFL, e_IfB, e_ifBT, e_ifBF, e_notB, e_isB, o_int, o_str, o_tup, o_lst, o_non, o_bl, n_int, n_str, n_tup, n_lst, n_non, n_bl, e1, e2, e3, e4, e5, e6, e7]
theorem lB14_ok {x : Str} (hx : Nm x) (hp : Nm p) (hq : Nm q) : lB14 [o0, o3, W, o6, o4, o2, o5, o7, o8, o9, o10, o11, o12, some (.sh (.str p)), some (.sh (.str q)), some (.sh (.str x)), o16, o17]
    = .ok .nx [o0, o3, W, o6, o4, o2, o5, o7, o8, o9, o10, o11, o12, some (.sh (.str p)), some (.sh (.str q)), some (.sh (.str x)), o16, o17] := by
  have e1 := lname_ok hx hp hq
  have e2 := other_ok hx hp hq
  have e3 := vEq_strT true (swap_nm hx hp hq).ok
  simp only [Bool.not_true] at e3
  unfold lB14
  simp only [startE, List.map, List.length, List.replicate, e_Seq, e_Asg, e_Ret, e_RetF, e_Expr, e_exprK, e_op, e_op2, e_op1, e_un, e_is, e_B, e_bK, e_Cons, e_consK, e_consK2, e_Nil, e_var, e_C, e_bind, e_bindX, e_bindB, e_lookS, e_lookO, M.toD, e_of, e_asgK, e_gSet, e_stK, e_sqN, e_sqR, e_sqB, e_sqC, e_sNil, e_retK, e_retFK, e_add, e_vI, e_neg, e_fInt, e_fIntB, e_sIf, e_sifT, e_sifF, e_T, e_toB, e_Tru, e_truB, e_And, e_Or, e_andT, e_andF, e_orT, e_orF, e_Not, e_notK, e_AndV, e_OrV, e_andVT, e_andVF, e_orVT, e_orVF, e_NotV, e_notVK, e_If, e_ifT, e_ifF, e_Tup, e_Lst, e_LstF, e_tup0, e_lst0, e_lstF0, e_eqI, e_neI, e_ltI, e_leI, e_gtI, e_geI, e_lenL, e_lenT, e_lenR, e_lenS, e_ixL, e_ixT, at0, at1, at2, at3, e_tupL, e_tupT, e_lstT, e_Own, e_ownK, e_Sub, e_For, e_Items, e_itL, e_itT, e_itR, e_Call, e_CallF, e_aNil, e_aVal, e_aVK, e_aVK2, step0, step1, step2, step3, out0, out1, out2, out3, outX1, outX2, outO1, outO2, outO3, e_onSh, e_onOw, decide_true, decide_false, Bool.not_true, Bool.not_false, List.cons_append, List.nil_append, List.getElem?_cons_zero, List.getElem?_cons_succ, List.set_cons_zero, List.set_cons_succ, Nat.reduceLT, Nat.reduceAdd, Nat.reduceSub, Option.map_some, finF, outsE, e_frz, d_rng7, e_forK, e_tnN, e_tnC, e_tnB, e_tnR, e_whT, e_whF, e_Raise, e_Par, e_parK, e_parK2, e_augK, e_Ch, e_chK1, e_chK2, e_chT, e_chF, e_Try, e_tryO, e_tru, e_While, e_abs, e_max2, e_min2, e_gSq2, e_tup1, e_lst1, e_tup2, e_lst2, e_tup3, e_lst3, e_tup4, e_lst4, e_tup5, e_lst5, e_tup6, e_lst6, e_tup7, e_lst7, e_tup8, e_lst8, e_RaF, e_raF1, e_raF2, e_TryA, e_tryAO, e_asgnK, e_frzX, e_bindX, e_Fld, e_SFld, e_Mk, e_mkK1, e_mkK2, e_mkK3, e_mkK4, e_mkO, e_mkX, e_Met, e_metK2, e_Enum, e_enumL, e_enumT, pairs2, pairs3, pairs4, e_lst9, e_lst10, e_lst11, e_lst12, e_tup9, e_tup10, e_tup11, e_tup12, e_ListF, e_listFT, e_listFL, e_IfB, e_ifBT, e_ifBF, e_notB, e_isB, o_int, o_str, o_tup, o_lst, o_non, o_bl, n_int, n_str, n_tup, n_lst, n_non, n_bl, e1, e2, e3]
theorem lS14_ok (hm : Good m) (ha : Nm a) (hp : Nm p) (hq : Nm q) : ∃ (m' : M) (o : Option DV), lS14 [o0, some (.ow m), W, o6, some (.sh (argN a b c d)), o2, o5, o7, o8, o9, o10, o11, o12, some (.sh (.str p)), some (.sh (.str q)), o15, o16, o17]
    = .ok .nx [o0, some (.ow m'), W, o6, some (.sh (argN a b c d)), o2, o5, o7, o8, o9, o10, o11, o12, some (.sh (.str p)), some (.sh (.str q)), o, o16, o17] ∧ Good m' := by
  obtain ⟨x, m1, e1, g1, hx⟩ := dname_ok hm
  have i0 := ix0 (a := a) (b := b) (c := c) (d := d)
  refine ⟨m1, some (.sh (.str a)), ?_, g1⟩
  have f1 := fun o15 => lB14_ok (o0 := o0) (o3 := some (.ow m1)) (W := W) (o6 := o6) (o4 := some (.sh (argN a b c d))) (o2 := o2) (o5 := o5) (o7 := o7) (o8 := o8) (o9 := o9) (o10 := o10) (o11 := o11) (o12 := o12) (o16 := o16) (o17 := o17) (x := o15) (p := p) (q := q)
  have f2 := f1 p hp hp hq
  have f3 := f1 q hq hp hq
  have f4 := f1 x hx hp hq
  have f5 := f1 a ha hp hq
  unfold lS14
  generalize argN a b c d = A at *
  generalize lB14 = B at *
  simp only [startE, List.map, List.length, List.replicate, e_Seq, e_Asg, e_Ret, e_RetF, e_Expr, e_exprK, e_op, e_op2, e_op1, e_un, e_is, e_B, e_bK, e_Cons, e_consK, e_consK2, e_Nil, e_var, e_C, e_bind, e_bindX, e_bindB, e_lookS, e_lookO, M.toD, e_of, e_asgK, e_gSet, e_stK, e_sqN, e_sqR, e_sqB, e_sqC, e_sNil, e_retK, e_retFK, e_add, e_vI, e_neg, e_fInt, e_fIntB, e_sIf, e_sifT, e_sifF, e_T, e_toB, e_Tru, e_truB, e_And, e_Or, e_andT, e_andF, e_orT, e_orF, e_Not, e_notK, e_AndV, e_OrV, e_andVT, e_andVF, e_orVT, e_orVF, e_NotV, e_notVK, e_If, e_ifT, e_ifF, e_Tup, e_Lst, e_LstF, e_tup0, e_lst0, e_lstF0, e_eqI, e_neI, e_ltI, e_leI, e_gtI, e_geI, e_lenL, e_lenT, e_lenR, e_lenS, e_ixL, e_ixT, at0, at1, at2, at3, e_tupL, e_tupT, e_lstT, e_Own, e_ownK, e_Sub, e_For, e_Items, e_itL, e_itT, e_itR, e_Call, e_CallF, e_aNil, e_aVal, e_aVK, e_aVK2, step0, step1, step2, step3, out0, out1, out2, out3, outX1, outX2, outO1, outO2, outO3, e_onSh, e_onOw, decide_true, decide_false, Bool.not_true, Bool.not_false, List.cons_append, List.nil_append, List.getElem?_cons_zero, List.getElem?_cons_succ, List.set_cons_zero, List.set_cons_succ, Nat.reduceLT, Nat.reduceAdd, Nat.reduceSub, Option.map_some, finF, outsE, e_frz, d_rng7, e_forK, e_tnN, e_tnC, e_tnB, e_tnR, e_whT, e_whF, e_Raise, e_Par, e_parK, e_parK2, e_augK, e_Ch, e_chK1, e_chK2, e_chT, e_chF, e_Try, e_tryO, e_tru, e_While, e_abs, e_max2, e_min2, e_gSq2, e_tup1, e_lst1, e_tup2, e_lst2, e_tup3, e_lst3, e_tup4, e_lst4, e_tup5, e_lst5, e_tup6, e_lst6, e_tup7, e_lst7, e_tup8, e_lst8, e_RaF, e_raF1, e_raF2, e_TryA, e_tryAO, e_asgnK, e_frzX, e_bindX, e_Fld, e_SFld, e_Mk, e_mkK1, e_mkK2, e_mkK3, e_mkK4, e_mkO, e_mkX, e_Met, e_metK2, e_Enum, e_enumL, e_enumT, pairs2, pairs3, pairs4, e_lst9, e_lst10, e_lst11, e_lst12, e_tup9, e_tup10, e_tup11, e_tup12, e_ListF, e_listFT, e_listFL, e_IfB, e_ifBT, e_ifBF, e_notB, e_isB, o_int, o_str, o_tup, o_lst, o_non, o_bl, n_int, n_str, n_tup, n_lst, n_non, n_bl, e_aIo (m := m), stepO1 (m := m), e1, i0, forL_set, f2, f3, f4, f5, forL_nil]
theorem ann_bad : Pl (.str "Ann") := .bad (by kernel_rfl) (by decide +kernel)
theorem lS15_ok (hm : Good m) (hp : Nm p) : ∃ (m' : M) (x : D), lS15 [o0, some (.ow m), W, o6, o4, o2, o5, o7, o8, o9, o10, o11, o12, some (.sh (.str p)), o14, o15, o16, o17]
    = .ok .nx [o0, some (.ow m'), W, o6, o4, o2, o5, o7, o8, o9, o10, o11, o12, some (.sh (.str p)), o14, o15, some (.sh x), o17] ∧ Good m' ∧ Pl x ∧ nm x = false := by
  obtain ⟨r, m1, e1, g1, r0, r1⟩ := tk (n := 6) hm (by decide)
  have c1 := cat_ok hp (y := "abcdefgh") (by decide +kernel)
  obtain ⟨z, hz, hmem, _⟩ := atL (xs := [.non, .str "", .str (p ++ "abcdefgh"), .int 3, .str "Ann", .bl true]) (n := 6) rfl r0 r1
  have hz' : Pl z ∧ nm z = false := by
    simp only [List.mem_cons, List.not_mem_nil, or_false] at hmem
    rcases hmem with h | h | h | h | h | h <;> rw [h]
    · exact ⟨.non, rfl⟩
    · exact ⟨empty_bad, by kernel_rfl⟩
    · refine ⟨long_bad hp, ?_⟩
      have := long_bad hp
      cases this with
      | bad h _ => exact h
      | nam h =>
        have l := len_app p "abcdefgh"
        have l8 : ("abcdefgh" : Str).length = 8 := by decide +kernel
        have h1 : 1 ≤ p.length := hp.lo
        have h8 : (p ++ ("abcdefgh" : Str)).length ≤ 8 := h.hi
        omega
    · exact ⟨.int _, rfl⟩
    · exact ⟨ann_bad, by kernel_rfl⟩
    · exact ⟨.bl _, rfl⟩
  refine ⟨m1, z, ?_, g1, hz'.1, hz'.2⟩
  unfold lS15
  simp only [startE, List.map, List.length, List.replicate, e_Seq, e_Asg, e_Ret, e_RetF, e_Expr, e_exprK, e_op, e_op2, e_op1, e_un, e_is, e_B, e_bK, e_Cons, e_consK, e_consK2, e_Nil, e_var, e_C, e_bind, e_bindX, e_bindB, e_lookS, e_lookO, M.toD, e_of, e_asgK, e_gSet, e_stK, e_sqN, e_sqR, e_sqB, e_sqC, e_sNil, e_retK, e_retFK, e_add, e_vI, e_neg, e_fInt, e_fIntB, e_sIf, e_sifT, e_sifF, e_T, e_toB, e_Tru, e_truB, e_And, e_Or, e_andT, e_andF, e_orT, e_orF, e_Not, e_notK, e_AndV, e_OrV, e_andVT, e_andVF, e_orVT, e_orVF, e_NotV, e_notVK, e_If, e_ifT, e_ifF, e_Tup, e_Lst, e_LstF, e_tup0, e_lst0, e_lstF0, e_eqI, e_neI, e_ltI, e_leI, e_gtI, e_geI, e_lenL, e_lenT, e_lenR, e_lenS, e_ixL, e_ixT, at0, at1, at2, at3, e_tupL, e_tupT, e_lstT, e_Own, e_ownK, e_Sub, e_For, e_Items, e_itL, e_itT, e_itR, e_Call, e_CallF, e_aNil, e_aVal, e_aVK, e_aVK2, step0, step1, step2, step3, out0, out1, out2, out3, outX1, outX2, outO1, outO2, outO3, e_onSh, e_onOw, decide_true, decide_false, Bool.not_true, Bool.not_false, List.cons_append, List.nil_append, List.getElem?_cons_zero, List.getElem?_cons_succ, List.set_cons_zero, List.set_cons_succ, Nat.reduceLT, Nat.reduceAdd, Nat.reduceSub, Option.map_some, finF, outsE, e_frz, d_rng7, e_forK, e_tnN, e_tnC, e_tnB, e_tnR, e_whT, e_whF, e_Raise, e_Par, e_parK, e_parK2, e_augK, e_Ch, e_chK1, e_chK2, e_chT, e_chF, e_Try, e_tryO, e_tru, e_While, e_abs, e_max2, e_min2, e_gSq2, e_tup1, e_lst1, e_tup2, e_lst2, e_tup3, e_lst3, e_tup4, e_lst4, e_tup5, e_lst5, e_tup6, e_lst6, e_tup7, e_lst7, e_tup8, e_lst8, e_RaF, e_raF1, e_raF2, e_TryA, e_tryAO, e_asgnK, e_frzX, e_bindX, e_Fld, e_SFld, e_Mk, e_mkK1, e_mkK2, e_mkK3, e_mkK4, e_mkO, e_mkX, e_Met, e_metK2, e_Enum, e_enumL, e_enumT, pairs2, pairs3, pairs4, e_lst9, e_lst10, e_lst11, e_lst12, e_tup9, e_tup10, e_tup11, e_tup12, e_ListF, e_listFT, e_listFL, e_IfB, e_ifBT, e_ifBF, e_notB, e_isB, o_int, o_str, o_tup, o_lst, o_non, o_bl, n_int, n_str, n_tup, n_lst, n_non, n_bl, c1, e_aIo (m := m), stepO2 (m := m), e1, show L2.atI [D.non, D.str "", D.str (p ++ "abcdefgh"), D.int 3, D.str "Ann", D.bl true] r = some z from hz]
theorem no_name : vEq true (.lst [.str "no", .str "name"]) (.lst [.str "no", .str "name"]) = some (.bl false) := by kernel_rfl
theorem nameT : vEq true (.str "name") (.str "name") = some (.bl false) := by kernel_rfl
theorem lB16_ok {x y : D} (hx : Pl x) (hy : Pl y) (h : nm x = false ∨ nm y = false) : lB16 [o0, o3, W, o6, o4, some (.sh (sitN a b c d)), o5, o7, o8, o9, o10, o11, o12, some (.sh (.str p)), o14, o15, o16, some (.sh (.tup [x, y]))]
    = .ok .nx [o0, o3, W, o6, o4, some (.sh (sitN a b c d)), o5, o7, o8, o9, o10, o11, o12, some (.sh (.str p)), o14, o15, o16, some (.sh (.tup [x, y]))] := by
  have e1 : m__law_exchanged [.sh (sitN a b c d), .sh x, .sh y] = .ok (.sh (.str "name")) [] := exch_bad hx hy h
  have e2 := lname_bad (n := .str p) hx hy h
  unfold lB16
  generalize sitN a b c d = S at *
  simp only [startE, List.map, List.length, List.replicate, e_Seq, e_Asg, e_Ret, e_RetF, e_Expr, e_exprK, e_op, e_op2, e_op1, e_un, e_is, e_B, e_bK, e_Cons, e_consK, e_consK2, e_Nil, e_var, e_C, e_bind, e_bindX, e_bindB, e_lookS, e_lookO, M.toD, e_of, e_asgK, e_gSet, e_stK, e_sqN, e_sqR, e_sqB, e_sqC, e_sNil, e_retK, e_retFK, e_add, e_vI, e_neg, e_fInt, e_fIntB, e_sIf, e_sifT, e_sifF, e_T, e_toB, e_Tru, e_truB, e_And, e_Or, e_andT, e_andF, e_orT, e_orF, e_Not, e_notK, e_AndV, e_OrV, e_andVT, e_andVF, e_orVT, e_orVF, e_NotV, e_notVK, e_If, e_ifT, e_ifF, e_Tup, e_Lst, e_LstF, e_tup0, e_lst0, e_lstF0, e_eqI, e_neI, e_ltI, e_leI, e_gtI, e_geI, e_lenL, e_lenT, e_lenR, e_lenS, e_ixL, e_ixT, at0, at1, at2, at3, e_tupL, e_tupT, e_lstT, e_Own, e_ownK, e_Sub, e_For, e_Items, e_itL, e_itT, e_itR, e_Call, e_CallF, e_aNil, e_aVal, e_aVK, e_aVK2, step0, step1, step2, step3, out0, out1, out2, out3, outX1, outX2, outO1, outO2, outO3, e_onSh, e_onOw, decide_true, decide_false, Bool.not_true, Bool.not_false, List.cons_append, List.nil_append, List.getElem?_cons_zero, List.getElem?_cons_succ, List.set_cons_zero, List.set_cons_succ, Nat.reduceLT, Nat.reduceAdd, Nat.reduceSub, Option.map_some, finF, outsE, e_frz, d_rng7, e_forK, e_tnN, e_tnC, e_tnB, e_tnR, e_whT, e_whF, e_Raise, e_Par, e_parK, e_parK2, e_augK, e_Ch, e_chK1, e_chK2, e_chT, e_chF, e_Try, e_tryO, e_tru, e_While, e_abs, e_max2, e_min2, e_gSq2, e_tup1, e_lst1, e_tup2, e_lst2, e_tup3, e_lst3, e_tup4, e_lst4, e_tup5, e_lst5, e_tup6, e_lst6, e_tup7, e_lst7, e_tup8, e_lst8, e_RaF, e_raF1, e_raF2, e_TryA, e_tryAO, e_asgnK, e_frzX, e_bindX, e_Fld, e_SFld, e_Mk, e_mkK1, e_mkK2, e_mkK3, e_mkK4, e_mkO, e_mkX, e_Met, e_metK2, e_Enum, e_enumL, e_enumT, pairs2, pairs3, pairs4, e_lst9, e_lst10, e_lst11, e_lst12, e_tup9, e_tup10, e_tup11, e_tup12, e_ListF, e_listFT, e_listFL, e_IfB, e_ifBT, e_ifBF, e_notB, e_isB, o_int, o_str, o_tup, o_lst, o_non, o_bl, n_int, n_str, n_tup, n_lst, n_non, n_bl, e1, e2, no_name, nameT]
theorem lS16_ok {x : D} (hx : Pl x) (hn : nm x = false) (hp : Nm p) (hq : Nm q) : ∃ o, lS16 [o0, o3, W, o6, o4, some (.sh (sitN a b c d)), o5, o7, o8, o9, o10, o11, o12, some (.sh (.str p)), some (.sh (.str q)), o15, some (.sh x), o17]
    = .ok .nx [o0, o3, W, o6, o4, some (.sh (sitN a b c d)), o5, o7, o8, o9, o10, o11, o12, some (.sh (.str p)), some (.sh (.str q)), o15, some (.sh x), o] := by
  have f1 := fun (u v : D) (hu : Pl u) (hv : Pl v) => lB16_ok (o0 := o0) (o3 := o3) (W := W) (o6 := o6) (o4 := o4) (o5 := o5) (o7 := o7) (o8 := o8) (o9 := o9) (o10 := o10) (o11 := o11) (o12 := o12) (o14 := some (.sh (.str q))) (o15 := o15) (o16 := some (.sh x)) (p := p) (a := a) (b := b) (c := c) (d := d) hu hv
  have f2 := f1 x (.str q) hx (.nam hq) (.inl hn)
  have f3 := f1 (.str p) x (.nam hp) hx (.inr hn)
  have f4 := f1 x x hx hx (.inl hn)
  refine ⟨some (.sh (.tup [x, x])), ?_⟩
  unfold lS16
  generalize sitN a b c d = S at *
  generalize lB16 = B at *
  simp only [startE, List.map, List.length, List.replicate, e_Seq, e_Asg, e_Ret, e_RetF, e_Expr, e_exprK, e_op, e_op2, e_op1, e_un, e_is, e_B, e_bK, e_Cons, e_consK, e_consK2, e_Nil, e_var, e_C, e_bind, e_bindX, e_bindB, e_lookS, e_lookO, M.toD, e_of, e_asgK, e_gSet, e_stK, e_sqN, e_sqR, e_sqB, e_sqC, e_sNil, e_retK, e_retFK, e_add, e_vI, e_neg, e_fInt, e_fIntB, e_sIf, e_sifT, e_sifF, e_T, e_toB, e_Tru, e_truB, e_And, e_Or, e_andT, e_andF, e_orT, e_orF, e_Not, e_notK, e_AndV, e_OrV, e_andVT, e_andVF, e_orVT, e_orVF, e_NotV, e_notVK, e_If, e_ifT, e_ifF, e_Tup, e_Lst, e_LstF, e_tup0, e_lst0, e_lstF0, e_eqI, e_neI, e_ltI, e_leI, e_gtI, e_geI, e_lenL, e_lenT, e_lenR, e_lenS, e_ixL, e_ixT, at0, at1, at2, at3, e_tupL, e_tupT, e_lstT, e_Own, e_ownK, e_Sub, e_For, e_Items, e_itL, e_itT, e_itR, e_Call, e_CallF, e_aNil, e_aVal, e_aVK, e_aVK2, step0, step1, step2, step3, out0, out1, out2, out3, outX1, outX2, outO1, outO2, outO3, e_onSh, e_onOw, decide_true, decide_false, Bool.not_true, Bool.not_false, List.cons_append, List.nil_append, List.getElem?_cons_zero, List.getElem?_cons_succ, List.set_cons_zero, List.set_cons_succ, Nat.reduceLT, Nat.reduceAdd, Nat.reduceSub, Option.map_some, finF, outsE, e_frz, d_rng7, e_forK, e_tnN, e_tnC, e_tnB, e_tnR, e_whT, e_whF, e_Raise, e_Par, e_parK, e_parK2, e_augK, e_Ch, e_chK1, e_chK2, e_chT, e_chF, e_Try, e_tryO, e_tru, e_While, e_abs, e_max2, e_min2, e_gSq2, e_tup1, e_lst1, e_tup2, e_lst2, e_tup3, e_lst3, e_tup4, e_lst4, e_tup5, e_lst5, e_tup6, e_lst6, e_tup7, e_lst7, e_tup8, e_lst8, e_RaF, e_raF1, e_raF2, e_TryA, e_tryAO, e_asgnK, e_frzX, e_bindX, e_Fld, e_SFld, e_Mk, e_mkK1, e_mkK2, e_mkK3, e_mkK4, e_mkO, e_mkX, e_Met, e_metK2, e_Enum, e_enumL, e_enumT, pairs2, pairs3, pairs4, e_lst9, e_lst10, e_lst11, e_lst12, e_tup9, e_tup10, e_tup11, e_tup12, e_ListF, e_listFT, e_listFL, e_IfB, e_ifBT, e_ifBF, e_notB, e_isB, o_int, o_str, o_tup, o_lst, o_non, o_bl, n_int, n_str, n_tup, n_lst, n_non, n_bl, forL_set, f2, f3, f4, forL_nil]
/-- a turn -/
def PL (ns ps : List Str) (ρ : ENV) : Prop := ∃ (m : M) (o0 o3 o4 o5 o6 o7 o8 o9 o10 o11 o12 o13 o14 o15 o16 o17 : Option DV), Good m ∧ ρ = [o0, some (.ow m), some (.sh (WD ns ps)), o3, o4, o5, o6, o7, o8, o9, o10, o11, o12, o13, o14, o15, o16, o17]
theorem lB_ok (hm : Good m) (w : Wo ns ps) (t : Int) : ∃ ρ2, lB [o0, some (.ow m), some (.sh (WD ns ps)), some (.sh (.int t)), o4, o5, o6, o7, o8, o9, o10, o11, o12, o13, o14, o15, o16, o17] = .ok .nx ρ2 ∧ PL ns ps ρ2 := by
  obtain ⟨a, b, d, c, m0, e0, g0, ha, hb, hd⟩ := lS0_ok (o0 := o0) (o3 := some (.sh (.int t))) (o4 := o4) (o5 := o5) (o6 := o6) (o7 := o7) (o8 := o8) (o9 := o9) (o10 := o10) (o11 := o11) (o12 := o12) (o13 := o13) (o14 := o14) (o15 := o15) (o16 := o16) (o17 := o17) hm w
  obtain ⟨a, b, d, c, m1, e1, g1, ha, hb, hd⟩ := lS1_ok (o0 := o0) (W := some (.sh (WD ns ps))) (o5 := o5) (o6 := o6) (o7 := o7) (o8 := o8) (o9 := o9) (o10 := o10) (o11 := o11) (o12 := o12) (o13 := o13) (o14 := o14) (o15 := o15) (o16 := o16) (o17 := o17) (c := c) g0 ha hb hd t
  obtain ⟨m4, o6, o7, o8, o9, o10, e4, g4⟩ := lS4_ok (o0 := o0) (W := some (.sh (WD ns ps))) (o3 := some (.sh (.int t))) (o6 := o6) (o7 := o7) (o8 := o8) (o9 := o9) (o10 := o10) (o11 := o11) (o12 := o12) (o13 := o13) (o14 := o14) (o15 := o15) (o16 := o16) (o17 := o17) (c := c) g1 ha hb hd
  obtain ⟨m5, k, e5, g5⟩ := lS5_ok (o0 := o0) (W := some (.sh (WD ns ps))) (o3 := some (.sh (.int t))) (o4 := some (.sh (argN a b c d))) (o5 := some (.sh (sitN a b c d))) (o6 := o6) (o7 := o7) (o8 := o8) (o9 := o9) (o10 := o10) (o11 := o11) (o12 := o12) (o13 := o13) (o14 := o14) (o15 := o15) (o16 := o16) (o17 := o17) g4
  obtain ⟨m8, e8, g8⟩ := lS8_ok (o0 := o0) (W := some (.sh (WD ns ps))) (o6 := some (.sh (.int t))) (o4 := some (.sh (argN a b c d))) (o5 := o6) (o7 := o7) (o8 := o8) (o9 := o9) (o10 := o10) (o11 := some (.sh (.int k))) (o12 := some (.sh (sitN a b (c + k) d))) (o13 := o13) (o14 := o14) (o15 := o15) (o16 := o16) (o17 := o17) (a := a) (b := b) (c := c) (d := d) g5
  obtain ⟨m9, p, e9, g9, hp⟩ := lS9_ok (o0 := o0) (o6 := some (.sh (.int t))) (o4 := some (.sh (sitN a b c d))) (o5 := o6) (o7 := o7) (o8 := o8) (o9 := o9) (o10 := o10) (o11 := some (.sh (.int k))) (o12 := some (.sh (sitN a b (c + k) d))) (o13 := o13) (o14 := o14) (o15 := o15) (o16 := o16) (o17 := o17) (a := a) (b := b) (c := c) (d := d) g8 w ha hb
  obtain ⟨ma, q, ea, ga, hq⟩ := lS10_ok (o0 := o0) (W := some (.sh (WD ns ps))) (o6 := some (.sh (.int t))) (o4 := some (.sh (sitN a b c d))) (o5 := o6) (o7 := o7) (o8 := o8) (o9 := o9) (o10 := o10) (o11 := some (.sh (.int k))) (o12 := some (.sh (sitN a b (c + k) d))) (o13 := some (.sh (.str p))) (o14 := o14) (o15 := o15) (o16 := o16) (o17 := o17) (a := a) (b := b) (c := c) (d := d) g9 ha hb
  obtain ⟨me, o15, ee, ge⟩ := lS14_ok (o0 := o0) (W := some (.sh (WD ns ps))) (o6 := some (.sh (.int t))) (o2 := some (.sh (sitN a b c d))) (o5 := o6) (o7 := o7) (o8 := o8) (o9 := o9) (o10 := some (.sh (sitN (swap a p q) (swap b p q) c d))) (o11 := some (.sh (.int k))) (o12 := some (.sh (sitN a b (c + k) d))) (o15 := o15) (o16 := o16) (o17 := o17) (a := a) (b := b) (c := c) (d := d) ga ha hp hq
  obtain ⟨mf, x, ef, gf, hx, hn⟩ := lS15_ok (o0 := o0) (W := some (.sh (WD ns ps))) (o6 := some (.sh (.int t))) (o4 := some (.sh (argN a b c d))) (o2 := some (.sh (sitN a b c d))) (o5 := o6) (o7 := o7) (o8 := o8) (o9 := o9) (o10 := some (.sh (sitN (swap a p q) (swap b p q) c d))) (o11 := some (.sh (.int k))) (o12 := some (.sh (sitN a b (c + k) d))) (o14 := some (.sh (.str q))) (o15 := o15) (o16 := o16) (o17 := o17) ge hp
  obtain ⟨o17, eg⟩ := lS16_ok (o0 := o0) (o3 := some (.ow mf)) (W := some (.sh (WD ns ps))) (o6 := some (.sh (.int t))) (o4 := some (.sh (argN a b c d))) (o5 := o6) (o7 := o7) (o8 := o8) (o9 := o9) (o10 := some (.sh (sitN (swap a p q) (swap b p q) c d))) (o11 := some (.sh (.int k))) (o12 := some (.sh (sitN a b (c + k) d))) (o15 := o15) (o17 := o17) (a := a) (b := b) (c := c) (d := d) hx hn hp hq
  unfold lB
  rw [seq_ok e0, seq_ok e1, seq_ok (lS2_ok ha hb hd), seq_ok (lS3_ok ha hb hd), seq_ok e4, seq_ok e5, seq_ok (lS6_ok ha hb hd), seq_ok (lS7_ok ha hb hd), seq_ok e8, seq_ok e9, seq_ok ea, seq_ok (lS11_ok ha hb hd hp hq), seq_ok (lS12_ok ha hb hd hp hq), seq_ok (lS13_ok ha hb hd hp hq), seq_ok ee, seq_ok ef]
  exact ⟨_, eg, mf, _, _, _, _, _, _, _, _, _, _, _, _, _, _, _, _, gf, rfl⟩
theorem law_true (xs : List Int) (hn : xs.length ≤ 63) : m_law [.sh (.scr (xs.map D.int))] = .ok (.sh (.bl true)) [] := by
  obtain ⟨m, e, hm⟩ := hand_ok xs hn
  obtain ⟨m1, e1, g1⟩ := tongues_ok hm
  obtain ⟨m2, ns, ps, e2, g2, w⟩ := world_ok g1
  have w : Wo ns ps := ⟨w.1, w.2.1, w.2.2.1, w.2.2.2⟩
  generalize hS : D.scr (xs.map D.int) = S at *
  have s1 : sOwn (fCall m__law_hand (aVal (dVar 0) (aNil))) 1 [some (.sh S), none, none, none, none, none, none, none, none, none, none, none, none, none, none, none, none, none] = .ok .nx [some (.sh S), some (.ow m), none, none, none, none, none, none, none, none, none, none, none, none, none, none, none, none] := by
    simp only [startE, List.map, List.length, List.replicate, e_Seq, e_Asg, e_Ret, e_RetF, e_Expr, e_exprK, e_op, e_op2, e_op1, e_un, e_is, e_B, e_bK, e_Cons, e_consK, e_consK2, e_Nil, e_var, e_C, e_bind, e_bindX, e_bindB, e_lookS, e_lookO, M.toD, e_of, e_asgK, e_gSet, e_stK, e_sqN, e_sqR, e_sqB, e_sqC, e_sNil, e_retK, e_retFK, e_add, e_vI, e_neg, e_fInt, e_fIntB, e_sIf, e_sifT, e_sifF, e_T, e_toB, e_Tru, e_truB, e_And, e_Or, e_andT, e_andF, e_orT, e_orF, e_Not, e_notK, e_AndV, e_OrV, e_andVT, e_andVF, e_orVT, e_orVF, e_NotV, e_notVK, e_If, e_ifT, e_ifF, e_Tup, e_Lst, e_LstF, e_tup0, e_lst0, e_lstF0, e_eqI, e_neI, e_ltI, e_leI, e_gtI, e_geI, e_lenL, e_lenT, e_lenR, e_lenS, e_ixL, e_ixT, at0, at1, at2, at3, e_tupL, e_tupT, e_lstT, e_Own, e_ownK, e_Sub, e_For, e_Items, e_itL, e_itT, e_itR, e_Call, e_CallF, e_aNil, e_aVal, e_aVK, e_aVK2, step0, step1, step2, step3, out0, out1, out2, out3, outX1, outX2, outO1, outO2, outO3, e_onSh, e_onOw, decide_true, decide_false, Bool.not_true, Bool.not_false, List.cons_append, List.nil_append, List.getElem?_cons_zero, List.getElem?_cons_succ, List.set_cons_zero, List.set_cons_succ, Nat.reduceLT, Nat.reduceAdd, Nat.reduceSub, Option.map_some, finF, outsE, e_frz, d_rng7, e_forK, e_tnN, e_tnC, e_tnB, e_tnR, e_whT, e_whF, e_Raise, e_Par, e_parK, e_parK2, e_augK, e_Ch, e_chK1, e_chK2, e_chT, e_chF, e_Try, e_tryO, e_tru, e_While, e_abs, e_max2, e_min2, e_gSq2, e_tup1, e_lst1, e_tup2, e_lst2, e_tup3, e_lst3, e_tup4, e_lst4, e_tup5, e_lst5, e_tup6, e_lst6, e_tup7, e_lst7, e_tup8, e_lst8, e]
  have s2 : sIf (dNot (dTru (dCall m__law_tongues_right (aIo 1 (aNil))))) (sRet (dC (.bl false))) (sNil) [some (.sh S), some (.ow m), none, none, none, none, none, none, none, none, none, none, none, none, none, none, none, none] = .ok .nx [some (.sh S), some (.ow m1), none, none, none, none, none, none, none, none, none, none, none, none, none, none, none, none] := by
    simp only [startE, List.map, List.length, List.replicate, e_Seq, e_Asg, e_Ret, e_RetF, e_Expr, e_exprK, e_op, e_op2, e_op1, e_un, e_is, e_B, e_bK, e_Cons, e_consK, e_consK2, e_Nil, e_var, e_C, e_bind, e_bindX, e_bindB, e_lookS, e_lookO, M.toD, e_of, e_asgK, e_gSet, e_stK, e_sqN, e_sqR, e_sqB, e_sqC, e_sNil, e_retK, e_retFK, e_add, e_vI, e_neg, e_fInt, e_fIntB, e_sIf, e_sifT, e_sifF, e_T, e_toB, e_Tru, e_truB, e_And, e_Or, e_andT, e_andF, e_orT, e_orF, e_Not, e_notK, e_AndV, e_OrV, e_andVT, e_andVF, e_orVT, e_orVF, e_NotV, e_notVK, e_If, e_ifT, e_ifF, e_Tup, e_Lst, e_LstF, e_tup0, e_lst0, e_lstF0, e_eqI, e_neI, e_ltI, e_leI, e_gtI, e_geI, e_lenL, e_lenT, e_lenR, e_lenS, e_ixL, e_ixT, at0, at1, at2, at3, e_tupL, e_tupT, e_lstT, e_Own, e_ownK, e_Sub, e_For, e_Items, e_itL, e_itT, e_itR, e_Call, e_CallF, e_aNil, e_aVal, e_aVK, e_aVK2, step0, step1, step2, step3, out0, out1, out2, out3, outX1, outX2, outO1, outO2, outO3, e_onSh, e_onOw, decide_true, decide_false, Bool.not_true, Bool.not_false, List.cons_append, List.nil_append, List.getElem?_cons_zero, List.getElem?_cons_succ, List.set_cons_zero, List.set_cons_succ, Nat.reduceLT, Nat.reduceAdd, Nat.reduceSub, Option.map_some, finF, outsE, e_frz, d_rng7, e_forK, e_tnN, e_tnC, e_tnB, e_tnR, e_whT, e_whF, e_Raise, e_Par, e_parK, e_parK2, e_augK, e_Ch, e_chK1, e_chK2, e_chT, e_chF, e_Try, e_tryO, e_tru, e_While, e_abs, e_max2, e_min2, e_gSq2, e_tup1, e_lst1, e_tup2, e_lst2, e_tup3, e_lst3, e_tup4, e_lst4, e_tup5, e_lst5, e_tup6, e_lst6, e_tup7, e_lst7, e_tup8, e_lst8, e_aIo (m := m), stepO1 (m := m), e1]
  have s3 : sAsg (dCall m__law_world (aIo 1 (aNil))) (gSet 2) [some (.sh S), some (.ow m1), none, none, none, none, none, none, none, none, none, none, none, none, none, none, none, none] = .ok .nx [some (.sh S), some (.ow m2), some (.sh (WD ns ps)), none, none, none, none, none, none, none, none, none, none, none, none, none, none, none] := by
    simp only [startE, List.map, List.length, List.replicate, e_Seq, e_Asg, e_Ret, e_RetF, e_Expr, e_exprK, e_op, e_op2, e_op1, e_un, e_is, e_B, e_bK, e_Cons, e_consK, e_consK2, e_Nil, e_var, e_C, e_bind, e_bindX, e_bindB, e_lookS, e_lookO, M.toD, e_of, e_asgK, e_gSet, e_stK, e_sqN, e_sqR, e_sqB, e_sqC, e_sNil, e_retK, e_retFK, e_add, e_vI, e_neg, e_fInt, e_fIntB, e_sIf, e_sifT, e_sifF, e_T, e_toB, e_Tru, e_truB, e_And, e_Or, e_andT, e_andF, e_orT, e_orF, e_Not, e_notK, e_AndV, e_OrV, e_andVT, e_andVF, e_orVT, e_orVF, e_NotV, e_notVK, e_If, e_ifT, e_ifF, e_Tup, e_Lst, e_LstF, e_tup0, e_lst0, e_lstF0, e_eqI, e_neI, e_ltI, e_leI, e_gtI, e_geI, e_lenL, e_lenT, e_lenR, e_lenS, e_ixL, e_ixT, at0, at1, at2, at3, e_tupL, e_tupT, e_lstT, e_Own, e_ownK, e_Sub, e_For, e_Items, e_itL, e_itT, e_itR, e_Call, e_CallF, e_aNil, e_aVal, e_aVK, e_aVK2, step0, step1, step2, step3, out0, out1, out2, out3, outX1, outX2, outO1, outO2, outO3, e_onSh, e_onOw, decide_true, decide_false, Bool.not_true, Bool.not_false, List.cons_append, List.nil_append, List.getElem?_cons_zero, List.getElem?_cons_succ, List.set_cons_zero, List.set_cons_succ, Nat.reduceLT, Nat.reduceAdd, Nat.reduceSub, Option.map_some, finF, outsE, e_frz, d_rng7, e_forK, e_tnN, e_tnC, e_tnB, e_tnR, e_whT, e_whF, e_Raise, e_Par, e_parK, e_parK2, e_augK, e_Ch, e_chK1, e_chK2, e_chT, e_chF, e_Try, e_tryO, e_tru, e_While, e_abs, e_max2, e_min2, e_gSq2, e_tup1, e_lst1, e_tup2, e_lst2, e_tup3, e_lst3, e_tup4, e_lst4, e_tup5, e_lst5, e_tup6, e_lst6, e_tup7, e_lst7, e_tup8, e_lst8, e_aIo (m := m1), stepO1 (m := m1), e2, WD]
  obtain ⟨ρ', e4, h4⟩ := for_inv (g := gSet 3) (body := lB) (PL ns ps) ((List.range 5).map fun i => D.int (0 + (i : Nat))) [some (.sh S), some (.ow m2), some (.sh (WD ns ps)), none, none, none, none, none, none, none, none, none, none, none, none, none, none, none] (fun x hx ρ hp => by
    obtain ⟨i, _, rfl⟩ := List.mem_map.mp hx
    obtain ⟨m, o0, o3, o4, o5, o6, o7, o8, o9, o10, o11, o12, o13, o14, o15, o16, o17, g, rfl⟩ := hp
    obtain ⟨ρ2, e, h⟩ := lB_ok (o0 := o0) (o4 := o4) (o5 := o5) (o6 := o6) (o7 := o7) (o8 := o8) (o9 := o9) (o10 := o10) (o11 := o11) (o12 := o12) (o13 := o13) (o14 := o14) (o15 := o15) (o16 := o16) (o17 := o17) g w (0 + (i : Nat))
    exact ⟨_, ρ2, rfl, .inl e, h⟩) ⟨m2, _, _, _, _, _, _, _, _, _, _, _, _, _, _, _, _, g2, rfl⟩
  have r5 : rng 0 5 = (List.range 5).map fun i => D.int (0 + (i : Nat)) := rfl
  rw [← r5] at e4
  have s4 : sFor (dRng1 (dC (.int 5))) (gSet 3) lB [some (.sh S), some (.ow m2), some (.sh (WD ns ps)), none, none, none, none, none, none, none, none, none, none, none, none, none, none, none] = .ok .nx ρ' := by
    have k5 := fun ρ => e_rng1K 5 ρ (by decide)
    clear r5
    generalize rng 0 5 = ds at *
    rw [e_For, e_Rng1, e_C, e_bind, k5, e_bind, e_forK]
    exact e4
  refine (e_run [] 18 _ _ rfl).trans ?_
  rw [law_cut, show startE 18 [.sh S] = [some (.sh S), none, none, none, none, none, none, none, none, none, none, none, none, none, none, none, none, none] from rfl, seq_ok s1, seq_ok s2, seq_ok s3, seq_ok s4]
  rfl
end L05
set_option Elab.async false
set_option linter.all false
set_option maxRecDepth 100000
set_option maxHeartbeats 4000000
namespace L05
open PySem PySem.Spec L2 Rf
def top (i : Nat) : Stmt := PySem.Challenge.pw_whosetomorrow_k05_whole_tongues_and_situ.main.body.getD i (.Pass ⟨0, 0, 0, 0⟩)
structure Txt (K : PySem.W.Frag) (mg : Str → Option Value) (C : Nat → Addr) : Prop where
  b_all : mg "all" = none
  b_bool : mg "bool" = none
  b_enumerate : mg "enumerate" = none
  b_int : mg "int" = none
  b_isinstance : mg "isinstance" = none
  b_len : mg "len" = none
  b_list : mg "list" = none
  b_range : mg "range" = none
  b_str : mg "str" = none
  b_tuple : mg "tuple" = none
  x_BadTongue : ExF K mg (C 1) "BadTongue"
  x_BadSituation : ExN K mg (C 2) "BadSituation"
  xo_BadSituation : OexC K (C 2)
  xh_BadSituation_what : PySem.W.findIn K (.ref (C 2)) "what" = some none
  d_BadSituation : Dm K (C 2) "__init__" "BadSituation.__init__" (inClass (top 3) 0) ["self", "what"]
  bi_TalkError : BaseI K mg "TalkError"
  xf_what : XfOk K C "what" (fun c => c == 2)
  io_Situation : IsO K C (.ref (C 4)) io_Situation
  xn_Situation : mg "Situation" = some (.ref (C 4))
  io_Tongue : IsO K C (.ref (C 3)) io_Tongue
  xn_Tongue : mg "Tongue" = some (.ref (C 3))
  fl_shifts_person : FlOk K C "shifts_person" (fun c => c == 3)
  fl_shifts_you : FlOk K C "shifts_you" (fun c => c == 3)
  fl_shifts_today : FlOk K C "shifts_today" (fun c => c == 3)
  fl_shifts_here : FlOk K C "shifts_here" (fun c => c == 3)
  fl_shifts : FlOk K C "shifts" (fun c => c == 3)
  fl_place : FlOk K C "place" (fun c => c == 4)
  fl_day : FlOk K C "day" (fun c => c == 4)
  fl_hearer : FlOk K C "hearer" (fun c => c == 4)
  fl_teller : FlOk K C "teller" (fun c => c == 4)
  cl_Tongue : Cls K (C 3)
  cm_Tongue : Cm K mg (C 3) "Tongue"
  cl_Situation : Cls K (C 4)
  cm_Situation : Cm K mg (C 4) "Situation"
  eq_nb : ∀ c, eq_is c = true → ∀ T, T ∈ ["NoneType", "bool", "int", "str", "tuple", "list", "dict"] → PySem.W.notFirst K (C c) (.type T) = true
  eq_no : ∀ c c2, eq_is c = true → eq_is c2 = true → PySem.W.notFirst K (C c) (.ref (C c2)) = true
  eq_ty : ∀ c2, eq_is c2 = true → Cls K (C c2) ∧ PySem.W.findIn K (.ref (C c2)) "__class__" = some (some (.builtin "object.__class__")) ∧ PySem.W.mroIn K (C c2) (.type "object") = some true
  eq_sp : PySem.W.specialIn K (.builtin "object.__class__") "__get__" = some (some (.builtin "getset_descriptor.__get__"))
  eq_tk : PySem.W.takesIn K (.builtin "object.__class__") = some true
  eq_ne : ∀ c, eq_is c = true → PySem.W.findIn K (.ref (C c)) "__ne__" = some (some (.builtin "object.__ne__")) ∧ PySem.W.mroIn K (C c) (.type "object") = some true
  sb : ∀ i j b, subT i j = some b → PySem.W.exmOne K (.ref (C i)) (.ref (C j)) = some b
  g_LETTERS : GC K mg C "LETTERS" g_LETTERS
  d__law_hand : Df K mg "_law_hand" (top 14) ["_law_script"]
  d__law_mixed : Df K mg "_law_mixed" (top 15) ["_law_number", "_law_turn"]
  d__law_take : Df K mg "_law_take" (top 16) ["_law_hand_here", "_law_many"]
  d__law_name : Df K mg "_law_name" (top 17) ["_law_hand_here"]
  d__law_names : Df K mg "_law_names" (top 18) ["_law_hand_here", "_law_many"]
  d__law_world : Df K mg "_law_world" (top 19) ["_law_hand_here"]
  d_Tongue___init__ : Dm K (C 3) "__init__" "Tongue.__init__" (inClass (top 9) 0) ["self", "person", "you", "today", "here"]
  d_all_tongues : Df K mg "all_tongues" (top 10) []
  d__law_tongue_tried : Df K mg "_law_tongue_tried" (top 25) ["_law_shifts"]
  d__law_unlike : Df K mg "_law_unlike" (top 23) ["_law_told", "_law_due_here"]
  d_Tongue___eq__ : Dm K (C 3) "__eq__" "Tongue.__eq__" (inClass (top 9) 1) ["self", "other"]
  d_Situation___eq__ : Dm K (C 4) "__eq__" "Situation.__eq__" (inClass (top 11) 1) ["self", "other"]
  d__law_tongues_right : Df K mg "_law_tongues_right" (top 32) ["_law_hand_here"]
  d__law_date : Df K mg "_law_date" (top 20) ["_law_hand_here"]
  d__law_situation : Df K mg "_law_situation" (top 21) ["_law_hand_here", "_law_world_here"]
  d_is_name : Df K mg "is_name" (top 7) ["thing"]
  d_is_whole : Df K mg "is_whole" (top 6) ["thing"]
  d_Situation___init__ : Dm K (C 4) "__init__" "Situation.__init__" (inClass (top 11) 0) ["self", "teller", "hearer", "day", "place"]
  d__law_tried : Df K mg "_law_tried" (top 26) ["_law_args"]
  d_Situation_moved : Dm K (C 4) "moved" "Situation.moved" (inClass (top 11) 2) ["self", "days"]
  d__law_moved : Df K mg "_law_moved" (top 27) ["_law_situation_here", "_law_days"]
  d_exchange_name : Df K mg "exchange_name" (top 12) ["name", "one", "other"]
  d_Situation_exchanged : Dm K (C 4) "exchanged" "Situation.exchanged" (inClass (top 11) 3) ["self", "one", "other"]
  d__law_exchanged : Df K mg "_law_exchanged" (top 28) ["_law_situation_here", "_law_one", "_law_other_here"]
  d__law_whole : Df K mg "_law_whole" (top 22) ["_law_thing"]
  d__law_letters : Df K mg "_law_letters" (top 24) ["_law_thing"]
  d__law_due : Df K mg "_law_due" (top 33) ["_law_args"]
  d__law_parts : Df K mg "_law_parts" (top 30) ["_law_situation_here"]
  d__law_other : Df K mg "_law_other" (top 31) ["_law_name_here", "_law_one", "_law_other_here"]
  d__law_name_exchanged : Df K mg "_law_name_exchanged" (top 29) ["_law_name_here", "_law_one", "_law_other_here"]
  d_law : Df K mg "law" (top 34) ["_law_script"]
section
variable {P : Program} {w : World} {K : PySem.W.Frag} {mg : Str → Option Value} {base : Heap} {C : Nat → Addr}
abbrev s__law_hand : Stmt := top 14
def N__law_hand : List Str := ["_law_script", "_law_total", "_law_cells", "_law_cell"]
theorem sc__law_hand : FnScope N__law_hand ["_law_script"] (defScope s__law_hand) := ⟨rfl, rfl, rfl, by decide +kernel, rfl, by decide +kernel, by decide +kernel⟩
theorem k__law_hand (T : Txt K mg C) : Fk P w K mg base C "_law_hand" 1 1 m__law_hand := fk_of T.d__law_hand sc__law_hand [] (by decide) fun f cdv A outer s H E ad hr =>
  dss_cons (ds_set (i := 1) sc__law_hand.nd (de_add (de_B cr_lenS vb_len rfl T.b_len (by decide +kernel) (da_cons (de_var 0) (da_nil))) (de_int)))
  (dss_cons (ds_own (i := 2) sc__law_hand.nd (df_list (da_nil)))
  (dss_cons (ds_for (passes_of rfl) rfl (di_seq (de_var 0)) (dg_name (i := 3) sc__law_hand.nd rfl (by first | exact Or.inl rfl | exact Or.inr rfl) rfl) (dss_cons (ds_set (i := 1) sc__law_hand.nd (de_mod (de_T call_int1 vb_int rfl T.b_int (by decide +kernel) (da_cons (de_add (de_mul (de_var 1) (de_int)) (de_T call_int1 vb_int rfl T.b_int (by decide +kernel) (da_cons (de_var 3) (da_nil)))) (da_nil))) (de_int)))
  (dss_one (ds_app 2 (de_if (dt_c .ge (hu65 hr) (de_var 3) (de_int)) (de_T call_int1 vb_int rfl T.b_int (by decide +kernel) (da_cons (de_var 3) (da_nil))) (de_neg (de_T call_int1 vb_int rfl T.b_int (by decide +kernel) (da_cons (de_var 3) (da_nil)))))))))
  (dss_one (ds_retF (df_list (da_cons (de_var 2) (da_cons (de_int) (da_cons (de_int) (da_cons (de_var 1) (da_nil))))))))))
abbrev s__law_mixed : Stmt := top 15
def N__law_mixed : List Str := ["_law_number", "_law_turn", "_law_once", "_law_twice"]
theorem sc__law_mixed : FnScope N__law_mixed ["_law_number", "_law_turn"] (defScope s__law_mixed) := ⟨rfl, rfl, rfl, by decide +kernel, rfl, by decide +kernel, by decide +kernel⟩
theorem k__law_mixed (T : Txt K mg C) : Fk P w K mg base C "_law_mixed" 2 1 m__law_mixed := fk_of T.d__law_mixed sc__law_mixed [] (by decide) fun f cdv A outer s H E ad hr =>
  dss_cons (ds_set (i := 2) sc__law_mixed.nd (de_mod (de_T call_int1 vb_int rfl T.b_int (by decide +kernel) (da_cons (de_add (de_add (de_mul (de_var 0) (de_int)) (de_mul (de_var 1) (de_int))) (de_int)) (da_nil))) (de_int)))
  (dss_cons (ds_set (i := 3) sc__law_mixed.nd (de_mod (de_T call_int1 vb_int rfl T.b_int (by decide +kernel) (da_cons (de_add (de_add (de_mul (de_var 2) (de_var 2)) (de_mul (de_var 1) (de_int))) (de_div (de_var 2) (de_int))) (da_nil))) (de_int)))
  (dss_one (ds_ret (de_div (de_T call_int1 vb_int rfl T.b_int (by decide +kernel) (da_cons (de_mod (de_T call_int1 vb_int rfl T.b_int (by decide +kernel) (da_cons (de_add (de_mul (de_var 3) (de_int)) (de_div (de_var 2) (de_int))) (da_nil))) (de_int)) (da_nil))) (de_int)))))
abbrev s__law_take : Stmt := top 16
def N__law_take : List Str := ["_law_hand_here", "_law_many", "_law_cell", "_law_rest"]
theorem sc__law_take : FnScope N__law_take ["_law_hand_here", "_law_many"] (defScope s__law_take) := ⟨rfl, rfl, rfl, by decide +kernel, rfl, by decide +kernel, by decide +kernel⟩
theorem k__law_take (T : Txt K mg C) (K__law_mixed : Fk P w K mg base C "_law_mixed" 2 1 m__law_mixed) : Fk P w K mg base C "_law_take" 2 2 m__law_take := fk_of T.d__law_take sc__law_take [0] (by decide) fun f cdv A outer s H E ad hr =>
  dss_cons (ds_if (dt_w (dw_and (dt_c .eq (hu65 hr) (de_ixO 0 (de_int)) (de_int)) (dw_and1 (dt_c .lt (hu65 hr) (de_ixO 0 (de_int)) (de_B cr_lenS vb_len rfl T.b_len (by decide +kernel) (da_cons (de_ixO 0 (de_int)) (da_nil))))))) (dss_cons (ds_set (i := 2) sc__law_take.nd (de_ix (de_ixO 0 (de_int)) (de_ixO 0 (de_int))))
  (dss_cons (ds_sub 0 (de_add (de_ixO 0 (de_int)) (de_int)) (de_int))
  (dss_cons (ds_if (dt_c .lt (hu65 hr) (de_var 2) (de_pow (de_int) (de_int))) (dss_one (ds_ret (de_mod (de_T call_int1 vb_int rfl T.b_int (by decide +kernel) (da_cons (de_call (K__law_mixed.callee (hr.mono (by decide))) (takes_of rfl rfl rfl rfl) (dag_val (de_mod (de_T call_int1 vb_int rfl T.b_int (by decide +kernel) (da_cons (de_var 2) (da_nil))) (de_int)) (dag_val (de_ixO 0 (de_int)) (dag_nil))) (many_val (many_val (many_nil)))) (da_nil))) (de_var 1)))) (dss_nil))
  (dss_one (ds_sub 0 (de_var 2) (de_int)))))) (dss_nil))
  (dss_cons (ds_if (dt_c .gt (hu65 hr) (de_ixO 0 (de_int)) (de_int)) (dss_cons (ds_set (i := 3) sc__law_take.nd (de_ixO 0 (de_int)))
  (dss_cons (ds_sub 0 (de_div (de_T call_int1 vb_int rfl T.b_int (by decide +kernel) (da_cons (de_var 3) (da_nil))) (de_var 1)) (de_int))
  (dss_one (ds_ret (de_mod (de_T call_int1 vb_int rfl T.b_int (by decide +kernel) (da_cons (de_var 3) (da_nil))) (de_var 1)))))) (dss_nil))
  (dss_cons (ds_sub 0 (de_mod (de_T call_int1 vb_int rfl T.b_int (by decide +kernel) (da_cons (de_add (de_ixO 0 (de_int)) (de_int)) (da_nil))) (de_int)) (de_int))
  (dss_one (ds_ret (de_mod (de_T call_int1 vb_int rfl T.b_int (by decide +kernel) (da_cons (de_call (K__law_mixed.callee (hr.mono (by decide))) (takes_of rfl rfl rfl rfl) (dag_val (de_ixO 0 (de_int)) (dag_val (de_ixO 0 (de_int)) (dag_nil))) (many_val (many_val (many_nil)))) (da_nil))) (de_var 1))))))
abbrev s__law_name : Stmt := top 17
def N__law_name : List Str := ["_law_hand_here", "_law_text", "_law_turn"]
theorem sc__law_name : FnScope N__law_name ["_law_hand_here"] (defScope s__law_name) := ⟨rfl, rfl, rfl, by decide +kernel, rfl, by decide +kernel, by decide +kernel⟩
theorem k__law_name (T : Txt K mg C) (K__law_take : Fk P w K mg base C "_law_take" 2 2 m__law_take) : Fk P w K mg base C "_law_name" 1 3 m__law_name := fk_of T.d__law_name sc__law_name [0] (by decide) fun f cdv A outer s H E ad hr =>
  dss_cons (ds_set (i := 1) sc__law_name.nd (de_str))
  (dss_cons (ds_for (passes_of rfl) rfl (di_rng1 rfl T.b_range (de_add (de_int) (de_call (K__law_take.callee (hr.mono (by decide))) (takes_of rfl rfl rfl rfl) (dag_io 0 (dag_val (de_int) (dag_nil))) (many_io (many_val (many_nil)))))) (dg_name (i := 2) sc__law_name.nd rfl (by first | exact Or.inl rfl | exact Or.inr rfl) rfl) (dss_one (ds_set (i := 1) sc__law_name.nd (de_add (de_var 1) (de_ix (de_str) (de_call (K__law_take.callee (hr.mono (by decide))) (takes_of rfl rfl rfl rfl) (dag_io 0 (dag_val (de_int) (dag_nil))) (many_io (many_val (many_nil)))))))))
  (dss_one (ds_ret (de_var 1))))
abbrev s__law_names : Stmt := top 18
def N__law_names : List Str := ["_law_hand_here", "_law_many", "_law_names_here", "_law_turn", "_law_name_here", "_law_near"]
theorem sc__law_names : FnScope N__law_names ["_law_hand_here", "_law_many"] (defScope s__law_names) := ⟨rfl, rfl, rfl, by decide +kernel, rfl, by decide +kernel, by decide +kernel⟩
theorem k__law_names (T : Txt K mg C) (K__law_name : Fk P w K mg base C "_law_name" 1 3 m__law_name) : Fk P w K mg base C "_law_names" 2 4 m__law_names := fk_of T.d__law_names sc__law_names [0] (by decide) fun f cdv A outer s H E ad hr =>
  dss_cons (ds_own (i := 2) sc__law_names.nd (df_list (da_nil)))
  (dss_cons (ds_for (passes_of rfl) rfl (di_rng1 rfl T.b_range (de_var 1)) (dg_name (i := 3) sc__law_names.nd rfl (by first | exact Or.inl rfl | exact Or.inr rfl) rfl) (dss_cons (ds_set (i := 4) sc__law_names.nd (de_call (K__law_name.callee (hr.mono (by decide))) (takes_of rfl rfl rfl rfl) (dag_io 0 (dag_nil)) (many_io (many_nil))))
  (dss_cons (ds_if (dt_inO false 2 (hu65 hr) (de_var 4)) (dss_one (ds_set (i := 4) sc__law_names.nd (de_ix (de_of (df_lc (own := [("_law_near", 5)]) (sl := [5]) rfl sc__law_names.nd (di_seq (de_list (da_cons (de_str) (da_cons (de_str) (da_cons (de_str) (da_cons (de_str) (da_nil))))))) (blkOk_by (N := N__law_names) (sc := defScope s__law_names) (by decide +kernel)) (by decide) (fun _ _ _ _ _ => dg_name (i := 5) sc__law_names.nd rfl (by first | exact Or.inl rfl | exact Or.inr rfl) rfl) (fun _ _ _ _ _ => dts_one (dt_inO true 2 (hu65 hr) (de_var 5))) (fun _ _ _ _ _ => de_var 5))) (de_int)))) (dss_nil))
  (dss_one (ds_app 2 (de_var 4))))))
  (dss_one (ds_ret (de_var 2))))
abbrev s__law_world : Stmt := top 19
def N__law_world : List Str := ["_law_hand_here"]
theorem sc__law_world : FnScope N__law_world ["_law_hand_here"] (defScope s__law_world) := ⟨rfl, rfl, rfl, by decide +kernel, rfl, by decide +kernel, by decide +kernel⟩
theorem k__law_world (T : Txt K mg C) (K__law_names : Fk P w K mg base C "_law_names" 2 4 m__law_names) : Fk P w K mg base C "_law_world" 1 5 m__law_world := fk_of T.d__law_world sc__law_world [0] (by decide) fun f cdv A outer s H E ad hr =>
  dss_one (ds_ret (de_list (da_cons (de_call (K__law_names.callee (hr.mono (by decide))) (takes_of rfl rfl rfl rfl) (dag_io 0 (dag_val (de_int) (dag_nil))) (many_io (many_val (many_nil)))) (da_cons (de_call (K__law_names.callee (hr.mono (by decide))) (takes_of rfl rfl rfl rfl) (dag_io 0 (dag_val (de_int) (dag_nil))) (many_io (many_val (many_nil)))) (da_nil)))))
abbrev s_Tongue___init__ : Stmt := inClass (top 9) 0
def N_Tongue___init__ : List Str := ["self", "person", "you", "today", "here", "shift"]
theorem sc_Tongue___init__ : FnScope N_Tongue___init__ ["self", "person", "you", "today", "here"] (defScope s_Tongue___init__) := ⟨rfl, rfl, rfl, by decide +kernel, rfl, by decide +kernel, by decide +kernel⟩
theorem k_Tongue___init__ (T : Txt K mg C) : Ik P w K mg base C "Tongue" 3 5 1 m_Tongue___init__ := ik_of T.cm_Tongue T.d_Tongue___init__ sc_Tongue___init__ [0] (by decide) fun f cdv A outer s H E ad hr =>
  dss_cons (ds_for (passes_of rfl) rfl (di_seq (de_tuple (da_cons (de_var 1) (da_cons (de_var 2) (da_cons (de_var 3) (da_cons (de_var 4) (da_nil))))))) (dg_name (i := 5) sc_Tongue___init__.nd rfl (by first | exact Or.inl rfl | exact Or.inr rfl) rfl) (dss_one (ds_if (dt_not (dt_tru (de_isT (T := "bool") rfl T.b_isinstance (by decide +kernel) rfl T.b_bool (by decide +kernel) (de_var 5)))) (dss_one (ds_raise0 (c := 1) rfl (takes_of rfl rfl rfl rfl) (T.x_BadTongue.pmk rfl))) (dss_nil))))
  (dss_cons (ds_fld 0 T.fl_shifts_person (de_var 1))
  (dss_cons (ds_fld 0 T.fl_shifts_you (de_var 2))
  (dss_cons (ds_fld 0 T.fl_shifts_today (de_var 3))
  (dss_cons (ds_fld 0 T.fl_shifts_here (de_var 4))
  (dss_one (ds_fld 0 T.fl_shifts (de_tuple (da_cons (de_var 1) (da_cons (de_var 2) (da_cons (de_var 3) (da_cons (de_var 4) (da_nil))))))))))))
abbrev s_all_tongues : Stmt := top 10
def N_all_tongues : List Str := ["rows", "number"]
theorem sc_all_tongues : FnScope N_all_tongues [] (defScope s_all_tongues) := ⟨rfl, rfl, rfl, by decide +kernel, rfl, by decide +kernel, by decide +kernel⟩
theorem k_all_tongues (T : Txt K mg C) (I_Tongue : Ik P w K mg base C "Tongue" 3 5 1 m_Tongue___init__) : Fk P w K mg base C "all_tongues" 0 3 m_all_tongues := fk_of T.d_all_tongues sc_all_tongues [] (by decide) fun f cdv A outer s H E ad hr =>
  dss_cons (ds_own (i := 0) sc_all_tongues.nd (df_list (da_nil)))
  (dss_cons (ds_for (passes_of rfl) rfl (di_rng1 rfl T.b_range (de_int)) (dg_name (i := 1) sc_all_tongues.nd rfl (by first | exact Or.inl rfl | exact Or.inr rfl) rfl) (dss_one (ds_app 0 (de_of (df_make I_Tongue (hr.mono (by decide)) (takes_of rfl rfl rfl rfl) (da_cons (de_c .ge (hu65 hr) (de_var 1) (de_int)) (da_cons (de_c .eq (hu65 hr) (de_mod (de_div (de_var 1) (de_int)) (de_int)) (de_int)) (da_cons (de_c .eq (hu65 hr) (de_mod (de_div (de_var 1) (de_int)) (de_int)) (de_int)) (da_cons (de_c .eq (hu65 hr) (de_mod (de_var 1) (de_int)) (de_int)) (da_nil))))))))))
  (dss_one (ds_ret (de_T call_tuple_of vb_tuple rfl T.b_tuple (by decide +kernel) (da_cons (de_var 0) (da_nil))))))
abbrev s__law_tongue_tried : Stmt := top 25
def N__law_tongue_tried : List Str := ["_law_shifts", "_law_person", "_law_you", "_law_today", "_law_here", "_law_told"]
theorem sc__law_tongue_tried : FnScope N__law_tongue_tried ["_law_shifts"] (defScope s__law_tongue_tried) := ⟨rfl, rfl, rfl, by decide +kernel, rfl, by decide +kernel, by decide +kernel⟩
theorem k__law_tongue_tried (T : Txt K mg C) (I_Tongue : Ik P w K mg base C "Tongue" 3 5 1 m_Tongue___init__) : Fk P w K mg base C "_law_tongue_tried" 1 3 m__law_tongue_tried := fk_of T.d__law_tongue_tried sc__law_tongue_tried [] (by decide) fun f cdv A outer s H E ad hr =>
  dss_cons (ds_asg (de_var 0) (dg_seq rfl (dgs_cons (dg_name (i := 1) sc__law_tongue_tried.nd rfl (by first | exact Or.inl rfl | exact Or.inr rfl) rfl) (dgs_cons (dg_name (i := 2) sc__law_tongue_tried.nd rfl (by first | exact Or.inl rfl | exact Or.inr rfl) rfl) (dgs_cons (dg_name (i := 3) sc__law_tongue_tried.nd rfl (by first | exact Or.inl rfl | exact Or.inr rfl) rfl) (dgs_cons (dg_name (i := 4) sc__law_tongue_tried.nd rfl (by first | exact Or.inl rfl | exact Or.inr rfl) rfl) (dgs_nil)))))))
  (dss_cons (ds_try (c := 1) rfl rfl (T.x_BadTongue.names rfl) (takes_of rfl rfl rfl rfl) T.sb (fun W_ pn_ xe_ tk_ po_ => dss_one (ds_set (i := 5) sc__law_tongue_tried.nd (de_of (df_make I_Tongue (hr.mono (by decide)) tk_ (da_cons (de_var 1) (da_cons (de_var 2) (da_cons (de_var 3) (da_cons (de_var 4) (da_nil))))))))) (fun a_ oe_ pn_ => dss_one (ds_ret (de_str))))
  (dss_one (ds_ret (de_var 5))))
abbrev s__law_unlike : Stmt := top 23
def N__law_unlike : List Str := ["_law_told", "_law_due_here"]
theorem sc__law_unlike : FnScope N__law_unlike ["_law_told", "_law_due_here"] (defScope s__law_unlike) := ⟨rfl, rfl, rfl, by decide +kernel, rfl, by decide +kernel, by decide +kernel⟩
theorem k__law_unlike (T : Txt K mg C) : Fk P w K mg base C "_law_unlike" 2 1 m__law_unlike := fk_of T.d__law_unlike sc__law_unlike [] (by decide) fun f cdv A outer s H E ad hr =>
  dss_one (ds_ret (de_if (dt_tru (de_var 1)) (de_c .notB (hu65 hr) (de_var 0) (de_bl)) (de_c .notB (hu65 hr) (de_var 0) (de_bl))))
abbrev s_Tongue___eq__ : Stmt := inClass (top 9) 1
def N_Tongue___eq__ : List Str := ["self", "other"]
theorem sc_Tongue___eq__ : FnScope N_Tongue___eq__ ["self", "other"] (defScope s_Tongue___eq__) := ⟨rfl, rfl, rfl, by decide +kernel, rfl, by decide +kernel, by decide +kernel⟩
theorem k_Tongue___eq__ (T : Txt K mg C) : Mf P w K mg base C "__eq__" 2 1 (fun j => if j = 3 then some m_Tongue___eq__ else none) := mf_of T.cl_Tongue T.d_Tongue___eq__ sc_Tongue___eq__ [] (by decide) fun f cdv A outer s H E ad hr =>
  dss_one (ds_ret (de_and (de_isO (j := 3) T.io_Tongue T.xn_Tongue rfl T.b_isinstance (by decide +kernel) (de_var 1)) (de_one (de_c .eq (hu65 hr) (de_fld T.fl_shifts (de_var 0)) (de_fld T.fl_shifts (de_var 1))))))
abbrev s_Situation___eq__ : Stmt := inClass (top 11) 1
def N_Situation___eq__ : List Str := ["self", "other"]
theorem sc_Situation___eq__ : FnScope N_Situation___eq__ ["self", "other"] (defScope s_Situation___eq__) := ⟨rfl, rfl, rfl, by decide +kernel, rfl, by decide +kernel, by decide +kernel⟩
theorem k_Situation___eq__ (T : Txt K mg C) : Mf P w K mg base C "__eq__" 2 1 (fun j => if j = 4 then some m_Situation___eq__ else none) := mf_of T.cl_Situation T.d_Situation___eq__ sc_Situation___eq__ [] (by decide) fun f cdv A outer s H E ad hr =>
  dss_one (ds_ret (de_and (de_isO (j := 4) T.io_Situation T.xn_Situation rfl T.b_isinstance (by decide +kernel) (de_var 1)) (de_and (de_c .eq (hu65 hr) (de_fld T.fl_teller (de_var 0)) (de_fld T.fl_teller (de_var 1))) (de_and (de_c .eq (hu65 hr) (de_fld T.fl_hearer (de_var 0)) (de_fld T.fl_hearer (de_var 1))) (de_and (de_c .eq (hu65 hr) (de_fld T.fl_day (de_var 0)) (de_fld T.fl_day (de_var 1))) (de_one (de_c .eq (hu65 hr) (de_fld T.fl_place (de_var 0)) (de_fld T.fl_place (de_var 1)))))))))
abbrev s__law_tongues_right : Stmt := top 32
def N__law_tongues_right : List Str := ["_law_hand_here", "_law_tongues", "_law_number", "_law_tongue", "_law_due_here", "_law_told", "_law_place", "_law_other_here", "_law_spoilt", "_law_shift"]
theorem sc__law_tongues_right : FnScope N__law_tongues_right ["_law_hand_here"] (defScope s__law_tongues_right) := ⟨rfl, rfl, rfl, by decide +kernel, rfl, by decide +kernel, by decide +kernel⟩
theorem k__law_tongues_right (T : Txt K mg C) (K_all_tongues : Fk P w K mg base C "all_tongues" 0 3 m_all_tongues) (K__law_take : Fk P w K mg base C "_law_take" 2 2 m__law_take) (K__law_tongue_tried : Fk P w K mg base C "_law_tongue_tried" 1 3 m__law_tongue_tried) (K__law_unlike : Fk P w K mg base C "_law_unlike" 2 1 m__law_unlike) (EQ : EqM P w K mg base C 1 t___eq__ eq_is) (NE : NeM K C t___eq__) : Fk P w K mg base C "_law_tongues_right" 1 4 m__law_tongues_right := fk_of T.d__law_tongues_right sc__law_tongues_right [0] (by decide) fun f cdv A outer s H E ad hr =>
  dss_cons (ds_set (i := 1) sc__law_tongues_right.nd (de_call0 (K_all_tongues.callee (hr.mono (by decide))) (takes_of rfl rfl rfl rfl)))
  (dss_cons (ds_if (dt_w (dw_or (dt_not (dt_tru (de_isT (T := "tuple") rfl T.b_isinstance (by decide +kernel) rfl T.b_tuple (by decide +kernel) (de_var 1)))) (dw_or1 (dt_neO EQ NE (hr.mono (by decide)) (hu65 hr) (de_B cr_lenS vb_len rfl T.b_len (by decide +kernel) (da_cons (de_var 1) (da_nil))) (de_int))))) (dss_one (ds_ret (de_bl))) (dss_nil))
  (dss_cons (ds_for (passes_of rfl) rfl (di_enumT rfl T.b_enumerate (de_var 1)) (dg_seq rfl (dgs_cons (dg_name (i := 2) sc__law_tongues_right.nd rfl (by first | exact Or.inl rfl | exact Or.inr rfl) rfl) (dgs_cons (dg_name (i := 3) sc__law_tongues_right.nd rfl (by first | exact Or.inl rfl | exact Or.inr rfl) rfl) (dgs_nil)))) (dss_cons (ds_set (i := 4) sc__law_tongues_right.nd (de_tuple (da_cons (de_c .ge (hu65 hr) (de_var 2) (de_int)) (da_cons (de_eqO EQ (hr.mono (by decide)) (hu65 hr) (de_mod (de_T call_int1 vb_int rfl T.b_int (by decide +kernel) (da_cons (de_div (de_var 2) (de_int)) (da_nil))) (de_int)) (de_int)) (da_cons (de_eqO EQ (hr.mono (by decide)) (hu65 hr) (de_mod (de_T call_int1 vb_int rfl T.b_int (by decide +kernel) (da_cons (de_div (de_var 2) (de_int)) (da_nil))) (de_int)) (de_int)) (da_cons (de_eqO EQ (hr.mono (by decide)) (hu65 hr) (de_mod (de_T call_int1 vb_int rfl T.b_int (by decide +kernel) (da_cons (de_var 2) (da_nil))) (de_int)) (de_int)) (da_nil)))))))
  (dss_cons (ds_set (i := 5) sc__law_tongues_right.nd (de_tuple (da_cons (de_fld T.fl_shifts_person (de_var 3)) (da_cons (de_fld T.fl_shifts_you (de_var 3)) (da_cons (de_fld T.fl_shifts_today (de_var 3)) (da_cons (de_fld T.fl_shifts_here (de_var 3)) (da_nil)))))))
  (dss_cons (ds_if (dt_w (dw_or (dt_neO EQ NE (hr.mono (by decide)) (hu65 hr) (de_var 5) (de_var 4)) (dw_or (dt_neO EQ NE (hr.mono (by decide)) (hu65 hr) (de_fld T.fl_shifts (de_var 3)) (de_var 4)) (dw_or (dt_not (dt_tru (de_isT (T := "tuple") rfl T.b_isinstance (by decide +kernel) rfl T.b_tuple (by decide +kernel) (de_fld T.fl_shifts (de_var 3))))) (dw_or1 (dt_not (dt_tru (de_B (cr_all rfl) vb_all rfl T.b_all (by decide +kernel) (da_cons (de_of (df_lc (own := [("_law_shift", 9)]) (sl := [9]) rfl sc__law_tongues_right.nd (di_seq (de_add (de_var 5) (de_fld T.fl_shifts (de_var 3)))) (blkOk_by (N := N__law_tongues_right) (sc := defScope s__law_tongues_right) (by decide +kernel)) (by decide) (fun _ _ _ _ _ => dg_name (i := 9) sc__law_tongues_right.nd rfl (by first | exact Or.inl rfl | exact Or.inr rfl) rfl) (fun _ _ _ _ _ => dts_nil) (fun _ _ _ _ _ => de_isT (T := "bool") rfl T.b_isinstance (by decide +kernel) rfl T.b_bool (by decide +kernel) (de_var 9)))) (da_nil)))))))))) (dss_one (ds_ret (de_bl))) (dss_nil))
  (dss_cons (ds_for (passes_of rfl) rfl (di_enumT rfl T.b_enumerate (de_var 1)) (dg_seq rfl (dgs_cons (dg_name (i := 6) sc__law_tongues_right.nd rfl (by first | exact Or.inl rfl | exact Or.inr rfl) rfl) (dgs_cons (dg_name (i := 7) sc__law_tongues_right.nd rfl (by first | exact Or.inl rfl | exact Or.inr rfl) rfl) (dgs_nil)))) (dss_one (ds_if (dt_w (dw_or (dt_tru (de_call (K__law_unlike.callee (hr.mono (by decide))) (takes_of rfl rfl rfl rfl) (dag_val (de_eqO EQ (hr.mono (by decide)) (hu65 hr) (de_var 3) (de_var 7)) (dag_val (de_eqO EQ (hr.mono (by decide)) (hu65 hr) (de_var 6) (de_var 2)) (dag_nil))) (many_val (many_val (many_nil))))) (dw_or1 (dt_tru (de_call (K__law_unlike.callee (hr.mono (by decide))) (takes_of rfl rfl rfl rfl) (dag_val (de_neO EQ NE (hr.mono (by decide)) (hu65 hr) (de_var 3) (de_var 7)) (dag_val (de_neO EQ NE (hr.mono (by decide)) (hu65 hr) (de_var 6) (de_var 2)) (dag_nil))) (many_val (many_val (many_nil)))))))) (dss_one (ds_ret (de_bl))) (dss_nil))))
  (dss_cons (ds_if (dt_w (dw_or (dt_neO EQ NE (hr.mono (by decide)) (hu65 hr) (de_call (K__law_tongue_tried.callee (hr.mono (by decide))) (takes_of rfl rfl rfl rfl) (dag_val (de_var 4) (dag_nil)) (many_val (many_nil))) (de_var 3)) (dw_or1 (dt_eqO EQ (hr.mono (by decide)) (hu65 hr) (de_var 3) (de_var 4))))) (dss_one (ds_ret (de_bl))) (dss_nil))
  (dss_cons (ds_own (i := 8) sc__law_tongues_right.nd (df_listOf rfl T.b_list (by decide +kernel) (de_var 4)))
  (dss_cons (ds_sub 8 (de_ix (de_list (da_cons (de_int) (da_cons (de_int) (da_cons (de_non) (da_cons (de_str) (da_cons (de_tuple (da_cons (de_bl) (da_nil))) (da_cons (de_neg (de_int)) (da_nil)))))))) (de_call (K__law_take.callee (hr.mono (by decide))) (takes_of rfl rfl rfl rfl) (dag_io 0 (dag_val (de_int) (dag_nil))) (many_io (many_val (many_nil))))) (de_call (K__law_take.callee (hr.mono (by decide))) (takes_of rfl rfl rfl rfl) (dag_io 0 (dag_val (de_int) (dag_nil))) (many_io (many_val (many_nil)))))
  (dss_one (ds_if (dt_neO EQ NE (hr.mono (by decide)) (hu65 hr) (de_call (K__law_tongue_tried.callee (hr.mono (by decide))) (takes_of rfl rfl rfl rfl) (dag_val (de_var 8) (dag_nil)) (many_val (many_nil))) (de_str)) (dss_one (ds_ret (de_bl))) (dss_nil)))))))))))
  (dss_one (ds_ret (de_bl)))))
abbrev s__law_date : Stmt := top 20
def N__law_date : List Str := ["_law_hand_here"]
theorem sc__law_date : FnScope N__law_date ["_law_hand_here"] (defScope s__law_date) := ⟨rfl, rfl, rfl, by decide +kernel, rfl, by decide +kernel, by decide +kernel⟩
theorem k__law_date (T : Txt K mg C) (K__law_take : Fk P w K mg base C "_law_take" 2 2 m__law_take) : Fk P w K mg base C "_law_date" 1 3 m__law_date := fk_of T.d__law_date sc__law_date [0] (by decide) fun f cdv A outer s H E ad hr =>
  dss_one (ds_ret (de_if (dt_c .eq (hu65 hr) (de_call (K__law_take.callee (hr.mono (by decide))) (takes_of rfl rfl rfl rfl) (dag_io 0 (dag_val (de_int) (dag_nil))) (many_io (many_val (many_nil)))) (de_int)) (de_sub (de_call (K__law_take.callee (hr.mono (by decide))) (takes_of rfl rfl rfl rfl) (dag_io 0 (dag_val (de_mul (de_int) (de_pow (de_int) (de_int))) (dag_nil))) (many_io (many_val (many_nil)))) (de_pow (de_int) (de_int))) (de_sub (de_call (K__law_take.callee (hr.mono (by decide))) (takes_of rfl rfl rfl rfl) (dag_io 0 (dag_val (de_int) (dag_nil))) (many_io (many_val (many_nil)))) (de_int))))
abbrev s__law_situation : Stmt := top 21
def N__law_situation : List Str := ["_law_hand_here", "_law_world_here", "_law_names_here"]
theorem sc__law_situation : FnScope N__law_situation ["_law_hand_here", "_law_world_here"] (defScope s__law_situation) := ⟨rfl, rfl, rfl, by decide +kernel, rfl, by decide +kernel, by decide +kernel⟩
theorem k__law_situation (T : Txt K mg C) (K__law_date : Fk P w K mg base C "_law_date" 1 3 m__law_date) (K__law_take : Fk P w K mg base C "_law_take" 2 2 m__law_take) : Fk P w K mg base C "_law_situation" 2 4 m__law_situation := fk_of T.d__law_situation sc__law_situation [0] (by decide) fun f cdv A outer s H E ad hr =>
  dss_cons (ds_set (i := 2) sc__law_situation.nd (de_ix (de_var 1) (de_int)))
  (dss_one (ds_ret (de_tuple (da_cons (de_ix (de_var 2) (de_call (K__law_take.callee (hr.mono (by decide))) (takes_of rfl rfl rfl rfl) (dag_io 0 (dag_val (de_B cr_lenS vb_len rfl T.b_len (by decide +kernel) (da_cons (de_var 2) (da_nil))) (dag_nil))) (many_io (many_val (many_nil))))) (da_cons (de_ix (de_var 2) (de_call (K__law_take.callee (hr.mono (by decide))) (takes_of rfl rfl rfl rfl) (dag_io 0 (dag_val (de_B cr_lenS vb_len rfl T.b_len (by decide +kernel) (da_cons (de_var 2) (da_nil))) (dag_nil))) (many_io (many_val (many_nil))))) (da_cons (de_call (K__law_date.callee (hr.mono (by decide))) (takes_of rfl rfl rfl rfl) (dag_io 0 (dag_nil)) (many_io (many_nil))) (da_cons (de_ix (de_ix (de_var 1) (de_int)) (de_call (K__law_take.callee (hr.mono (by decide))) (takes_of rfl rfl rfl rfl) (dag_io 0 (dag_val (de_B cr_lenS vb_len rfl T.b_len (by decide +kernel) (da_cons (de_ix (de_var 1) (de_int)) (da_nil))) (dag_nil))) (many_io (many_val (many_nil))))) (da_nil))))))))
abbrev s_is_name : Stmt := top 7
def N_is_name : List Str := ["thing", "sign"]
theorem sc_is_name : FnScope N_is_name ["thing"] (defScope s_is_name) := ⟨rfl, rfl, rfl, by decide +kernel, rfl, by decide +kernel, by decide +kernel⟩
theorem k_is_name (T : Txt K mg C) : Fk P w K mg base C "is_name" 1 1 m_is_name := fk_of T.d_is_name sc_is_name [] (by decide) fun f cdv A outer s H E ad hr =>
  dss_cons (ds_if (dt_w (dw_or (dt_not (dt_tru (de_isT (T := "str") rfl T.b_isinstance (by decide +kernel) rfl T.b_str (by decide +kernel) (de_var 0)))) (dw_or1 (dt_not (dt_chain .le .le (hu65 hr) (de_int) (de_B cr_lenS vb_len rfl T.b_len (by decide +kernel) (da_cons (de_var 0) (da_nil))) (de_int)))))) (dss_one (ds_ret (de_bl))) (dss_nil))
  (dss_one (ds_ret (de_B (cr_all rfl) vb_all rfl T.b_all (by decide +kernel) (da_cons (de_of (df_lc (own := [("sign", 1)]) (sl := [1]) rfl sc_is_name.nd (di_seq (de_var 0)) (blkOk_by (N := N_is_name) (sc := defScope s_is_name) (by decide +kernel)) (by decide) (fun _ _ _ _ _ => dg_name (i := 1) sc_is_name.nd rfl (by first | exact Or.inl rfl | exact Or.inr rfl) rfl) (fun _ _ _ _ _ => dts_nil) (fun _ _ _ _ _ => de_c .in_ (hu65 hr) (de_var 1) (de_glob T.g_LETTERS)))) (da_nil)))))
abbrev s_is_whole : Stmt := top 6
def N_is_whole : List Str := ["thing"]
theorem sc_is_whole : FnScope N_is_whole ["thing"] (defScope s_is_whole) := ⟨rfl, rfl, rfl, by decide +kernel, rfl, by decide +kernel, by decide +kernel⟩
theorem k_is_whole (T : Txt K mg C) : Fk P w K mg base C "is_whole" 1 1 m_is_whole := fk_of T.d_is_whole sc_is_whole [] (by decide) fun f cdv A outer s H E ad hr =>
  dss_one (ds_ret (de_and (de_isT (T := "int") rfl T.b_isinstance (by decide +kernel) rfl T.b_int (by decide +kernel) (de_var 0)) (de_one (de_not (de_isT (T := "bool") rfl T.b_isinstance (by decide +kernel) rfl T.b_bool (by decide +kernel) (de_var 0))))))
abbrev s_Situation___init__ : Stmt := inClass (top 11) 0
def N_Situation___init__ : List Str := ["self", "teller", "hearer", "day", "place"]
theorem sc_Situation___init__ : FnScope N_Situation___init__ ["self", "teller", "hearer", "day", "place"] (defScope s_Situation___init__) := ⟨rfl, rfl, rfl, by decide +kernel, rfl, by decide +kernel, by decide +kernel⟩
theorem k_Situation___init__ (T : Txt K mg C) (K_is_name : Fk P w K mg base C "is_name" 1 1 m_is_name) (K_is_whole : Fk P w K mg base C "is_whole" 1 1 m_is_whole) (X_BadSituation : ExI P w K mg base (C 2) "BadSituation" ["what"] 1) : Ik P w K mg base C "Situation" 4 5 3 m_Situation___init__ := ik_of T.cm_Situation T.d_Situation___init__ sc_Situation___init__ [0] (by decide) fun f cdv A outer s H E ad hr =>
  dss_cons (ds_if (dt_not (dt_tru (de_call (K_is_name.callee (hr.mono (by decide))) (takes_of rfl rfl rfl rfl) (dag_val (de_var 1) (dag_nil)) (many_val (many_nil))))) (dss_one (ds_raiseF (c := 2) rfl (takes_of rfl rfl rfl rfl) X_BadSituation (hr.mono (by decide)) rfl T.x_BadSituation.raises (da_cons (de_str) (da_nil)))) (dss_nil))
  (dss_cons (ds_if (dt_not (dt_tru (de_call (K_is_name.callee (hr.mono (by decide))) (takes_of rfl rfl rfl rfl) (dag_val (de_var 2) (dag_nil)) (many_val (many_nil))))) (dss_one (ds_raiseF (c := 2) rfl (takes_of rfl rfl rfl rfl) X_BadSituation (hr.mono (by decide)) rfl T.x_BadSituation.raises (da_cons (de_str) (da_nil)))) (dss_nil))
  (dss_cons (ds_if (dt_not (dt_tru (de_call (K_is_whole.callee (hr.mono (by decide))) (takes_of rfl rfl rfl rfl) (dag_val (de_var 3) (dag_nil)) (many_val (many_nil))))) (dss_one (ds_raiseF (c := 2) rfl (takes_of rfl rfl rfl rfl) X_BadSituation (hr.mono (by decide)) rfl T.x_BadSituation.raises (da_cons (de_str) (da_nil)))) (dss_nil))
  (dss_cons (ds_if (dt_not (dt_tru (de_call (K_is_name.callee (hr.mono (by decide))) (takes_of rfl rfl rfl rfl) (dag_val (de_var 4) (dag_nil)) (many_val (many_nil))))) (dss_one (ds_raiseF (c := 2) rfl (takes_of rfl rfl rfl rfl) X_BadSituation (hr.mono (by decide)) rfl T.x_BadSituation.raises (da_cons (de_str) (da_nil)))) (dss_nil))
  (dss_cons (ds_fld 0 T.fl_teller (de_var 1))
  (dss_cons (ds_fld 0 T.fl_hearer (de_var 2))
  (dss_cons (ds_fld 0 T.fl_day (de_var 3))
  (dss_one (ds_fld 0 T.fl_place (de_var 4)))))))))
abbrev s__law_tried : Stmt := top 26
def N__law_tried : List Str := ["_law_args", "_law_teller", "_law_hearer", "_law_day", "_law_place", "_law_told", "raised"]
theorem sc__law_tried : FnScope N__law_tried ["_law_args"] (defScope s__law_tried) := ⟨rfl, rfl, rfl, by decide +kernel, rfl, by decide +kernel, by decide +kernel⟩
theorem k__law_tried (T : Txt K mg C) (I_Situation : Ik P w K mg base C "Situation" 4 5 3 m_Situation___init__) : Fk P w K mg base C "_law_tried" 1 5 m__law_tried := fk_of T.d__law_tried sc__law_tried [] (by decide) fun f cdv A outer s H E ad hr =>
  dss_cons (ds_asg (de_var 0) (dg_seq rfl (dgs_cons (dg_name (i := 1) sc__law_tried.nd rfl (by first | exact Or.inl rfl | exact Or.inr rfl) rfl) (dgs_cons (dg_name (i := 2) sc__law_tried.nd rfl (by first | exact Or.inl rfl | exact Or.inr rfl) rfl) (dgs_cons (dg_name (i := 3) sc__law_tried.nd rfl (by first | exact Or.inl rfl | exact Or.inr rfl) rfl) (dgs_cons (dg_name (i := 4) sc__law_tried.nd rfl (by first | exact Or.inl rfl | exact Or.inr rfl) rfl) (dgs_nil)))))))
  (dss_cons (ds_try_as (c := 2) (i := 6) rfl rfl sc__law_tried.nd (T.x_BadSituation.names rfl) (takes_of rfl rfl rfl rfl) T.sb (fun W_ pn_ xe_ tk_ po_ => dss_one (ds_set (i := 5) sc__law_tried.nd (de_of (df_make I_Situation (hr.mono (by decide)) tk_ (da_cons (de_var 1) (da_cons (de_var 2) (da_cons (de_var 3) (da_cons (de_var 4) (da_nil))))))))) (fun ex_ a_ oe_ d_ pn_ G0_ hz_ hf_ er_ => dss_one (ds_ret (de_xf (i := 6) T.xf_what hz_ hf_ er_))))
  (dss_one (ds_ret (de_var 5))))
abbrev s_Situation_moved : Stmt := inClass (top 11) 2
def N_Situation_moved : List Str := ["self", "days"]
theorem sc_Situation_moved : FnScope N_Situation_moved ["self", "days"] (defScope s_Situation_moved) := ⟨rfl, rfl, rfl, by decide +kernel, rfl, by decide +kernel, by decide +kernel⟩
theorem k_Situation_moved (T : Txt K mg C) (I_Situation : Ik P w K mg base C "Situation" 4 5 3 m_Situation___init__) (K_is_whole : Fk P w K mg base C "is_whole" 1 1 m_is_whole) (X_BadSituation : ExI P w K mg base (C 2) "BadSituation" ["what"] 1) : Mf P w K mg base C "moved" 2 5 (fun j => if j = 4 then some m_Situation_moved else none) := mf_of T.cl_Situation T.d_Situation_moved sc_Situation_moved [] (by decide) fun f cdv A outer s H E ad hr =>
  dss_cons (ds_if (dt_not (dt_tru (de_call (K_is_whole.callee (hr.mono (by decide))) (takes_of rfl rfl rfl rfl) (dag_val (de_var 1) (dag_nil)) (many_val (many_nil))))) (dss_one (ds_raiseF (c := 2) rfl (takes_of rfl rfl rfl rfl) X_BadSituation (hr.mono (by decide)) rfl T.x_BadSituation.raises (da_cons (de_str) (da_nil)))) (dss_nil))
  (dss_one (ds_ret (de_of (df_make I_Situation (hr.mono (by decide)) (takes_of rfl rfl rfl rfl) (da_cons (de_fld T.fl_teller (de_var 0)) (da_cons (de_fld T.fl_hearer (de_var 0)) (da_cons (de_add (de_fld T.fl_day (de_var 0)) (de_var 1)) (da_cons (de_fld T.fl_place (de_var 0)) (da_nil)))))))))
abbrev s__law_moved : Stmt := top 27
def N__law_moved : List Str := ["_law_situation_here", "_law_days", "_law_told", "raised"]
theorem sc__law_moved : FnScope N__law_moved ["_law_situation_here", "_law_days"] (defScope s__law_moved) := ⟨rfl, rfl, rfl, by decide +kernel, rfl, by decide +kernel, by decide +kernel⟩
theorem k__law_moved (T : Txt K mg C) (M_moved : Mf P w K mg base C "moved" 2 5 t_moved) : Fk P w K mg base C "_law_moved" 2 6 m__law_moved := fk_of T.d__law_moved sc__law_moved [] (by decide) fun f cdv A outer s H E ad hr =>
  dss_cons (ds_try_as (c := 2) (i := 3) rfl rfl sc__law_moved.nd (T.x_BadSituation.names rfl) (takes_of rfl rfl rfl rfl) T.sb (fun W_ pn_ xe_ tk_ po_ => dss_one (ds_set (i := 2) sc__law_moved.nd (de_met (M_moved.mono (by decide)) hr tk_ (de_var 0) (dag_val (de_var 1) (dag_nil)) (many_val (many_nil))))) (fun ex_ a_ oe_ d_ pn_ G0_ hz_ hf_ er_ => dss_one (ds_ret (de_xf (i := 3) T.xf_what hz_ hf_ er_))))
  (dss_one (ds_ret (de_var 2)))
abbrev s_exchange_name : Stmt := top 12
def N_exchange_name : List Str := ["name", "one", "other"]
theorem sc_exchange_name : FnScope N_exchange_name ["name", "one", "other"] (defScope s_exchange_name) := ⟨rfl, rfl, rfl, by decide +kernel, rfl, by decide +kernel, by decide +kernel⟩
theorem k_exchange_name (T : Txt K mg C) (K_is_name : Fk P w K mg base C "is_name" 1 1 m_is_name) (X_BadSituation : ExI P w K mg base (C 2) "BadSituation" ["what"] 1) : Fk P w K mg base C "exchange_name" 3 3 m_exchange_name := fk_of T.d_exchange_name sc_exchange_name [] (by decide) fun f cdv A outer s H E ad hr =>
  dss_cons (ds_if (dt_w (dw_or (dt_not (dt_tru (de_call (K_is_name.callee (hr.mono (by decide))) (takes_of rfl rfl rfl rfl) (dag_val (de_var 1) (dag_nil)) (many_val (many_nil))))) (dw_or1 (dt_not (dt_tru (de_call (K_is_name.callee (hr.mono (by decide))) (takes_of rfl rfl rfl rfl) (dag_val (de_var 2) (dag_nil)) (many_val (many_nil)))))))) (dss_one (ds_raiseF (c := 2) rfl (takes_of rfl rfl rfl rfl) X_BadSituation (hr.mono (by decide)) rfl T.x_BadSituation.raises (da_cons (de_str) (da_nil)))) (dss_nil))
  (dss_cons (ds_if (dt_c .eq (hu65 hr) (de_var 0) (de_var 1)) (dss_one (ds_ret (de_var 2))) (dss_nil))
  (dss_one (ds_ret (de_if (dt_c .eq (hu65 hr) (de_var 0) (de_var 2)) (de_var 1) (de_var 0)))))
abbrev s_Situation_exchanged : Stmt := inClass (top 11) 3
def N_Situation_exchanged : List Str := ["self", "one", "other"]
theorem sc_Situation_exchanged : FnScope N_Situation_exchanged ["self", "one", "other"] (defScope s_Situation_exchanged) := ⟨rfl, rfl, rfl, by decide +kernel, rfl, by decide +kernel, by decide +kernel⟩
theorem k_Situation_exchanged (T : Txt K mg C) (I_Situation : Ik P w K mg base C "Situation" 4 5 3 m_Situation___init__) (K_exchange_name : Fk P w K mg base C "exchange_name" 3 3 m_exchange_name) : Mf P w K mg base C "exchanged" 3 5 (fun j => if j = 4 then some m_Situation_exchanged else none) := mf_of T.cl_Situation T.d_Situation_exchanged sc_Situation_exchanged [] (by decide) fun f cdv A outer s H E ad hr =>
  dss_one (ds_ret (de_of (df_make I_Situation (hr.mono (by decide)) (takes_of rfl rfl rfl rfl) (da_cons (de_call (K_exchange_name.callee (hr.mono (by decide))) (takes_of rfl rfl rfl rfl) (dag_val (de_fld T.fl_teller (de_var 0)) (dag_val (de_var 1) (dag_val (de_var 2) (dag_nil)))) (many_val (many_val (many_val (many_nil))))) (da_cons (de_call (K_exchange_name.callee (hr.mono (by decide))) (takes_of rfl rfl rfl rfl) (dag_val (de_fld T.fl_hearer (de_var 0)) (dag_val (de_var 1) (dag_val (de_var 2) (dag_nil)))) (many_val (many_val (many_val (many_nil))))) (da_cons (de_fld T.fl_day (de_var 0)) (da_cons (de_fld T.fl_place (de_var 0)) (da_nil))))))))
abbrev s__law_exchanged : Stmt := top 28
def N__law_exchanged : List Str := ["_law_situation_here", "_law_one", "_law_other_here", "_law_told", "raised"]
theorem sc__law_exchanged : FnScope N__law_exchanged ["_law_situation_here", "_law_one", "_law_other_here"] (defScope s__law_exchanged) := ⟨rfl, rfl, rfl, by decide +kernel, rfl, by decide +kernel, by decide +kernel⟩
theorem k__law_exchanged (T : Txt K mg C) (M_exchanged : Mf P w K mg base C "exchanged" 3 5 t_exchanged) : Fk P w K mg base C "_law_exchanged" 3 6 m__law_exchanged := fk_of T.d__law_exchanged sc__law_exchanged [] (by decide) fun f cdv A outer s H E ad hr =>
  dss_cons (ds_try_as (c := 2) (i := 4) rfl rfl sc__law_exchanged.nd (T.x_BadSituation.names rfl) (takes_of rfl rfl rfl rfl) T.sb (fun W_ pn_ xe_ tk_ po_ => dss_one (ds_set (i := 3) sc__law_exchanged.nd (de_met (M_exchanged.mono (by decide)) hr tk_ (de_var 0) (dag_val (de_var 1) (dag_val (de_var 2) (dag_nil))) (many_val (many_val (many_nil)))))) (fun ex_ a_ oe_ d_ pn_ G0_ hz_ hf_ er_ => dss_one (ds_ret (de_xf (i := 4) T.xf_what hz_ hf_ er_))))
  (dss_one (ds_ret (de_var 3)))
abbrev s__law_whole : Stmt := top 22
def N__law_whole : List Str := ["_law_thing"]
theorem sc__law_whole : FnScope N__law_whole ["_law_thing"] (defScope s__law_whole) := ⟨rfl, rfl, rfl, by decide +kernel, rfl, by decide +kernel, by decide +kernel⟩
theorem k__law_whole (T : Txt K mg C) : Fk P w K mg base C "_law_whole" 1 1 m__law_whole := fk_of T.d__law_whole sc__law_whole [] (by decide) fun f cdv A outer s H E ad hr =>
  dss_one (ds_ret (de_and (de_isT (T := "int") rfl T.b_isinstance (by decide +kernel) rfl T.b_int (by decide +kernel) (de_var 0)) (de_one (de_not (de_isT (T := "bool") rfl T.b_isinstance (by decide +kernel) rfl T.b_bool (by decide +kernel) (de_var 0))))))
abbrev s__law_letters : Stmt := top 24
def N__law_letters : List Str := ["_law_thing", "_law_sign"]
theorem sc__law_letters : FnScope N__law_letters ["_law_thing"] (defScope s__law_letters) := ⟨rfl, rfl, rfl, by decide +kernel, rfl, by decide +kernel, by decide +kernel⟩
theorem k__law_letters (T : Txt K mg C) : Fk P w K mg base C "_law_letters" 1 1 m__law_letters := fk_of T.d__law_letters sc__law_letters [] (by decide) fun f cdv A outer s H E ad hr =>
  dss_one (ds_ret (de_and (de_isT (T := "str") rfl T.b_isinstance (by decide +kernel) rfl T.b_str (by decide +kernel) (de_var 0)) (de_and (de_chain .lt .lt (hu65 hr) (de_int) (de_B cr_lenS vb_len rfl T.b_len (by decide +kernel) (da_cons (de_var 0) (da_nil))) (de_int)) (de_one (de_B (cr_all rfl) vb_all rfl T.b_all (by decide +kernel) (da_cons (de_of (df_lc (own := [("_law_sign", 1)]) (sl := [1]) rfl sc__law_letters.nd (di_seq (de_var 0)) (blkOk_by (N := N__law_letters) (sc := defScope s__law_letters) (by decide +kernel)) (by decide) (fun _ _ _ _ _ => dg_name (i := 1) sc__law_letters.nd rfl (by first | exact Or.inl rfl | exact Or.inr rfl) rfl) (fun _ _ _ _ _ => dts_nil) (fun _ _ _ _ _ => de_c .in_ (hu65 hr) (de_var 1) (de_str)))) (da_nil)))))))
abbrev s__law_due : Stmt := top 33
def N__law_due : List Str := ["_law_args", "_law_place", "_law_what"]
theorem sc__law_due : FnScope N__law_due ["_law_args"] (defScope s__law_due) := ⟨rfl, rfl, rfl, by decide +kernel, rfl, by decide +kernel, by decide +kernel⟩
theorem k__law_due (T : Txt K mg C) (K__law_whole : Fk P w K mg base C "_law_whole" 1 1 m__law_whole) (K__law_letters : Fk P w K mg base C "_law_letters" 1 1 m__law_letters) : Fk P w K mg base C "_law_due" 1 2 m__law_due := fk_of T.d__law_due sc__law_due [] (by decide) fun f cdv A outer s H E ad hr =>
  dss_cons (ds_for (passes_of rfl) rfl (di_enumT rfl T.b_enumerate (de_list (da_cons (de_str) (da_cons (de_str) (da_cons (de_str) (da_cons (de_str) (da_nil))))))) (dg_seq rfl (dgs_cons (dg_name (i := 1) sc__law_due.nd rfl (by first | exact Or.inl rfl | exact Or.inr rfl) rfl) (dgs_cons (dg_name (i := 2) sc__law_due.nd rfl (by first | exact Or.inl rfl | exact Or.inr rfl) rfl) (dgs_nil)))) (dss_one (ds_if (dt_not (dt_ifexp (dt_c .eq (hu65 hr) (de_var 1) (de_int)) (dt_tru (de_call (K__law_whole.callee (hr.mono (by decide))) (takes_of rfl rfl rfl rfl) (dag_val (de_ix (de_var 0) (de_var 1)) (dag_nil)) (many_val (many_nil)))) (dt_tru (de_call (K__law_letters.callee (hr.mono (by decide))) (takes_of rfl rfl rfl rfl) (dag_val (de_ix (de_var 0) (de_var 1)) (dag_nil)) (many_val (many_nil)))))) (dss_one (ds_ret (de_var 2))) (dss_nil))))
  (dss_one (ds_ret (de_non)))
abbrev s__law_parts : Stmt := top 30
def N__law_parts : List Str := ["_law_situation_here"]
theorem sc__law_parts : FnScope N__law_parts ["_law_situation_here"] (defScope s__law_parts) := ⟨rfl, rfl, rfl, by decide +kernel, rfl, by decide +kernel, by decide +kernel⟩
theorem k__law_parts (T : Txt K mg C) : Fk P w K mg base C "_law_parts" 1 1 m__law_parts := fk_of T.d__law_parts sc__law_parts [] (by decide) fun f cdv A outer s H E ad hr =>
  dss_one (ds_ret (de_tuple (da_cons (de_fld T.fl_teller (de_var 0)) (da_cons (de_fld T.fl_hearer (de_var 0)) (da_cons (de_fld T.fl_day (de_var 0)) (da_cons (de_fld T.fl_place (de_var 0)) (da_nil)))))))
abbrev s__law_other : Stmt := top 31
def N__law_other : List Str := ["_law_name_here", "_law_one", "_law_other_here"]
theorem sc__law_other : FnScope N__law_other ["_law_name_here", "_law_one", "_law_other_here"] (defScope s__law_other) := ⟨rfl, rfl, rfl, by decide +kernel, rfl, by decide +kernel, by decide +kernel⟩
theorem k__law_other (T : Txt K mg C) : Fk P w K mg base C "_law_other" 3 1 m__law_other := fk_of T.d__law_other sc__law_other [] (by decide) fun f cdv A outer s H E ad hr =>
  dss_cons (ds_if (dt_c .eq (hu65 hr) (de_var 0) (de_var 1)) (dss_one (ds_ret (de_var 2))) (dss_nil))
  (dss_one (ds_ret (de_if (dt_c .eq (hu65 hr) (de_var 0) (de_var 2)) (de_var 1) (de_var 0))))
abbrev s__law_name_exchanged : Stmt := top 29
def N__law_name_exchanged : List Str := ["_law_name_here", "_law_one", "_law_other_here", "_law_told", "raised"]
theorem sc__law_name_exchanged : FnScope N__law_name_exchanged ["_law_name_here", "_law_one", "_law_other_here"] (defScope s__law_name_exchanged) := ⟨rfl, rfl, rfl, by decide +kernel, rfl, by decide +kernel, by decide +kernel⟩
theorem k__law_name_exchanged (T : Txt K mg C) (K_exchange_name : Fk P w K mg base C "exchange_name" 3 3 m_exchange_name) : Fk P w K mg base C "_law_name_exchanged" 3 4 m__law_name_exchanged := fk_of T.d__law_name_exchanged sc__law_name_exchanged [] (by decide) fun f cdv A outer s H E ad hr =>
  dss_cons (ds_try_as (c := 2) (i := 4) rfl rfl sc__law_name_exchanged.nd (T.x_BadSituation.names rfl) (takes_of rfl rfl rfl rfl) T.sb (fun W_ pn_ xe_ tk_ po_ => dss_one (ds_set (i := 3) sc__law_name_exchanged.nd (de_call (K_exchange_name.callee (hr.mono (by decide))) tk_ (dag_val (de_var 0) (dag_val (de_var 1) (dag_val (de_var 2) (dag_nil)))) (many_val (many_val (many_val (many_nil))))))) (fun ex_ a_ oe_ d_ pn_ G0_ hz_ hf_ er_ => dss_one (ds_ret (de_list (da_cons (de_str) (da_cons (de_xf (i := 4) T.xf_what hz_ hf_ er_) (da_nil)))))))
  (dss_one (ds_ret (de_var 3)))
abbrev s_law : Stmt := top 34
def N_law : List Str := ["_law_script", "_law_hand_here", "_law_world_here", "_law_turn", "_law_args", "_law_situation_here", "_law_again", "_law_spoilt", "_law_spot", "_law_due_here", "_law_told", "_law_days", "_law_moved_here", "_law_one", "_law_other_here", "_law_name_here", "_law_bad", "_law_pair"]
theorem sc_law : FnScope N_law ["_law_script"] (defScope s_law) := ⟨rfl, rfl, rfl, by decide +kernel, rfl, by decide +kernel, by decide +kernel⟩
theorem k_law (T : Txt K mg C) (K__law_hand : Fk P w K mg base C "_law_hand" 1 1 m__law_hand) (K__law_world : Fk P w K mg base C "_law_world" 1 5 m__law_world) (K__law_tongues_right : Fk P w K mg base C "_law_tongues_right" 1 4 m__law_tongues_right) (K__law_situation : Fk P w K mg base C "_law_situation" 2 4 m__law_situation) (K__law_tried : Fk P w K mg base C "_law_tried" 1 5 m__law_tried) (K__law_moved : Fk P w K mg base C "_law_moved" 2 6 m__law_moved) (K__law_exchanged : Fk P w K mg base C "_law_exchanged" 3 6 m__law_exchanged) (K__law_due : Fk P w K mg base C "_law_due" 1 2 m__law_due) (K__law_take : Fk P w K mg base C "_law_take" 2 2 m__law_take) (K__law_parts : Fk P w K mg base C "_law_parts" 1 1 m__law_parts) (K__law_name : Fk P w K mg base C "_law_name" 1 3 m__law_name) (K__law_whole : Fk P w K mg base C "_law_whole" 1 1 m__law_whole) (K__law_other : Fk P w K mg base C "_law_other" 3 1 m__law_other) (K__law_name_exchanged : Fk P w K mg base C "_law_name_exchanged" 3 4 m__law_name_exchanged) (K__law_unlike : Fk P w K mg base C "_law_unlike" 2 1 m__law_unlike) (EQ : EqM P w K mg base C 1 t___eq__ eq_is) (NE : NeM K C t___eq__) : FnOk P w K mg base (L2.CX P w) 7 T.d_law.f T.d_law.fd ["_law_script"] (spF K C 1 m_law) := fnok_of T.d_law sc_law [] (by decide) fun f cdv A outer s H E ad hr =>
  dss_cons (ds_own (i := 1) sc_law.nd (df_call (K__law_hand.callee (hr.mono (by decide))) (takes_of rfl rfl rfl rfl) (dag_val (de_var 0) (dag_nil)) (many_val (many_nil))))
  (dss_cons (ds_if (dt_not (dt_tru (de_call (K__law_tongues_right.callee (hr.mono (by decide))) (takes_of rfl rfl rfl rfl) (dag_io 1 (dag_nil)) (many_io (many_nil))))) (dss_one (ds_ret (de_bl))) (dss_nil))
  (dss_cons (ds_set (i := 2) sc_law.nd (de_call (K__law_world.callee (hr.mono (by decide))) (takes_of rfl rfl rfl rfl) (dag_io 1 (dag_nil)) (many_io (many_nil))))
  (dss_cons (ds_for (passes_of rfl) rfl (di_rng1 rfl T.b_range (de_int)) (dg_name (i := 3) sc_law.nd rfl (by first | exact Or.inl rfl | exact Or.inr rfl) rfl) (dss_cons (ds_set (i := 4) sc_law.nd (de_call (K__law_situation.callee (hr.mono (by decide))) (takes_of rfl rfl rfl rfl) (dag_io 1 (dag_val (de_var 2) (dag_nil))) (many_io (many_val (many_nil)))))
  (dss_cons (ds_if (dt_eqO EQ (hr.mono (by decide)) (hu65 hr) (de_var 3) (de_int)) (dss_one (ds_set (i := 4) sc_law.nd (de_tuple (da_cons (de_call (K__law_name.callee (hr.mono (by decide))) (takes_of rfl rfl rfl rfl) (dag_io 1 (dag_nil)) (many_io (many_nil))) (da_cons (de_call (K__law_name.callee (hr.mono (by decide))) (takes_of rfl rfl rfl rfl) (dag_io 1 (dag_nil)) (many_io (many_nil))) (da_cons (de_sub (de_call (K__law_take.callee (hr.mono (by decide))) (takes_of rfl rfl rfl rfl) (dag_io 1 (dag_val (de_mul (de_int) (de_pow (de_int) (de_int))) (dag_nil))) (many_io (many_val (many_nil)))) (de_pow (de_int) (de_int))) (da_cons (de_call (K__law_name.callee (hr.mono (by decide))) (takes_of rfl rfl rfl rfl) (dag_io 1 (dag_nil)) (many_io (many_nil))) (da_nil)))))))) (dss_nil))
  (dss_cons (ds_set (i := 5) sc_law.nd (de_call (K__law_tried.callee (hr.mono (by decide))) (takes_of rfl rfl rfl rfl) (dag_val (de_var 4) (dag_nil)) (many_val (many_nil))))
  (dss_cons (ds_if (dt_w (dw_or (dt_not (dt_tru (de_isO (j := 4) T.io_Situation T.xn_Situation rfl T.b_isinstance (by decide +kernel) (de_var 5)))) (dw_or (dt_neO EQ NE (hr.mono (by decide)) (hu65 hr) (de_call (K__law_parts.callee (hr.mono (by decide))) (takes_of rfl rfl rfl rfl) (dag_val (de_var 5) (dag_nil)) (many_val (many_nil))) (de_T call_tuple_of vb_tuple rfl T.b_tuple (by decide +kernel) (da_cons (de_var 4) (da_nil)))) (dw_or1 (dt_not (dt_tru (de_call (K__law_whole.callee (hr.mono (by decide))) (takes_of rfl rfl rfl rfl) (dag_val (de_fld T.fl_day (de_var 5)) (dag_nil)) (many_val (many_nil))))))))) (dss_one (ds_ret (de_bl))) (dss_nil))
  (dss_cons (ds_for (passes_of rfl) rfl (di_rng1 rfl T.b_range (de_int)) (dg_name (i := 6) sc_law.nd rfl (by first | exact Or.inl rfl | exact Or.inr rfl) rfl) (dss_cons (ds_own (i := 7) sc_law.nd (df_listOf rfl T.b_list (by decide +kernel) (de_var 4)))
  (dss_cons (ds_for (passes_of rfl) rfl (di_seq (de_list (da_cons (de_call (K__law_take.callee (hr.mono (by decide))) (takes_of rfl rfl rfl rfl) (dag_io 1 (dag_val (de_int) (dag_nil))) (many_io (many_val (many_nil)))) (da_cons (de_call (K__law_take.callee (hr.mono (by decide))) (takes_of rfl rfl rfl rfl) (dag_io 1 (dag_val (de_int) (dag_nil))) (many_io (many_val (many_nil)))) (da_nil))))) (dg_name (i := 8) sc_law.nd rfl (by first | exact Or.inl rfl | exact Or.inr rfl) rfl) (dss_one (ds_sub 7 (de_ix (de_list (da_cons (de_non) (da_cons (de_bl) (da_cons (de_str) (da_cons (de_add (de_ix (de_var 4) (de_int)) (de_str)) (da_cons (de_call (K__law_name.callee (hr.mono (by decide))) (takes_of rfl rfl rfl rfl) (dag_io 1 (dag_nil)) (many_io (many_nil))) (da_cons (de_int) (da_cons (de_add (de_ix (de_var 4) (de_int)) (de_str)) (da_cons (de_list (da_cons (de_ix (de_var 4) (de_int)) (da_nil))) (da_cons (de_sub (de_int) (de_ix (de_var 4) (de_int))) (da_nil))))))))))) (de_call (K__law_take.callee (hr.mono (by decide))) (takes_of rfl rfl rfl rfl) (dag_io 1 (dag_val (de_int) (dag_nil))) (many_io (many_val (many_nil))))) (de_var 8))))
  (dss_cons (ds_set (i := 9) sc_law.nd (de_call (K__law_due.callee (hr.mono (by decide))) (takes_of rfl rfl rfl rfl) (dag_val (de_var 7) (dag_nil)) (many_val (many_nil))))
  (dss_cons (ds_set (i := 10) sc_law.nd (de_call (K__law_tried.callee (hr.mono (by decide))) (takes_of rfl rfl rfl rfl) (dag_val (de_var 7) (dag_nil)) (many_val (many_nil))))
  (dss_one (ds_if (dt_c .notN (hu65 hr) (de_var 9) (de_non)) (dss_one (ds_if (dt_neO EQ NE (hr.mono (by decide)) (hu65 hr) (de_var 10) (de_var 9)) (dss_one (ds_ret (de_bl))) (dss_nil))) (dss_one (ds_if (dt_w (dw_or (dt_not (dt_tru (de_isO (j := 4) T.io_Situation T.xn_Situation rfl T.b_isinstance (by decide +kernel) (de_var 10)))) (dw_or (dt_neO EQ NE (hr.mono (by decide)) (hu65 hr) (de_call (K__law_parts.callee (hr.mono (by decide))) (takes_of rfl rfl rfl rfl) (dag_val (de_var 10) (dag_nil)) (many_val (many_nil))) (de_T call_tuple_of vb_tuple rfl T.b_tuple (by decide +kernel) (da_cons (de_var 7) (da_nil)))) (dw_or1 (dt_tru (de_call (K__law_unlike.callee (hr.mono (by decide))) (takes_of rfl rfl rfl rfl) (dag_val (de_eqO EQ (hr.mono (by decide)) (hu65 hr) (de_var 10) (de_var 5)) (dag_val (de_eqO EQ (hr.mono (by decide)) (hu65 hr) (de_T call_tuple_of vb_tuple rfl T.b_tuple (by decide +kernel) (da_cons (de_var 7) (da_nil))) (de_T call_tuple_of vb_tuple rfl T.b_tuple (by decide +kernel) (da_cons (de_var 4) (da_nil)))) (dag_nil))) (many_val (many_val (many_nil))))))))) (dss_one (ds_ret (de_bl))) (dss_nil))))))))))
  (dss_cons (ds_set (i := 11) sc_law.nd (de_ix (de_list (da_cons (de_sub (de_call (K__law_take.callee (hr.mono (by decide))) (takes_of rfl rfl rfl rfl) (dag_io 1 (dag_val (de_int) (dag_nil))) (many_io (many_val (many_nil)))) (de_int)) (da_cons (de_sub (de_call (K__law_take.callee (hr.mono (by decide))) (takes_of rfl rfl rfl rfl) (dag_io 1 (dag_val (de_mul (de_int) (de_pow (de_int) (de_int))) (dag_nil))) (many_io (many_val (many_nil)))) (de_pow (de_int) (de_int))) (da_cons (de_int) (da_nil))))) (de_call (K__law_take.callee (hr.mono (by decide))) (takes_of rfl rfl rfl rfl) (dag_io 1 (dag_val (de_int) (dag_nil))) (many_io (many_val (many_nil))))))
  (dss_cons (ds_set (i := 12) sc_law.nd (de_call (K__law_moved.callee (hr.mono (by decide))) (takes_of rfl rfl rfl rfl) (dag_val (de_var 5) (dag_val (de_var 11) (dag_nil))) (many_val (many_val (many_nil)))))
  (dss_cons (ds_if (dt_w (dw_or (dt_neO EQ NE (hr.mono (by decide)) (hu65 hr) (de_call (K__law_parts.callee (hr.mono (by decide))) (takes_of rfl rfl rfl rfl) (dag_val (de_var 12) (dag_nil)) (many_val (many_nil))) (de_tuple (da_cons (de_ix (de_var 4) (de_int)) (da_cons (de_ix (de_var 4) (de_int)) (da_cons (de_add (de_ix (de_var 4) (de_int)) (de_var 11)) (da_cons (de_ix (de_var 4) (de_int)) (da_nil))))))) (dw_or1 (dt_neO EQ NE (hr.mono (by decide)) (hu65 hr) (de_call (K__law_moved.callee (hr.mono (by decide))) (takes_of rfl rfl rfl rfl) (dag_val (de_var 12) (dag_val (de_neg (de_var 11)) (dag_nil))) (many_val (many_val (many_nil)))) (de_var 5))))) (dss_one (ds_ret (de_bl))) (dss_nil))
  (dss_cons (ds_if (dt_neO EQ NE (hr.mono (by decide)) (hu65 hr) (de_call (K__law_moved.callee (hr.mono (by decide))) (takes_of rfl rfl rfl rfl) (dag_val (de_var 5) (dag_val (de_ix (de_list (da_cons (de_non) (da_cons (de_bl) (da_cons (de_str) (da_cons (de_tuple (da_cons (de_int) (da_nil))) (da_nil)))))) (de_call (K__law_take.callee (hr.mono (by decide))) (takes_of rfl rfl rfl rfl) (dag_io 1 (dag_val (de_int) (dag_nil))) (many_io (many_val (many_nil))))) (dag_nil))) (many_val (many_val (many_nil)))) (de_str)) (dss_one (ds_ret (de_bl))) (dss_nil))
  (dss_cons (ds_set (i := 13) sc_law.nd (de_ix (de_add (de_T call_list_of vb_list rfl T.b_list (by decide +kernel) (da_cons (de_sl (de_var 4) (do_none) (do_some (de_int))) (da_nil))) (de_T call_list_of vb_list rfl T.b_list (by decide +kernel) (da_cons (de_ix (de_var 2) (de_int)) (da_nil)))) (de_call (K__law_take.callee (hr.mono (by decide))) (takes_of rfl rfl rfl rfl) (dag_io 1 (dag_val (de_int) (dag_nil))) (many_io (many_val (many_nil))))))
  (dss_cons (ds_set (i := 14) sc_law.nd (de_ix (de_add (de_T call_list_of vb_list rfl T.b_list (by decide +kernel) (da_cons (de_sl (de_var 4) (do_none) (do_some (de_int))) (da_nil))) (de_list (da_cons (de_call (K__law_name.callee (hr.mono (by decide))) (takes_of rfl rfl rfl rfl) (dag_io 1 (dag_nil)) (many_io (many_nil))) (da_nil)))) (de_call (K__law_take.callee (hr.mono (by decide))) (takes_of rfl rfl rfl rfl) (dag_io 1 (dag_val (de_int) (dag_nil))) (many_io (many_val (many_nil))))))
  (dss_cons (ds_set (i := 10) sc_law.nd (de_call (K__law_exchanged.callee (hr.mono (by decide))) (takes_of rfl rfl rfl rfl) (dag_val (de_var 5) (dag_val (de_var 13) (dag_val (de_var 14) (dag_nil)))) (many_val (many_val (many_val (many_nil))))))
  (dss_cons (ds_if (dt_neO EQ NE (hr.mono (by decide)) (hu65 hr) (de_call (K__law_parts.callee (hr.mono (by decide))) (takes_of rfl rfl rfl rfl) (dag_val (de_var 10) (dag_nil)) (many_val (many_nil))) (de_tuple (da_cons (de_call (K__law_other.callee (hr.mono (by decide))) (takes_of rfl rfl rfl rfl) (dag_val (de_ix (de_var 4) (de_int)) (dag_val (de_var 13) (dag_val (de_var 14) (dag_nil)))) (many_val (many_val (many_val (many_nil))))) (da_cons (de_call (K__law_other.callee (hr.mono (by decide))) (takes_of rfl rfl rfl rfl) (dag_val (de_ix (de_var 4) (de_int)) (dag_val (de_var 13) (dag_val (de_var 14) (dag_nil)))) (many_val (many_val (many_val (many_nil))))) (da_cons (de_ix (de_var 4) (de_int)) (da_cons (de_ix (de_var 4) (de_int)) (da_nil))))))) (dss_one (ds_ret (de_bl))) (dss_nil))
  (dss_cons (ds_if (dt_w (dw_or (dt_neO EQ NE (hr.mono (by decide)) (hu65 hr) (de_call (K__law_exchanged.callee (hr.mono (by decide))) (takes_of rfl rfl rfl rfl) (dag_val (de_var 10) (dag_val (de_var 13) (dag_val (de_var 14) (dag_nil)))) (many_val (many_val (many_val (many_nil))))) (de_var 5)) (dw_or (dt_neO EQ NE (hr.mono (by decide)) (hu65 hr) (de_call (K__law_exchanged.callee (hr.mono (by decide))) (takes_of rfl rfl rfl rfl) (dag_val (de_var 5) (dag_val (de_var 14) (dag_val (de_var 13) (dag_nil)))) (many_val (many_val (many_val (many_nil))))) (de_var 10)) (dw_or1 (dt_neO EQ NE (hr.mono (by decide)) (hu65 hr) (de_call (K__law_parts.callee (hr.mono (by decide))) (takes_of rfl rfl rfl rfl) (dag_val (de_var 5) (dag_nil)) (many_val (many_nil))) (de_T call_tuple_of vb_tuple rfl T.b_tuple (by decide +kernel) (da_cons (de_var 4) (da_nil)))))))) (dss_one (ds_ret (de_bl))) (dss_nil))
  (dss_cons (ds_for (passes_of rfl) rfl (di_seq (de_list (da_cons (de_var 13) (da_cons (de_var 14) (da_cons (de_call (K__law_name.callee (hr.mono (by decide))) (takes_of rfl rfl rfl rfl) (dag_io 1 (dag_nil)) (many_io (many_nil))) (da_cons (de_ix (de_var 4) (de_int)) (da_nil))))))) (dg_name (i := 15) sc_law.nd rfl (by first | exact Or.inl rfl | exact Or.inr rfl) rfl) (dss_one (ds_if (dt_neO EQ NE (hr.mono (by decide)) (hu65 hr) (de_call (K__law_name_exchanged.callee (hr.mono (by decide))) (takes_of rfl rfl rfl rfl) (dag_val (de_var 15) (dag_val (de_var 13) (dag_val (de_var 14) (dag_nil)))) (many_val (many_val (many_val (many_nil))))) (de_call (K__law_other.callee (hr.mono (by decide))) (takes_of rfl rfl rfl rfl) (dag_val (de_var 15) (dag_val (de_var 13) (dag_val (de_var 14) (dag_nil)))) (many_val (many_val (many_val (many_nil)))))) (dss_one (ds_ret (de_bl))) (dss_nil))))
  (dss_cons (ds_set (i := 16) sc_law.nd (de_ix (de_list (da_cons (de_non) (da_cons (de_str) (da_cons (de_add (de_var 13) (de_str)) (da_cons (de_int) (da_cons (de_str) (da_cons (de_bl) (da_nil)))))))) (de_call (K__law_take.callee (hr.mono (by decide))) (takes_of rfl rfl rfl rfl) (dag_io 1 (dag_val (de_int) (dag_nil))) (many_io (many_val (many_nil))))))
  (dss_one (ds_for (passes_of rfl) rfl (di_seq (de_list (da_cons (de_tuple (da_cons (de_var 16) (da_cons (de_var 14) (da_nil)))) (da_cons (de_tuple (da_cons (de_var 13) (da_cons (de_var 16) (da_nil)))) (da_cons (de_tuple (da_cons (de_var 16) (da_cons (de_var 16) (da_nil)))) (da_nil)))))) (dg_name (i := 17) sc_law.nd rfl (by first | exact Or.inl rfl | exact Or.inr rfl) rfl) (dss_one (ds_if (dt_w (dw_or (dt_neO EQ NE (hr.mono (by decide)) (hu65 hr) (de_call (K__law_exchanged.callee (hr.mono (by decide))) (takes_of rfl rfl rfl rfl) (dag_val (de_var 5) (dag_val (de_ix (de_var 17) (de_int)) (dag_val (de_ix (de_var 17) (de_int)) (dag_nil)))) (many_val (many_val (many_val (many_nil))))) (de_str)) (dw_or1 (dt_neO EQ NE (hr.mono (by decide)) (hu65 hr) (de_call (K__law_name_exchanged.callee (hr.mono (by decide))) (takes_of rfl rfl rfl rfl) (dag_val (de_var 13) (dag_val (de_ix (de_var 17) (de_int)) (dag_val (de_ix (de_var 17) (de_int)) (dag_nil)))) (many_val (many_val (many_val (many_nil))))) (de_list (da_cons (de_str) (da_cons (de_str) (da_nil)))))))) (dss_one (ds_ret (de_bl))) (dss_nil))))))))))))))))))))))
  (dss_one (ds_ret (de_bl))))))
abbrev s_BadSituation : Stmt := inClass (top 3) 0
def N_BadSituation : List Str := ["self", "what"]
theorem sc_BadSituation : FnScope N_BadSituation ["self", "what"] (defScope s_BadSituation) := ⟨rfl, rfl, rfl, by decide +kernel, rfl, by decide +kernel, by decide +kernel⟩
theorem k_BadSituation (T : Txt K mg C) : ExI P w K mg base (C 2) "BadSituation" ["what"] 1 := exi_of T.x_BadSituation T.xo_BadSituation T.d_BadSituation sc_BadSituation rfl fun f cdv A outer s H vs Q E hr h =>
  ⟨_, pss_cons (ps_expr (pe_baseinit T.bi_TalkError rfl (pa_cons (pe_var (i := 0) rfl (Or.inl rfl)) (pa_cons pe_str pa_nil)))) (pss_cons (ps_ost (pe_var (i := 0) rfl (Or.inl rfl)) (pe_var (i := 1) rfl (Or.inl rfl))) (pss_nil)), init_b1 T.xo_BadSituation T.xh_BadSituation_what rfl h⟩
theorem k_all (T : Txt K mg C) : FnOk P w K mg base (L2.CX P w) 7 T.d_law.f T.d_law.fd ["_law_script"] (spF K C 1 m_law) := by
  have X_BadSituation : ExI P w K mg base (C 2) "BadSituation" ["what"] 1 := k_BadSituation T
  have K__law_hand : Fk P w K mg base C "_law_hand" 1 1 m__law_hand := k__law_hand T
  have K__law_mixed : Fk P w K mg base C "_law_mixed" 2 1 m__law_mixed := k__law_mixed T
  have K__law_take : Fk P w K mg base C "_law_take" 2 2 m__law_take := k__law_take T K__law_mixed
  have K__law_name : Fk P w K mg base C "_law_name" 1 3 m__law_name := k__law_name T K__law_take
  have K__law_names : Fk P w K mg base C "_law_names" 2 4 m__law_names := k__law_names T K__law_name
  have K__law_world : Fk P w K mg base C "_law_world" 1 5 m__law_world := k__law_world T K__law_names
  have I_Tongue : Ik P w K mg base C "Tongue" 3 5 1 m_Tongue___init__ := k_Tongue___init__ T
  have K_all_tongues : Fk P w K mg base C "all_tongues" 0 3 m_all_tongues := k_all_tongues T I_Tongue
  have K__law_tongue_tried : Fk P w K mg base C "_law_tongue_tried" 1 3 m__law_tongue_tried := k__law_tongue_tried T I_Tongue
  have K__law_unlike : Fk P w K mg base C "_law_unlike" 2 1 m__law_unlike := k__law_unlike T
  have m_Tongue___eq___ := k_Tongue___eq__ (P := P) (w := w) (base := base) T
  have m_Situation___eq___ := k_Situation___eq__ (P := P) (w := w) (base := base) T
  have M___eq__ : Mf P w K mg base C "__eq__" 2 1 t___eq__ := (m_Tongue___eq___.mono (by decide)).or (m_Situation___eq___.mono (by decide))
  have EQ : EqM P w K mg base C 1 t___eq__ eq_is := ⟨M___eq__, fun c F h => T.eq_nb c (eq_dom h), fun c F c2 h h2 => T.eq_no c c2 (eq_dom h) h2, T.eq_ty, T.eq_sp, T.eq_tk⟩
  have NE : NeM K C t___eq__ := ⟨fun c F h => T.eq_ne c (eq_dom h)⟩
  have K__law_tongues_right : Fk P w K mg base C "_law_tongues_right" 1 4 m__law_tongues_right := k__law_tongues_right T K_all_tongues K__law_take K__law_tongue_tried K__law_unlike EQ NE
  have K__law_date : Fk P w K mg base C "_law_date" 1 3 m__law_date := k__law_date T K__law_take
  have K__law_situation : Fk P w K mg base C "_law_situation" 2 4 m__law_situation := k__law_situation T K__law_date K__law_take
  have K_is_name : Fk P w K mg base C "is_name" 1 1 m_is_name := k_is_name T
  have K_is_whole : Fk P w K mg base C "is_whole" 1 1 m_is_whole := k_is_whole T
  have I_Situation : Ik P w K mg base C "Situation" 4 5 3 m_Situation___init__ := k_Situation___init__ T K_is_name K_is_whole X_BadSituation
  have K__law_tried : Fk P w K mg base C "_law_tried" 1 5 m__law_tried := k__law_tried T I_Situation
  have m_Situation_moved_ := k_Situation_moved (P := P) (w := w) (base := base) T I_Situation K_is_whole X_BadSituation
  have M_moved : Mf P w K mg base C "moved" 2 5 t_moved := m_Situation_moved_.mono (by decide)
  have K__law_moved : Fk P w K mg base C "_law_moved" 2 6 m__law_moved := k__law_moved T M_moved
  have K_exchange_name : Fk P w K mg base C "exchange_name" 3 3 m_exchange_name := k_exchange_name T K_is_name X_BadSituation
  have m_Situation_exchanged_ := k_Situation_exchanged (P := P) (w := w) (base := base) T I_Situation K_exchange_name
  have M_exchanged : Mf P w K mg base C "exchanged" 3 5 t_exchanged := m_Situation_exchanged_.mono (by decide)
  have K__law_exchanged : Fk P w K mg base C "_law_exchanged" 3 6 m__law_exchanged := k__law_exchanged T M_exchanged
  have K__law_whole : Fk P w K mg base C "_law_whole" 1 1 m__law_whole := k__law_whole T
  have K__law_letters : Fk P w K mg base C "_law_letters" 1 1 m__law_letters := k__law_letters T
  have K__law_due : Fk P w K mg base C "_law_due" 1 2 m__law_due := k__law_due T K__law_whole K__law_letters
  have K__law_parts : Fk P w K mg base C "_law_parts" 1 1 m__law_parts := k__law_parts T
  have K__law_other : Fk P w K mg base C "_law_other" 3 1 m__law_other := k__law_other T
  have K__law_name_exchanged : Fk P w K mg base C "_law_name_exchanged" 3 4 m__law_name_exchanged := k__law_name_exchanged T K_exchange_name
  exact k_law T K__law_hand K__law_world K__law_tongues_right K__law_situation K__law_tried K__law_moved K__law_exchanged K__law_due K__law_take K__law_parts K__law_name K__law_whole K__law_other K__law_name_exchanged K__law_unlike EQ NE
end
end L05
set_option Elab.async false
set_option linter.all false
set_option maxRecDepth 100000
set_option maxHeartbeats 8000000
namespace L05
open PySem PySem.Spec L2 Rf
theorem txt_mk {K : PySem.W.Frag} {h : Heap} {mg : Str → Option Value} (X : K.In h) (G : h.Ns mainGlobals mg) {C1 C2 C3 C4 C0 : Addr} {t_LETTERS_0 : Tok}
    {N2 : Addr} {nm2 q2 : Str} {bs2 bm2 : List Value} {sn2 : List Str} {su2 : List Value} {ab2 : Bool} {col2 : Option Bool} {dd2 : Option Addr} {ka2 kb2 kc2 kd2 ke2 : Option Value}
    {f14 : Addr} {od14 an14 : Option Addr} {sl14 : Array (Option Value)} {oc14 kV14 dc14 pm14 cd14 ct14 : Value}
    {f15 : Addr} {od15 an15 : Option Addr} {sl15 : Array (Option Value)} {oc15 kV15 dc15 pm15 cd15 ct15 : Value}
    {f16 : Addr} {od16 an16 : Option Addr} {sl16 : Array (Option Value)} {oc16 kV16 dc16 pm16 cd16 ct16 : Value}
    {f17 : Addr} {od17 an17 : Option Addr} {sl17 : Array (Option Value)} {oc17 kV17 dc17 pm17 cd17 ct17 : Value}
    {f18 : Addr} {od18 an18 : Option Addr} {sl18 : Array (Option Value)} {oc18 kV18 dc18 pm18 cd18 ct18 : Value}
    {f19 : Addr} {od19 an19 : Option Addr} {sl19 : Array (Option Value)} {oc19 kV19 dc19 pm19 cd19 ct19 : Value}
    {f9_init : Addr} {od9_init an9_init : Option Addr} {sl9_init : Array (Option Value)} {oc9_init kV9_init dc9_init pm9_init cd9_init ct9_init : Value}
    {f10 : Addr} {od10 an10 : Option Addr} {sl10 : Array (Option Value)} {oc10 kV10 dc10 pm10 cd10 ct10 : Value}
    {f25 : Addr} {od25 an25 : Option Addr} {sl25 : Array (Option Value)} {oc25 kV25 dc25 pm25 cd25 ct25 : Value}
    {f23 : Addr} {od23 an23 : Option Addr} {sl23 : Array (Option Value)} {oc23 kV23 dc23 pm23 cd23 ct23 : Value}
    {f9_eq : Addr} {od9_eq an9_eq : Option Addr} {sl9_eq : Array (Option Value)} {oc9_eq kV9_eq dc9_eq pm9_eq cd9_eq ct9_eq : Value}
    {f11_eq : Addr} {od11_eq an11_eq : Option Addr} {sl11_eq : Array (Option Value)} {oc11_eq kV11_eq dc11_eq pm11_eq cd11_eq ct11_eq : Value}
    {f32 : Addr} {od32 an32 : Option Addr} {sl32 : Array (Option Value)} {oc32 kV32 dc32 pm32 cd32 ct32 : Value}
    {f20 : Addr} {od20 an20 : Option Addr} {sl20 : Array (Option Value)} {oc20 kV20 dc20 pm20 cd20 ct20 : Value}
    {f21 : Addr} {od21 an21 : Option Addr} {sl21 : Array (Option Value)} {oc21 kV21 dc21 pm21 cd21 ct21 : Value}
    {f7 : Addr} {od7 an7 : Option Addr} {sl7 : Array (Option Value)} {oc7 kV7 dc7 pm7 cd7 ct7 : Value}
    {f6 : Addr} {od6 an6 : Option Addr} {sl6 : Array (Option Value)} {oc6 kV6 dc6 pm6 cd6 ct6 : Value}
    {f11_init : Addr} {od11_init an11_init : Option Addr} {sl11_init : Array (Option Value)} {oc11_init kV11_init dc11_init pm11_init cd11_init ct11_init : Value}
    {f26 : Addr} {od26 an26 : Option Addr} {sl26 : Array (Option Value)} {oc26 kV26 dc26 pm26 cd26 ct26 : Value}
    {f11_moved : Addr} {od11_moved an11_moved : Option Addr} {sl11_moved : Array (Option Value)} {oc11_moved kV11_moved dc11_moved pm11_moved cd11_moved ct11_moved : Value}
    {f27 : Addr} {od27 an27 : Option Addr} {sl27 : Array (Option Value)} {oc27 kV27 dc27 pm27 cd27 ct27 : Value}
    {f12 : Addr} {od12 an12 : Option Addr} {sl12 : Array (Option Value)} {oc12 kV12 dc12 pm12 cd12 ct12 : Value}
    {f11_exchanged : Addr} {od11_exchanged an11_exchanged : Option Addr} {sl11_exchanged : Array (Option Value)} {oc11_exchanged kV11_exchanged dc11_exchanged pm11_exchanged cd11_exchanged ct11_exchanged : Value}
    {f28 : Addr} {od28 an28 : Option Addr} {sl28 : Array (Option Value)} {oc28 kV28 dc28 pm28 cd28 ct28 : Value}
    {f22 : Addr} {od22 an22 : Option Addr} {sl22 : Array (Option Value)} {oc22 kV22 dc22 pm22 cd22 ct22 : Value}
    {f24 : Addr} {od24 an24 : Option Addr} {sl24 : Array (Option Value)} {oc24 kV24 dc24 pm24 cd24 ct24 : Value}
    {f33 : Addr} {od33 an33 : Option Addr} {sl33 : Array (Option Value)} {oc33 kV33 dc33 pm33 cd33 ct33 : Value}
    {f30 : Addr} {od30 an30 : Option Addr} {sl30 : Array (Option Value)} {oc30 kV30 dc30 pm30 cd30 ct30 : Value}
    {f31 : Addr} {od31 an31 : Option Addr} {sl31 : Array (Option Value)} {oc31 kV31 dc31 pm31 cd31 ct31 : Value}
    {f29 : Addr} {od29 an29 : Option Addr} {sl29 : Array (Option Value)} {oc29 kV29 dc29 pm29 cd29 ct29 : Value}
    {f34 : Addr} {od34 an34 : Option Addr} {sl34 : Array (Option Value)} {oc34 kV34 dc34 pm34 cd34 ct34 : Value}
    {f2_x : Addr} {od2_x an2_x : Option Addr} {sl2_x : Array (Option Value)} {oc2_x kV2_x dc2_x pm2_x cd2_x ct2_x : Value}
    (zb_all : PySem.W.nsIn K mainGlobals "all" = some none)
    (zb_bool : PySem.W.nsIn K mainGlobals "bool" = some none)
    (zb_enumerate : PySem.W.nsIn K mainGlobals "enumerate" = some none)
    (zb_int : PySem.W.nsIn K mainGlobals "int" = some none)
    (zb_isinstance : PySem.W.nsIn K mainGlobals "isinstance" = some none)
    (zb_len : PySem.W.nsIn K mainGlobals "len" = some none)
    (zb_list : PySem.W.nsIn K mainGlobals "list" = some none)
    (zb_range : PySem.W.nsIn K mainGlobals "range" = some none)
    (zb_str : PySem.W.nsIn K mainGlobals "str" = some none)
    (zb_tuple : PySem.W.nsIn K mainGlobals "tuple" = some none)
    (xa1 : PySem.W.nsIn K mainGlobals "BadTongue" = some (some (.ref C1)))
    (xq1 : PySem.W.excIn K C1 PySem.HandSPX.veTail "ValueError.__new__" = true)
    (xk1 : PySem.W.keepIn K (.ref C1) = true)
    (xb1 : PySem.W.subIn K (.ref C1) (.type "BaseException") = some true)
    (xt1 : PySem.W.typeIn K (.ref C1) = some (.type "type"))
    (xi1 : PySem.W.isClsIn K C1 = true)
    (xa2 : PySem.W.nsIn K mainGlobals "BadSituation" = some (some (.ref C2)))
    (xk2 : PySem.W.keepIn K (.ref C2) = true)
    (xb2 : PySem.W.subIn K (.ref C2) (.type "BaseException") = some true)
    (xt2 : PySem.W.typeIn K (.ref C2) = some (.type "type"))
    (xi2 : PySem.W.isClsIn K C2 = true)
    (xl2 : K.lookup C2 = some (excClassObj nm2 q2 C2 N2 bs2 bm2 true sn2 su2 ab2 col2 dd2 ka2 kb2 kc2 kd2 ke2 "ValueError.__new__"))
    (xr2 : PySem.HandSPX.refsVE bm2 = true)
    (xs2 : PySem.W.findIn K (.ref C2) "__setattr__" = some (some (.builtin "object.__setattr__")))
    (xh2_what : PySem.W.findIn K (.ref C2) "what" = some none)
    (xa3 : PySem.W.nsIn K mainGlobals "Tongue" = some (some (.ref C3)))
    (pg3 : PySem.W.plainGet K C3 Str.empty = true)
    (hd3 : PySem.W.hasDictIn K C3 = true)
    (po3 : PySem.W.plainOver K C3 = true)
    (sa3 : PySem.W.findIn K (.ref C3) "__setattr__" = some (some (.builtin "object.__setattr__")))
    (mi3 : PySem.W.makesIn K C3 = true)
    (xk3 : PySem.W.keepIn K (.ref C3) = true)
    (xa4 : PySem.W.nsIn K mainGlobals "Situation" = some (some (.ref C4)))
    (pg4 : PySem.W.plainGet K C4 Str.empty = true)
    (hd4 : PySem.W.hasDictIn K C4 = true)
    (po4 : PySem.W.plainOver K C4 = true)
    (sa4 : PySem.W.findIn K (.ref C4) "__setattr__" = some (some (.builtin "object.__setattr__")))
    (mi4 : PySem.W.makesIn K C4 = true)
    (xk4 : PySem.W.keepIn K (.ref C4) = true)
    (xa0 : PySem.W.nsIn K mainGlobals "TalkError" = some (some (.ref C0)))
    (bg0 : PySem.W.specialIn K (.ref C0) "__getattribute__" = some (some (.builtin "type.__getattribute__")))
    (br0 : PySem.W.readsIn K C0 (.type "type") = true)
    (bv0 : PySem.W.findCls K (.ref C0) (.type "type") "__init__" = some (.val (.builtin "ValueError.__init__")))
    (ya2 : PySem.W.findIn K (.ref C2) "__getattribute__" = some (some (.builtin "BaseException.__getattribute__")))
    (yg2 : PySem.W.findIn K (.ref C2) "__getattr__" = some none)
    (yd2 : PySem.W.hasDictIn K C2 = true)
    (nf3_NoneType : PySem.W.notFirst K C3 (.type "NoneType") = true)
    (nf3_bool : PySem.W.notFirst K C3 (.type "bool") = true)
    (nf3_int : PySem.W.notFirst K C3 (.type "int") = true)
    (nf3_str : PySem.W.notFirst K C3 (.type "str") = true)
    (nf3_tuple : PySem.W.notFirst K C3 (.type "tuple") = true)
    (nf3_list : PySem.W.notFirst K C3 (.type "list") = true)
    (nf3_dict : PySem.W.notFirst K C3 (.type "dict") = true)
    (no3_3 : PySem.W.notFirst K C3 (.ref C3) = true)
    (no3_4 : PySem.W.notFirst K C3 (.ref C4) = true)
    (nn3 : PySem.W.findIn K (.ref C3) "__ne__" = some (some (.builtin "object.__ne__")))
    (nf4_NoneType : PySem.W.notFirst K C4 (.type "NoneType") = true)
    (nf4_bool : PySem.W.notFirst K C4 (.type "bool") = true)
    (nf4_int : PySem.W.notFirst K C4 (.type "int") = true)
    (nf4_str : PySem.W.notFirst K C4 (.type "str") = true)
    (nf4_tuple : PySem.W.notFirst K C4 (.type "tuple") = true)
    (nf4_list : PySem.W.notFirst K C4 (.type "list") = true)
    (nf4_dict : PySem.W.notFirst K C4 (.type "dict") = true)
    (no4_3 : PySem.W.notFirst K C4 (.ref C3) = true)
    (no4_4 : PySem.W.notFirst K C4 (.ref C4) = true)
    (nn4 : PySem.W.findIn K (.ref C4) "__ne__" = some (some (.builtin "object.__ne__")))
    (ic3 : PySem.W.findIn K (.ref C3) "__class__" = some (some (.builtin "object.__class__")))
    (im3 : PySem.W.mroIn K C3 (.type "object") = some true)
    (ic4 : PySem.W.findIn K (.ref C4) "__class__" = some (some (.builtin "object.__class__")))
    (im4 : PySem.W.mroIn K C4 (.type "object") = some true)
    (ik3_4 : PySem.W.kitOne K (.ref C3) (.ref C4) = some false)
    (ik4_4 : PySem.W.kitOne K (.ref C4) (.ref C4) = some true)
    (it4_NoneType : PySem.W.kitOne K (.type "NoneType") (.ref C4) = some false)
    (it4_bool : PySem.W.kitOne K (.type "bool") (.ref C4) = some false)
    (it4_int : PySem.W.kitOne K (.type "int") (.ref C4) = some false)
    (it4_str : PySem.W.kitOne K (.type "str") (.ref C4) = some false)
    (it4_tuple : PySem.W.kitOne K (.type "tuple") (.ref C4) = some false)
    (it4_list : PySem.W.kitOne K (.type "list") (.ref C4) = some false)
    (it4_dict : PySem.W.kitOne K (.type "dict") (.ref C4) = some false)
    (ik3_3 : PySem.W.kitOne K (.ref C3) (.ref C3) = some true)
    (ik4_3 : PySem.W.kitOne K (.ref C4) (.ref C3) = some false)
    (it3_NoneType : PySem.W.kitOne K (.type "NoneType") (.ref C3) = some false)
    (it3_bool : PySem.W.kitOne K (.type "bool") (.ref C3) = some false)
    (it3_int : PySem.W.kitOne K (.type "int") (.ref C3) = some false)
    (it3_str : PySem.W.kitOne K (.type "str") (.ref C3) = some false)
    (it3_tuple : PySem.W.kitOne K (.type "tuple") (.ref C3) = some false)
    (it3_list : PySem.W.kitOne K (.type "list") (.ref C3) = some false)
    (it3_dict : PySem.W.kitOne K (.type "dict") (.ref C3) = some false)
    (zs : PySem.W.specialIn K (.builtin "object.__class__") "__get__" = some (some (.builtin "getset_descriptor.__get__")))
    (zt : PySem.W.takesIn K (.builtin "object.__class__") = some true)
    (fn3_shifts_person : PySem.W.findIn K (.ref C3) "shifts_person" = some none)
    (fn3_shifts_you : PySem.W.findIn K (.ref C3) "shifts_you" = some none)
    (fn3_shifts_today : PySem.W.findIn K (.ref C3) "shifts_today" = some none)
    (fn3_shifts_here : PySem.W.findIn K (.ref C3) "shifts_here" = some none)
    (fn3_shifts : PySem.W.findIn K (.ref C3) "shifts" = some none)
    (fn4_place : PySem.W.findIn K (.ref C4) "place" = some none)
    (fn4_day : PySem.W.findIn K (.ref C4) "day" = some none)
    (fn4_hearer : PySem.W.findIn K (.ref C4) "hearer" = some none)
    (fn4_teller : PySem.W.findIn K (.ref C4) "teller" = some none)
    (xs1_1 : PySem.W.subIn K (.ref C1) (.ref C1) = some true)
    (xs1_2 : PySem.W.subIn K (.ref C1) (.ref C2) = some false)
    (xs2_1 : PySem.W.subIn K (.ref C2) (.ref C1) = some false)
    (xs2_2 : PySem.W.subIn K (.ref C2) (.ref C2) = some true)
    (gc_LETTERS : PySem.W.nsIn K mainGlobals "LETTERS" = some (some (.str "abcdefghijklmnopqrstuvwxyz" t_LETTERS_0)))
    (a14 : PySem.W.nsIn K mainGlobals "_law_hand" = some (some (.ref f14)))
    (l14 : K.lookup f14 = some ⟨oc14, od14, .func (PySem.W.fnOf "_law_hand" "_law_hand" (defArgs (top 14)) (defBody (top 14)) (defScope (top 14)) .none kV14 dc14 pm14 an14 cd14 ct14), sl14⟩)
    (c14 : PySem.W.codeIn K cd14 "_law_hand" = true)
    (k14 : PySem.W.keepIn K (.ref f14) = true)
    (a15 : PySem.W.nsIn K mainGlobals "_law_mixed" = some (some (.ref f15)))
    (l15 : K.lookup f15 = some ⟨oc15, od15, .func (PySem.W.fnOf "_law_mixed" "_law_mixed" (defArgs (top 15)) (defBody (top 15)) (defScope (top 15)) .none kV15 dc15 pm15 an15 cd15 ct15), sl15⟩)
    (c15 : PySem.W.codeIn K cd15 "_law_mixed" = true)
    (k15 : PySem.W.keepIn K (.ref f15) = true)
    (a16 : PySem.W.nsIn K mainGlobals "_law_take" = some (some (.ref f16)))
    (l16 : K.lookup f16 = some ⟨oc16, od16, .func (PySem.W.fnOf "_law_take" "_law_take" (defArgs (top 16)) (defBody (top 16)) (defScope (top 16)) .none kV16 dc16 pm16 an16 cd16 ct16), sl16⟩)
    (c16 : PySem.W.codeIn K cd16 "_law_take" = true)
    (k16 : PySem.W.keepIn K (.ref f16) = true)
    (a17 : PySem.W.nsIn K mainGlobals "_law_name" = some (some (.ref f17)))
    (l17 : K.lookup f17 = some ⟨oc17, od17, .func (PySem.W.fnOf "_law_name" "_law_name" (defArgs (top 17)) (defBody (top 17)) (defScope (top 17)) .none kV17 dc17 pm17 an17 cd17 ct17), sl17⟩)
    (c17 : PySem.W.codeIn K cd17 "_law_name" = true)
    (k17 : PySem.W.keepIn K (.ref f17) = true)
    (a18 : PySem.W.nsIn K mainGlobals "_law_names" = some (some (.ref f18)))
    (l18 : K.lookup f18 = some ⟨oc18, od18, .func (PySem.W.fnOf "_law_names" "_law_names" (defArgs (top 18)) (defBody (top 18)) (defScope (top 18)) .none kV18 dc18 pm18 an18 cd18 ct18), sl18⟩)
    (c18 : PySem.W.codeIn K cd18 "_law_names" = true)
    (k18 : PySem.W.keepIn K (.ref f18) = true)
    (a19 : PySem.W.nsIn K mainGlobals "_law_world" = some (some (.ref f19)))
    (l19 : K.lookup f19 = some ⟨oc19, od19, .func (PySem.W.fnOf "_law_world" "_law_world" (defArgs (top 19)) (defBody (top 19)) (defScope (top 19)) .none kV19 dc19 pm19 an19 cd19 ct19), sl19⟩)
    (c19 : PySem.W.codeIn K cd19 "_law_world" = true)
    (k19 : PySem.W.keepIn K (.ref f19) = true)
    (a9_init : PySem.W.findIn K (.ref C3) "__init__" = some (some (.ref f9_init)))
    (l9_init : K.lookup f9_init = some ⟨oc9_init, od9_init, .func (PySem.W.fnOf "__init__" "Tongue.__init__" (defArgs (inClass (top 9) 0)) (defBody (inClass (top 9) 0)) (defScope (inClass (top 9) 0)) .none kV9_init dc9_init pm9_init an9_init cd9_init ct9_init), sl9_init⟩)
    (c9_init : PySem.W.codeIn K cd9_init "Tongue.__init__" = true)
    (k9_init : PySem.W.keepIn K (.ref f9_init) = true)
    (n9_init : PySem.W.isFn K (.ref f9_init) = true)
    (a10 : PySem.W.nsIn K mainGlobals "all_tongues" = some (some (.ref f10)))
    (l10 : K.lookup f10 = some ⟨oc10, od10, .func (PySem.W.fnOf "all_tongues" "all_tongues" (defArgs (top 10)) (defBody (top 10)) (defScope (top 10)) .none kV10 dc10 pm10 an10 cd10 ct10), sl10⟩)
    (c10 : PySem.W.codeIn K cd10 "all_tongues" = true)
    (k10 : PySem.W.keepIn K (.ref f10) = true)
    (a25 : PySem.W.nsIn K mainGlobals "_law_tongue_tried" = some (some (.ref f25)))
    (l25 : K.lookup f25 = some ⟨oc25, od25, .func (PySem.W.fnOf "_law_tongue_tried" "_law_tongue_tried" (defArgs (top 25)) (defBody (top 25)) (defScope (top 25)) .none kV25 dc25 pm25 an25 cd25 ct25), sl25⟩)
    (c25 : PySem.W.codeIn K cd25 "_law_tongue_tried" = true)
    (k25 : PySem.W.keepIn K (.ref f25) = true)
    (a23 : PySem.W.nsIn K mainGlobals "_law_unlike" = some (some (.ref f23)))
    (l23 : K.lookup f23 = some ⟨oc23, od23, .func (PySem.W.fnOf "_law_unlike" "_law_unlike" (defArgs (top 23)) (defBody (top 23)) (defScope (top 23)) .none kV23 dc23 pm23 an23 cd23 ct23), sl23⟩)
    (c23 : PySem.W.codeIn K cd23 "_law_unlike" = true)
    (k23 : PySem.W.keepIn K (.ref f23) = true)
    (a9_eq : PySem.W.findIn K (.ref C3) "__eq__" = some (some (.ref f9_eq)))
    (l9_eq : K.lookup f9_eq = some ⟨oc9_eq, od9_eq, .func (PySem.W.fnOf "__eq__" "Tongue.__eq__" (defArgs (inClass (top 9) 1)) (defBody (inClass (top 9) 1)) (defScope (inClass (top 9) 1)) .none kV9_eq dc9_eq pm9_eq an9_eq cd9_eq ct9_eq), sl9_eq⟩)
    (c9_eq : PySem.W.codeIn K cd9_eq "Tongue.__eq__" = true)
    (k9_eq : PySem.W.keepIn K (.ref f9_eq) = true)
    (n9_eq : PySem.W.isFn K (.ref f9_eq) = true)
    (a11_eq : PySem.W.findIn K (.ref C4) "__eq__" = some (some (.ref f11_eq)))
    (l11_eq : K.lookup f11_eq = some ⟨oc11_eq, od11_eq, .func (PySem.W.fnOf "__eq__" "Situation.__eq__" (defArgs (inClass (top 11) 1)) (defBody (inClass (top 11) 1)) (defScope (inClass (top 11) 1)) .none kV11_eq dc11_eq pm11_eq an11_eq cd11_eq ct11_eq), sl11_eq⟩)
    (c11_eq : PySem.W.codeIn K cd11_eq "Situation.__eq__" = true)
    (k11_eq : PySem.W.keepIn K (.ref f11_eq) = true)
    (n11_eq : PySem.W.isFn K (.ref f11_eq) = true)
    (a32 : PySem.W.nsIn K mainGlobals "_law_tongues_right" = some (some (.ref f32)))
    (l32 : K.lookup f32 = some ⟨oc32, od32, .func (PySem.W.fnOf "_law_tongues_right" "_law_tongues_right" (defArgs (top 32)) (defBody (top 32)) (defScope (top 32)) .none kV32 dc32 pm32 an32 cd32 ct32), sl32⟩)
    (c32 : PySem.W.codeIn K cd32 "_law_tongues_right" = true)
    (k32 : PySem.W.keepIn K (.ref f32) = true)
    (a20 : PySem.W.nsIn K mainGlobals "_law_date" = some (some (.ref f20)))
    (l20 : K.lookup f20 = some ⟨oc20, od20, .func (PySem.W.fnOf "_law_date" "_law_date" (defArgs (top 20)) (defBody (top 20)) (defScope (top 20)) .none kV20 dc20 pm20 an20 cd20 ct20), sl20⟩)
    (c20 : PySem.W.codeIn K cd20 "_law_date" = true)
    (k20 : PySem.W.keepIn K (.ref f20) = true)
    (a21 : PySem.W.nsIn K mainGlobals "_law_situation" = some (some (.ref f21)))
    (l21 : K.lookup f21 = some ⟨oc21, od21, .func (PySem.W.fnOf "_law_situation" "_law_situation" (defArgs (top 21)) (defBody (top 21)) (defScope (top 21)) .none kV21 dc21 pm21 an21 cd21 ct21), sl21⟩)
    (c21 : PySem.W.codeIn K cd21 "_law_situation" = true)
    (k21 : PySem.W.keepIn K (.ref f21) = true)
    (a7 : PySem.W.nsIn K mainGlobals "is_name" = some (some (.ref f7)))
    (l7 : K.lookup f7 = some ⟨oc7, od7, .func (PySem.W.fnOf "is_name" "is_name" (defArgs (top 7)) (defBody (top 7)) (defScope (top 7)) .none kV7 dc7 pm7 an7 cd7 ct7), sl7⟩)
    (c7 : PySem.W.codeIn K cd7 "is_name" = true)
    (k7 : PySem.W.keepIn K (.ref f7) = true)
    (a6 : PySem.W.nsIn K mainGlobals "is_whole" = some (some (.ref f6)))
    (l6 : K.lookup f6 = some ⟨oc6, od6, .func (PySem.W.fnOf "is_whole" "is_whole" (defArgs (top 6)) (defBody (top 6)) (defScope (top 6)) .none kV6 dc6 pm6 an6 cd6 ct6), sl6⟩)
    (c6 : PySem.W.codeIn K cd6 "is_whole" = true)
    (k6 : PySem.W.keepIn K (.ref f6) = true)
    (a11_init : PySem.W.findIn K (.ref C4) "__init__" = some (some (.ref f11_init)))
    (l11_init : K.lookup f11_init = some ⟨oc11_init, od11_init, .func (PySem.W.fnOf "__init__" "Situation.__init__" (defArgs (inClass (top 11) 0)) (defBody (inClass (top 11) 0)) (defScope (inClass (top 11) 0)) .none kV11_init dc11_init pm11_init an11_init cd11_init ct11_init), sl11_init⟩)
    (c11_init : PySem.W.codeIn K cd11_init "Situation.__init__" = true)
    (k11_init : PySem.W.keepIn K (.ref f11_init) = true)
    (n11_init : PySem.W.isFn K (.ref f11_init) = true)
    (a26 : PySem.W.nsIn K mainGlobals "_law_tried" = some (some (.ref f26)))
    (l26 : K.lookup f26 = some ⟨oc26, od26, .func (PySem.W.fnOf "_law_tried" "_law_tried" (defArgs (top 26)) (defBody (top 26)) (defScope (top 26)) .none kV26 dc26 pm26 an26 cd26 ct26), sl26⟩)
    (c26 : PySem.W.codeIn K cd26 "_law_tried" = true)
    (k26 : PySem.W.keepIn K (.ref f26) = true)
    (a11_moved : PySem.W.findIn K (.ref C4) "moved" = some (some (.ref f11_moved)))
    (l11_moved : K.lookup f11_moved = some ⟨oc11_moved, od11_moved, .func (PySem.W.fnOf "moved" "Situation.moved" (defArgs (inClass (top 11) 2)) (defBody (inClass (top 11) 2)) (defScope (inClass (top 11) 2)) .none kV11_moved dc11_moved pm11_moved an11_moved cd11_moved ct11_moved), sl11_moved⟩)
    (c11_moved : PySem.W.codeIn K cd11_moved "Situation.moved" = true)
    (k11_moved : PySem.W.keepIn K (.ref f11_moved) = true)
    (n11_moved : PySem.W.isFn K (.ref f11_moved) = true)
    (a27 : PySem.W.nsIn K mainGlobals "_law_moved" = some (some (.ref f27)))
    (l27 : K.lookup f27 = some ⟨oc27, od27, .func (PySem.W.fnOf "_law_moved" "_law_moved" (defArgs (top 27)) (defBody (top 27)) (defScope (top 27)) .none kV27 dc27 pm27 an27 cd27 ct27), sl27⟩)
    (c27 : PySem.W.codeIn K cd27 "_law_moved" = true)
    (k27 : PySem.W.keepIn K (.ref f27) = true)
    (a12 : PySem.W.nsIn K mainGlobals "exchange_name" = some (some (.ref f12)))
    (l12 : K.lookup f12 = some ⟨oc12, od12, .func (PySem.W.fnOf "exchange_name" "exchange_name" (defArgs (top 12)) (defBody (top 12)) (defScope (top 12)) .none kV12 dc12 pm12 an12 cd12 ct12), sl12⟩)
    (c12 : PySem.W.codeIn K cd12 "exchange_name" = true)
    (k12 : PySem.W.keepIn K (.ref f12) = true)
    (a11_exchanged : PySem.W.findIn K (.ref C4) "exchanged" = some (some (.ref f11_exchanged)))
    (l11_exchanged : K.lookup f11_exchanged = some ⟨oc11_exchanged, od11_exchanged, .func (PySem.W.fnOf "exchanged" "Situation.exchanged" (defArgs (inClass (top 11) 3)) (defBody (inClass (top 11) 3)) (defScope (inClass (top 11) 3)) .none kV11_exchanged dc11_exchanged pm11_exchanged an11_exchanged cd11_exchanged ct11_exchanged), sl11_exchanged⟩)
    (c11_exchanged : PySem.W.codeIn K cd11_exchanged "Situation.exchanged" = true)
    (k11_exchanged : PySem.W.keepIn K (.ref f11_exchanged) = true)
    (n11_exchanged : PySem.W.isFn K (.ref f11_exchanged) = true)
    (a28 : PySem.W.nsIn K mainGlobals "_law_exchanged" = some (some (.ref f28)))
    (l28 : K.lookup f28 = some ⟨oc28, od28, .func (PySem.W.fnOf "_law_exchanged" "_law_exchanged" (defArgs (top 28)) (defBody (top 28)) (defScope (top 28)) .none kV28 dc28 pm28 an28 cd28 ct28), sl28⟩)
    (c28 : PySem.W.codeIn K cd28 "_law_exchanged" = true)
    (k28 : PySem.W.keepIn K (.ref f28) = true)
    (a22 : PySem.W.nsIn K mainGlobals "_law_whole" = some (some (.ref f22)))
    (l22 : K.lookup f22 = some ⟨oc22, od22, .func (PySem.W.fnOf "_law_whole" "_law_whole" (defArgs (top 22)) (defBody (top 22)) (defScope (top 22)) .none kV22 dc22 pm22 an22 cd22 ct22), sl22⟩)
    (c22 : PySem.W.codeIn K cd22 "_law_whole" = true)
    (k22 : PySem.W.keepIn K (.ref f22) = true)
    (a24 : PySem.W.nsIn K mainGlobals "_law_letters" = some (some (.ref f24)))
    (l24 : K.lookup f24 = some ⟨oc24, od24, .func (PySem.W.fnOf "_law_letters" "_law_letters" (defArgs (top 24)) (defBody (top 24)) (defScope (top 24)) .none kV24 dc24 pm24 an24 cd24 ct24), sl24⟩)
    (c24 : PySem.W.codeIn K cd24 "_law_letters" = true)
    (k24 : PySem.W.keepIn K (.ref f24) = true)
    (a33 : PySem.W.nsIn K mainGlobals "_law_due" = some (some (.ref f33)))
    (l33 : K.lookup f33 = some ⟨oc33, od33, .func (PySem.W.fnOf "_law_due" "_law_due" (defArgs (top 33)) (defBody (top 33)) (defScope (top 33)) .none kV33 dc33 pm33 an33 cd33 ct33), sl33⟩)
    (c33 : PySem.W.codeIn K cd33 "_law_due" = true)
    (k33 : PySem.W.keepIn K (.ref f33) = true)
    (a30 : PySem.W.nsIn K mainGlobals "_law_parts" = some (some (.ref f30)))
    (l30 : K.lookup f30 = some ⟨oc30, od30, .func (PySem.W.fnOf "_law_parts" "_law_parts" (defArgs (top 30)) (defBody (top 30)) (defScope (top 30)) .none kV30 dc30 pm30 an30 cd30 ct30), sl30⟩)
    (c30 : PySem.W.codeIn K cd30 "_law_parts" = true)
    (k30 : PySem.W.keepIn K (.ref f30) = true)
    (a31 : PySem.W.nsIn K mainGlobals "_law_other" = some (some (.ref f31)))
    (l31 : K.lookup f31 = some ⟨oc31, od31, .func (PySem.W.fnOf "_law_other" "_law_other" (defArgs (top 31)) (defBody (top 31)) (defScope (top 31)) .none kV31 dc31 pm31 an31 cd31 ct31), sl31⟩)
    (c31 : PySem.W.codeIn K cd31 "_law_other" = true)
    (k31 : PySem.W.keepIn K (.ref f31) = true)
    (a29 : PySem.W.nsIn K mainGlobals "_law_name_exchanged" = some (some (.ref f29)))
    (l29 : K.lookup f29 = some ⟨oc29, od29, .func (PySem.W.fnOf "_law_name_exchanged" "_law_name_exchanged" (defArgs (top 29)) (defBody (top 29)) (defScope (top 29)) .none kV29 dc29 pm29 an29 cd29 ct29), sl29⟩)
    (c29 : PySem.W.codeIn K cd29 "_law_name_exchanged" = true)
    (k29 : PySem.W.keepIn K (.ref f29) = true)
    (a34 : PySem.W.nsIn K mainGlobals "law" = some (some (.ref f34)))
    (l34 : K.lookup f34 = some ⟨oc34, od34, .func (PySem.W.fnOf "law" "law" (defArgs (top 34)) (defBody (top 34)) (defScope (top 34)) .none kV34 dc34 pm34 an34 cd34 ct34), sl34⟩)
    (c34 : PySem.W.codeIn K cd34 "law" = true)
    (k34 : PySem.W.keepIn K (.ref f34) = true)
    (a2_x : PySem.W.findIn K (.ref C2) "__init__" = some (some (.ref f2_x)))
    (l2_x : K.lookup f2_x = some ⟨oc2_x, od2_x, .func (PySem.W.fnOf "__init__" "BadSituation.__init__" (defArgs (inClass (top 3) 0)) (defBody (inClass (top 3) 0)) (defScope (inClass (top 3) 0)) .none kV2_x dc2_x pm2_x an2_x cd2_x ct2_x), sl2_x⟩)
    (c2_x : PySem.W.codeIn K cd2_x "BadSituation.__init__" = true)
    (k2_x : PySem.W.keepIn K (.ref f2_x) = true)
    (n2_x : PySem.W.isFn K (.ref f2_x) = true)
    : Txt K mg (fun n => if n = 1 then C1 else if n = 2 then C2 else if n = 3 then C3 else if n = 4 then C4 else if n = 0 then C0 else 0) where
  b_all := PySem.W.mg_none_of X G zb_all
  b_bool := PySem.W.mg_none_of X G zb_bool
  b_enumerate := PySem.W.mg_none_of X G zb_enumerate
  b_int := PySem.W.mg_none_of X G zb_int
  b_isinstance := PySem.W.mg_none_of X G zb_isinstance
  b_len := PySem.W.mg_none_of X G zb_len
  b_list := PySem.W.mg_none_of X G zb_list
  b_range := PySem.W.mg_none_of X G zb_range
  b_str := PySem.W.mg_none_of X G zb_str
  b_tuple := PySem.W.mg_none_of X G zb_tuple
  x_BadTongue := ⟨xq1, PySem.W.mg_of X G xa1, xk1, xb1, xt1⟩
  x_BadSituation := ⟨PySem.W.mg_of X G xa2, xk2, xb2, xt2⟩
  xo_BadSituation := oex_mk xl2 xr2 xs2 xb2 xt2 xk2
  xh_BadSituation_what := xh2_what
  d_BadSituation := dm_mk a2_x l2_x c2_x k2_x n2_x fun _ _ _ _ _ _ us hl => match us, hl with | [_, _], _ => rfl
  bi_TalkError := ⟨_, _, PySem.W.mg_of X G xa0, bg0, br0, bv0⟩
  xf_what := ⟨fun c hc => by
    simp only [Bool.or_eq_true, beq_iff_eq] at hc
    rcases hc with rfl
    · exact ⟨⟨ya2, yg2, xb2, yd2⟩, xh2_what⟩⟩
  io_Situation := {
    own := fun c b e => by
      unfold io_Situation at e
      split at e
      · rename_i h; subst h; cases e; exact ⟨⟨pg3, hd3, po3, sa3⟩, ic3, im3, ik3_4⟩
      split at e
      · rename_i h; subst h; cases e; exact ⟨⟨pg4, hd4, po4, sa4⟩, ic4, im4, ik4_4⟩
      cases e
    sp := zs
    tk := zt
    b1 := it4_NoneType
    b2 := it4_bool
    b3 := it4_int
    b4 := it4_str
    b5 := it4_tuple
    b6 := it4_list
    b7 := it4_dict }
  xn_Situation := PySem.W.mg_of X G xa4
  io_Tongue := {
    own := fun c b e => by
      unfold io_Tongue at e
      split at e
      · rename_i h; subst h; cases e; exact ⟨⟨pg3, hd3, po3, sa3⟩, ic3, im3, ik3_3⟩
      split at e
      · rename_i h; subst h; cases e; exact ⟨⟨pg4, hd4, po4, sa4⟩, ic4, im4, ik4_3⟩
      cases e
    sp := zs
    tk := zt
    b1 := it3_NoneType
    b2 := it3_bool
    b3 := it3_int
    b4 := it3_str
    b5 := it3_tuple
    b6 := it3_list
    b7 := it3_dict }
  xn_Tongue := PySem.W.mg_of X G xa3
  fl_shifts_person := ⟨fun c hc => by
    simp only [Bool.or_eq_true, beq_iff_eq] at hc
    rcases hc with rfl
    · exact ⟨⟨pg3, hd3, po3, sa3⟩, fn3_shifts_person⟩⟩
  fl_shifts_you := ⟨fun c hc => by
    simp only [Bool.or_eq_true, beq_iff_eq] at hc
    rcases hc with rfl
    · exact ⟨⟨pg3, hd3, po3, sa3⟩, fn3_shifts_you⟩⟩
  fl_shifts_today := ⟨fun c hc => by
    simp only [Bool.or_eq_true, beq_iff_eq] at hc
    rcases hc with rfl
    · exact ⟨⟨pg3, hd3, po3, sa3⟩, fn3_shifts_today⟩⟩
  fl_shifts_here := ⟨fun c hc => by
    simp only [Bool.or_eq_true, beq_iff_eq] at hc
    rcases hc with rfl
    · exact ⟨⟨pg3, hd3, po3, sa3⟩, fn3_shifts_here⟩⟩
  fl_shifts := ⟨fun c hc => by
    simp only [Bool.or_eq_true, beq_iff_eq] at hc
    rcases hc with rfl
    · exact ⟨⟨pg3, hd3, po3, sa3⟩, fn3_shifts⟩⟩
  fl_place := ⟨fun c hc => by
    simp only [Bool.or_eq_true, beq_iff_eq] at hc
    rcases hc with rfl
    · exact ⟨⟨pg4, hd4, po4, sa4⟩, fn4_place⟩⟩
  fl_day := ⟨fun c hc => by
    simp only [Bool.or_eq_true, beq_iff_eq] at hc
    rcases hc with rfl
    · exact ⟨⟨pg4, hd4, po4, sa4⟩, fn4_day⟩⟩
  fl_hearer := ⟨fun c hc => by
    simp only [Bool.or_eq_true, beq_iff_eq] at hc
    rcases hc with rfl
    · exact ⟨⟨pg4, hd4, po4, sa4⟩, fn4_hearer⟩⟩
  fl_teller := ⟨fun c hc => by
    simp only [Bool.or_eq_true, beq_iff_eq] at hc
    rcases hc with rfl
    · exact ⟨⟨pg4, hd4, po4, sa4⟩, fn4_teller⟩⟩
  cl_Tongue := ⟨pg3, hd3, po3, sa3⟩
  cm_Tongue := ⟨PySem.W.mg_of X G xa3, mi3, xk3⟩
  cl_Situation := ⟨pg4, hd4, po4, sa4⟩
  cm_Situation := ⟨PySem.W.mg_of X G xa4, mi4, xk4⟩
  eq_nb := by
    intro c h T hT
    simp only [List.mem_cons, List.not_mem_nil, or_false] at hT
    unfold eq_is at h
    simp only [Bool.or_eq_true, beq_iff_eq] at h
    rcases h with rfl | rfl
    · rcases hT with rfl | rfl | rfl | rfl | rfl | rfl | rfl
      · exact nf3_NoneType
      · exact nf3_bool
      · exact nf3_int
      · exact nf3_str
      · exact nf3_tuple
      · exact nf3_list
      · exact nf3_dict
    · rcases hT with rfl | rfl | rfl | rfl | rfl | rfl | rfl
      · exact nf4_NoneType
      · exact nf4_bool
      · exact nf4_int
      · exact nf4_str
      · exact nf4_tuple
      · exact nf4_list
      · exact nf4_dict
  eq_no := by
    intro c c2 h h2
    unfold eq_is at h
    simp only [Bool.or_eq_true, beq_iff_eq] at h
    rcases h with rfl | rfl
    · unfold eq_is at h2
      simp only [Bool.or_eq_true, beq_iff_eq] at h2
      rcases h2 with rfl | rfl
      · exact no3_3
      · exact no3_4
    · unfold eq_is at h2
      simp only [Bool.or_eq_true, beq_iff_eq] at h2
      rcases h2 with rfl | rfl
      · exact no4_3
      · exact no4_4
  eq_ty := by
    intro c h
    unfold eq_is at h
    simp only [Bool.or_eq_true, beq_iff_eq] at h
    rcases h with rfl | rfl
    · exact ⟨⟨pg3, hd3, po3, sa3⟩, ic3, im3⟩
    · exact ⟨⟨pg4, hd4, po4, sa4⟩, ic4, im4⟩
  eq_sp := zs
  eq_tk := zt
  eq_ne := by
    intro c h
    unfold eq_is at h
    simp only [Bool.or_eq_true, beq_iff_eq] at h
    rcases h with rfl | rfl
    · exact ⟨nn3, im3⟩
    · exact ⟨nn4, im4⟩
  sb := by
    intro i j b e
    unfold subT at e
    split at e
    · rename_i h; obtain ⟨rfl, rfl⟩ := h; cases e; exact exm_at xb1 xi1 xt1 xs1_1
    split at e
    · rename_i h; obtain ⟨rfl, rfl⟩ := h; cases e; exact exm_at xb2 xi2 xt2 xs1_2
    split at e
    · rename_i h; obtain ⟨rfl, rfl⟩ := h; cases e; exact exm_at xb1 xi1 xt1 xs2_1
    split at e
    · rename_i h; obtain ⟨rfl, rfl⟩ := h; cases e; exact exm_at xb2 xi2 xt2 xs2_2
    cases e
  g_LETTERS := ⟨_, .str "abcdefghijklmnopqrstuvwxyz", PySem.W.mg_of X G gc_LETTERS, ⟨_, rfl⟩, fun _ => .str _ (by decide +kernel)⟩
  d__law_hand := df_mk X G a14 l14 c14 k14 fun _ _ _ _ _ _ us hl => match us, hl with | [_], _ => rfl
  d__law_mixed := df_mk X G a15 l15 c15 k15 fun _ _ _ _ _ _ us hl => match us, hl with | [_, _], _ => rfl
  d__law_take := df_mk X G a16 l16 c16 k16 fun _ _ _ _ _ _ us hl => match us, hl with | [_, _], _ => rfl
  d__law_name := df_mk X G a17 l17 c17 k17 fun _ _ _ _ _ _ us hl => match us, hl with | [_], _ => rfl
  d__law_names := df_mk X G a18 l18 c18 k18 fun _ _ _ _ _ _ us hl => match us, hl with | [_, _], _ => rfl
  d__law_world := df_mk X G a19 l19 c19 k19 fun _ _ _ _ _ _ us hl => match us, hl with | [_], _ => rfl
  d_Tongue___init__ := dm_mk a9_init l9_init c9_init k9_init n9_init fun _ _ _ _ _ _ us hl => match us, hl with | [_, _, _, _, _], _ => rfl
  d_all_tongues := df_mk X G a10 l10 c10 k10 fun _ _ _ _ _ _ us hl => match us, hl with | [], _ => rfl
  d__law_tongue_tried := df_mk X G a25 l25 c25 k25 fun _ _ _ _ _ _ us hl => match us, hl with | [_], _ => rfl
  d__law_unlike := df_mk X G a23 l23 c23 k23 fun _ _ _ _ _ _ us hl => match us, hl with | [_, _], _ => rfl
  d_Tongue___eq__ := dm_mk a9_eq l9_eq c9_eq k9_eq n9_eq fun _ _ _ _ _ _ us hl => match us, hl with | [_, _], _ => rfl
  d_Situation___eq__ := dm_mk a11_eq l11_eq c11_eq k11_eq n11_eq fun _ _ _ _ _ _ us hl => match us, hl with | [_, _], _ => rfl
  d__law_tongues_right := df_mk X G a32 l32 c32 k32 fun _ _ _ _ _ _ us hl => match us, hl with | [_], _ => rfl
  d__law_date := df_mk X G a20 l20 c20 k20 fun _ _ _ _ _ _ us hl => match us, hl with | [_], _ => rfl
  d__law_situation := df_mk X G a21 l21 c21 k21 fun _ _ _ _ _ _ us hl => match us, hl with | [_, _], _ => rfl
  d_is_name := df_mk X G a7 l7 c7 k7 fun _ _ _ _ _ _ us hl => match us, hl with | [_], _ => rfl
  d_is_whole := df_mk X G a6 l6 c6 k6 fun _ _ _ _ _ _ us hl => match us, hl with | [_], _ => rfl
  d_Situation___init__ := dm_mk a11_init l11_init c11_init k11_init n11_init fun _ _ _ _ _ _ us hl => match us, hl with | [_, _, _, _, _], _ => rfl
  d__law_tried := df_mk X G a26 l26 c26 k26 fun _ _ _ _ _ _ us hl => match us, hl with | [_], _ => rfl
  d_Situation_moved := dm_mk a11_moved l11_moved c11_moved k11_moved n11_moved fun _ _ _ _ _ _ us hl => match us, hl with | [_, _], _ => rfl
  d__law_moved := df_mk X G a27 l27 c27 k27 fun _ _ _ _ _ _ us hl => match us, hl with | [_, _], _ => rfl
  d_exchange_name := df_mk X G a12 l12 c12 k12 fun _ _ _ _ _ _ us hl => match us, hl with | [_, _, _], _ => rfl
  d_Situation_exchanged := dm_mk a11_exchanged l11_exchanged c11_exchanged k11_exchanged n11_exchanged fun _ _ _ _ _ _ us hl => match us, hl with | [_, _, _], _ => rfl
  d__law_exchanged := df_mk X G a28 l28 c28 k28 fun _ _ _ _ _ _ us hl => match us, hl with | [_, _, _], _ => rfl
  d__law_whole := df_mk X G a22 l22 c22 k22 fun _ _ _ _ _ _ us hl => match us, hl with | [_], _ => rfl
  d__law_letters := df_mk X G a24 l24 c24 k24 fun _ _ _ _ _ _ us hl => match us, hl with | [_], _ => rfl
  d__law_due := df_mk X G a33 l33 c33 k33 fun _ _ _ _ _ _ us hl => match us, hl with | [_], _ => rfl
  d__law_parts := df_mk X G a30 l30 c30 k30 fun _ _ _ _ _ _ us hl => match us, hl with | [_], _ => rfl
  d__law_other := df_mk X G a31 l31 c31 k31 fun _ _ _ _ _ _ us hl => match us, hl with | [_, _, _], _ => rfl
  d__law_name_exchanged := df_mk X G a29 l29 c29 k29 fun _ _ _ _ _ _ us hl => match us, hl with | [_, _, _], _ => rfl
  d_law := df_mk X G a34 l34 c34 k34 fun _ _ _ _ _ _ us hl => match us, hl with | [_], _ => rfl
theorem end_mk {P : Program} {w : World} {K : PySem.W.Frag} {mg : Str → Option Value} {C : Nat → Addr} (T : Txt K mg C) : ∃ (C : Nat → Addr) (st : Stmt) (df : Df K mg "law" st ["_law_script"]), ∀ base : Heap, FnOk P w K mg base (L2.CX P w) 7 df.f df.fd ["_law_script"] (spF K C 1 m_law) := ⟨C, _, T.d_law, fun base => k_all T⟩
end L05
open PySem PySem.W PyProof.Rows in
set_option maxRecDepth 100000 in
set_option maxHeartbeats 0 in
theorem PySem.Challenge.cw_whosetomorrow_k05_whole_tongues_and_situ_holds : PySem.Challenge.rw_whosetomorrow_k05_whole_tongues_and_situ.Holds := by
  w_on; o_law; k_head; (case hw => w_witness2)
  k_fill
  refine Rf.walk_end (l := PySem.Challenge.rw_whosetomorrow_k05_whole_tongues_and_situ) (k := 7) (F := L05.m_law) rfl rfl rfl ⟨rfl, by decide, by decide⟩ (fun w h Y => PySem.W.kIn_of Y) ?F L05.law_true
  case F =>
    intro w mg h KX G
    refine' L05.end_mk (L05.txt_mk KX G ?zb_all ?zb_bool ?zb_enumerate ?zb_int ?zb_isinstance ?zb_len ?zb_list ?zb_range ?zb_str ?zb_tuple ?xa1 ?xq1 ?xk1 ?xb1 ?xt1 ?xi1 ?xa2 ?xk2 ?xb2 ?xt2 ?xi2 ?xl2 ?xr2 ?xs2 ?xh2_what ?xa3 ?pg3 ?hd3 ?po3 ?sa3 ?mi3 ?xk3 ?xa4 ?pg4 ?hd4 ?po4 ?sa4 ?mi4 ?xk4 ?xa0 ?bg0 ?br0 ?bv0 ?ya2 ?yg2 ?yd2 ?nf3_NoneType ?nf3_bool ?nf3_int ?nf3_str ?nf3_tuple ?nf3_list ?nf3_dict ?no3_3 ?no3_4 ?nn3 ?nf4_NoneType ?nf4_bool ?nf4_int ?nf4_str ?nf4_tuple ?nf4_list ?nf4_dict ?no4_3 ?no4_4 ?nn4 ?ic3 ?im3 ?ic4 ?im4 ?ik3_4 ?ik4_4 ?it4_NoneType ?it4_bool ?it4_int ?it4_str ?it4_tuple ?it4_list ?it4_dict ?ik3_3 ?ik4_3 ?it3_NoneType ?it3_bool ?it3_int ?it3_str ?it3_tuple ?it3_list ?it3_dict ?zs ?zt ?fn3_shifts_person ?fn3_shifts_you ?fn3_shifts_today ?fn3_shifts_here ?fn3_shifts ?fn4_place ?fn4_day ?fn4_hearer ?fn4_teller ?xs1_1 ?xs1_2 ?xs2_1 ?xs2_2 ?gc_LETTERS ?a14 ?l14 ?c14 ?k14 ?a15 ?l15 ?c15 ?k15 ?a16 ?l16 ?c16 ?k16 ?a17 ?l17 ?c17 ?k17 ?a18 ?l18 ?c18 ?k18 ?a19 ?l19 ?c19 ?k19 ?a9_init ?l9_init ?c9_init ?k9_init ?n9_init ?a10 ?l10 ?c10 ?k10 ?a25 ?l25 ?c25 ?k25 ?a23 ?l23 ?c23 ?k23 ?a9_eq ?l9_eq ?c9_eq ?k9_eq ?n9_eq ?a11_eq ?l11_eq ?c11_eq ?k11_eq ?n11_eq ?a32 ?l32 ?c32 ?k32 ?a20 ?l20 ?c20 ?k20 ?a21 ?l21 ?c21 ?k21 ?a7 ?l7 ?c7 ?k7 ?a6 ?l6 ?c6 ?k6 ?a11_init ?l11_init ?c11_init ?k11_init ?n11_init ?a26 ?l26 ?c26 ?k26 ?a11_moved ?l11_moved ?c11_moved ?k11_moved ?n11_moved ?a27 ?l27 ?c27 ?k27 ?a12 ?l12 ?c12 ?k12 ?a11_exchanged ?l11_exchanged ?c11_exchanged ?k11_exchanged ?n11_exchanged ?a28 ?l28 ?c28 ?k28 ?a22 ?l22 ?c22 ?k22 ?a24 ?l24 ?c24 ?k24 ?a33 ?l33 ?c33 ?k33 ?a30 ?l30 ?c30 ?k30 ?a31 ?l31 ?c31 ?k31 ?a29 ?l29 ?c29 ?k29 ?a34 ?l34 ?c34 ?k34 ?a2_x ?l2_x ?c2_x ?k2_x ?n2_x)
    (case zb_all => k_is)
    (case zb_bool => k_is)
    (case zb_enumerate => k_is)
    (case zb_int => k_is)
    (case zb_isinstance => k_is)
    (case zb_len => k_is)
    (case zb_list => k_is)
    (case zb_range => k_is)
    (case zb_str => k_is)
    (case zb_tuple => k_is)
    (case xa1 => k_is)
    (case xq1 => k_exc)
    (case xk1 => k_is)
    (case xb1 => k_is)
    (case xt1 => k_is)
    (case xi1 => k_is)
    (case xa2 => k_is)
    (case xk2 => k_is)
    (case xb2 => k_is)
    (case xt2 => k_is)
    (case xi2 => k_is)
    (case xl2 => k_is)
    (case xr2 => decide +kernel)
    (case xs2 => k_is)
    (case xh2_what => k_is)
    (case xa3 => k_is)
    (case pg3 => k_is)
    (case hd3 => k_is)
    (case po3 => k_is)
    (case sa3 => k_is)
    (case mi3 => k_is)
    (case xk3 => k_is)
    (case xa4 => k_is)
    (case pg4 => k_is)
    (case hd4 => k_is)
    (case po4 => k_is)
    (case sa4 => k_is)
    (case mi4 => k_is)
    (case xk4 => k_is)
    (case xa0 => k_is)
    (case bg0 => k_is)
    (case br0 => k_is)
    (case bv0 => k_is)
    (case ya2 => k_is)
    (case yg2 => k_is)
    (case yd2 => k_is)
    (case nf3_NoneType => (first | rfl | k_is))
    (case nf3_bool => (first | rfl | k_is))
    (case nf3_int => (first | rfl | k_is))
    (case nf3_str => (first | rfl | k_is))
    (case nf3_tuple => (first | rfl | k_is))
    (case nf3_list => (first | rfl | k_is))
    (case nf3_dict => (first | rfl | k_is))
    (case no3_3 => (first | rfl | k_is))
    (case no3_4 => (first | rfl | k_is))
    (case nn3 => k_is)
    (case nf4_NoneType => (first | rfl | k_is))
    (case nf4_bool => (first | rfl | k_is))
    (case nf4_int => (first | rfl | k_is))
    (case nf4_str => (first | rfl | k_is))
    (case nf4_tuple => (first | rfl | k_is))
    (case nf4_list => (first | rfl | k_is))
    (case nf4_dict => (first | rfl | k_is))
    (case no4_3 => (first | rfl | k_is))
    (case no4_4 => (first | rfl | k_is))
    (case nn4 => k_is)
    (case ic3 => k_is)
    (case im3 => k_is)
    (case ic4 => k_is)
    (case im4 => k_is)
    (case ik3_4 => (first | rfl | k_is))
    (case ik4_4 => (first | rfl | k_is))
    (case it4_NoneType => (first | rfl | k_is))
    (case it4_bool => (first | rfl | k_is))
    (case it4_int => (first | rfl | k_is))
    (case it4_str => (first | rfl | k_is))
    (case it4_tuple => (first | rfl | k_is))
    (case it4_list => (first | rfl | k_is))
    (case it4_dict => (first | rfl | k_is))
    (case ik3_3 => (first | rfl | k_is))
    (case ik4_3 => (first | rfl | k_is))
    (case it3_NoneType => (first | rfl | k_is))
    (case it3_bool => (first | rfl | k_is))
    (case it3_int => (first | rfl | k_is))
    (case it3_str => (first | rfl | k_is))
    (case it3_tuple => (first | rfl | k_is))
    (case it3_list => (first | rfl | k_is))
    (case it3_dict => (first | rfl | k_is))
    (case zs => k_is)
    (case zt => k_is)
    (case fn3_shifts_person => k_is)
    (case fn3_shifts_you => k_is)
    (case fn3_shifts_today => k_is)
    (case fn3_shifts_here => k_is)
    (case fn3_shifts => k_is)
    (case fn4_place => k_is)
    (case fn4_day => k_is)
    (case fn4_hearer => k_is)
    (case fn4_teller => k_is)
    (case xs1_1 => (first | rfl | k_is))
    (case xs1_2 => (first | rfl | k_is))
    (case xs2_1 => (first | rfl | k_is))
    (case xs2_2 => (first | rfl | k_is))
    (case gc_LETTERS => k_is)
    (case a14 => k_is)
    (case l14 => k_is)
    (case c14 => k_is)
    (case k14 => k_is)
    (case a15 => k_is)
    (case l15 => k_is)
    (case c15 => k_is)
    (case k15 => k_is)
    (case a16 => k_is)
    (case l16 => k_is)
    (case c16 => k_is)
    (case k16 => k_is)
    (case a17 => k_is)
    (case l17 => k_is)
    (case c17 => k_is)
    (case k17 => k_is)
    (case a18 => k_is)
    (case l18 => k_is)
    (case c18 => k_is)
    (case k18 => k_is)
    (case a19 => k_is)
    (case l19 => k_is)
    (case c19 => k_is)
    (case k19 => k_is)
    (case a9_init => k_is)
    (case l9_init => k_is)
    (case c9_init => k_is)
    (case k9_init => k_is)
    (case n9_init => k_is)
    (case a10 => k_is)
    (case l10 => k_is)
    (case c10 => k_is)
    (case k10 => k_is)
    (case a25 => k_is)
    (case l25 => k_is)
    (case c25 => k_is)
    (case k25 => k_is)
    (case a23 => k_is)
    (case l23 => k_is)
    (case c23 => k_is)
    (case k23 => k_is)
    (case a9_eq => k_is)
    (case l9_eq => k_is)
    (case c9_eq => k_is)
    (case k9_eq => k_is)
    (case n9_eq => k_is)
    (case a11_eq => k_is)
    (case l11_eq => k_is)
    (case c11_eq => k_is)
    (case k11_eq => k_is)
    (case n11_eq => k_is)
    (case a32 => k_is)
    (case l32 => k_is)
    (case c32 => k_is)
    (case k32 => k_is)
    (case a20 => k_is)
    (case l20 => k_is)
    (case c20 => k_is)
    (case k20 => k_is)
    (case a21 => k_is)
    (case l21 => k_is)
    (case c21 => k_is)
    (case k21 => k_is)
    (case a7 => k_is)
    (case l7 => k_is)
    (case c7 => k_is)
    (case k7 => k_is)
    (case a6 => k_is)
    (case l6 => k_is)
    (case c6 => k_is)
    (case k6 => k_is)
    (case a11_init => k_is)
    (case l11_init => k_is)
    (case c11_init => k_is)
    (case k11_init => k_is)
    (case n11_init => k_is)
    (case a26 => k_is)
    (case l26 => k_is)
    (case c26 => k_is)
    (case k26 => k_is)
    (case a11_moved => k_is)
    (case l11_moved => k_is)
    (case c11_moved => k_is)
    (case k11_moved => k_is)
    (case n11_moved => k_is)
    (case a27 => k_is)
    (case l27 => k_is)
    (case c27 => k_is)
    (case k27 => k_is)
    (case a12 => k_is)
    (case l12 => k_is)
    (case c12 => k_is)
    (case k12 => k_is)
    (case a11_exchanged => k_is)
    (case l11_exchanged => k_is)
    (case c11_exchanged => k_is)
    (case k11_exchanged => k_is)
    (case n11_exchanged => k_is)
    (case a28 => k_is)
    (case l28 => k_is)
    (case c28 => k_is)
    (case k28 => k_is)
    (case a22 => k_is)
    (case l22 => k_is)
    (case c22 => k_is)
    (case k22 => k_is)
    (case a24 => k_is)
    (case l24 => k_is)
    (case c24 => k_is)
    (case k24 => k_is)
    (case a33 => k_is)
    (case l33 => k_is)
    (case c33 => k_is)
    (case k33 => k_is)
    (case a30 => k_is)
    (case l30 => k_is)
    (case c30 => k_is)
    (case k30 => k_is)
    (case a31 => k_is)
    (case l31 => k_is)
    (case c31 => k_is)
    (case k31 => k_is)
    (case a29 => k_is)
    (case l29 => k_is)
    (case c29 => k_is)
    (case k29 => k_is)
    (case a34 => k_is)
    (case l34 => k_is)
    (case c34 => k_is)
    (case k34 => k_is)
    (case a2_x => k_is)
    (case l2_x => k_is)
    (case c2_x => k_is)
    (case k2_x => k_is)
    (case n2_x => k_is)
