import PyProof.Rows.All
import Wide.All
import OpenK.AllK
import Wide.FinOn
import HandS.ForExc
import HandS.ForMost
import HandS.IsInst
import HandS.TupAny
import HandS.Wide
import HandS.Flow
import HandS.Deep
import HandS.Text
import HandS.TupLe
import KE.DatumOrd
import HandS.Walk
import HandS.ExcOwn
import HandS.TryOnly
import HandS.WordsExc
import HandS.ExcInit
import HandS.ExcField
import HandS.ExcIs
import KE.KExcIs
import HandS.OwnEq
import HandS.More
import KE.GoesMore
import KE.GoesEnum
import KE.KTab
import PyProof.StrOps2
import PyProof.CallFns
import PySem.Challenge.RW_whosetomorrow_k01_whole_words_told_from
set_option Elab.async false
set_option linter.all false
set_option maxRecDepth 100000
/-! Rf: Python's values as plain data; frozen and owned objects; readings by denotations -/
namespace Rf
open PySem L2

/-- a value as plain data -/
inductive D where
  | non | bl (b : Bool) | int (i : Int) | str (x : Str) | tup (ds : List D) | lst (ds : List D) | scr (ds : List D)
  | ins (c : Nat) (fs : List (Str × D)) | dic (ks : List (Key × D))
/-- what an owned object holds -/
inductive M where
  | lst (ds : List D) | ins (c : Nat) (fs : List (Str × D)) | dic (ks : List (Key × D))
def M.toD : M → D
  | .lst ds => .lst ds
  | .ins c fs => .ins c fs
  | .dic ks => .dic ks
inductive DV where
  | sh (d : D) | ow (m : M)
abbrev ENV := List (Option DV)
structure EX where
  c : Nat
  fs : List (Str × D)
inductive R (α : Type) where
  | ok (a : α) (ρ : ENV) | exc (e : EX) (ρ : ENV) | bot
def R.bind {α β : Type} (r : R α) (f : α → ENV → R β) : R β := match r with
  | .ok a ρ => f a ρ
  | .exc e ρ => .exc e ρ
  | .bot => .bot
def R.of {α : Type} (o : Option α) (ρ : ENV) : R α := match o with
  | some a => .ok a ρ
  | none => .bot

mutual
inductive Rp (K : PySem.W.Frag) (C : Nat → Addr) (G : Hp) : V → D → Prop
  | non : Rp K C G .non .non
  | bl (b : Bool) : Rp K C G (.bl b) (.bl b)
  | int (i : Int) : Rp K C G (.int i) (.int i)
  | str (x : Str) (h : x.length ≤ sizeLine) : Rp K C G (.str x) (.str x)
  | tup {a : Addr} {xs : List V} {ds : List D} (h : SqT K G a xs) (r : RpL K C G xs ds) : Rp K C G (.ref a) (.tup ds)
  | lst {a : Addr} {xs : List V} {ds : List D} (h : G a = some (.lst xs)) (r : RpL K C G xs ds) : Rp K C G (.ref a) (.lst ds)
  | scr {a : Addr} {xs : List V} {ds : List D} (h : SqL K G a xs) (r : RpL K C G xs ds) : Rp K C G (.ref a) (.scr ds)
  | ins {a dx : Addr} {c : Nat} {fl : List (Str × V)} {fs : List (Str × D)} (h : G a = some (.ins (C c) dx fl)) (r : RpF K C G fl fs) : Rp K C G (.ref a) (.ins c fs)
  | dic {a : Addr} {kv : List (Key × V)} {ks : List (Key × D)} (h : G a = some (.dK kv)) (r : RpK K C G kv ks) : Rp K C G (.ref a) (.dic ks)
inductive RpL (K : PySem.W.Frag) (C : Nat → Addr) (G : Hp) : List V → List D → Prop
  | nil : RpL K C G [] []
  | cons {v : V} {d : D} {vs : List V} {ds : List D} (h : Rp K C G v d) (r : RpL K C G vs ds) : RpL K C G (v :: vs) (d :: ds)
inductive RpF (K : PySem.W.Frag) (C : Nat → Addr) (G : Hp) : List (Str × V) → List (Str × D) → Prop
  | nil : RpF K C G [] []
  | cons {n : Str} {v : V} {d : D} {vs : List (Str × V)} {ds : List (Str × D)} (h : Rp K C G v d) (r : RpF K C G vs ds) : RpF K C G ((n, v) :: vs) ((n, d) :: ds)
inductive RpK (K : PySem.W.Frag) (C : Nat → Addr) (G : Hp) : List (Key × V) → List (Key × D) → Prop
  | nil : RpK K C G [] []
  | cons {n : Key} {v : V} {d : D} {vs : List (Key × V)} {ds : List (Key × D)} (h : Rp K C G v d) (r : RpK K C G vs ds) : RpK K C G ((n, v) :: vs) ((n, d) :: ds)
end

theorem same_seqT {K : PySem.W.Frag} {H H' : Hp} {a : Addr} {xs : List V} (e : Same H H') (h : SqT K H a xs) : SqT K H' a xs := by
  rcases h with (h | ⟨o, h⟩) | h
  · exact .inl (.inl (e _ _ h))
  · exact .inl (.inr ⟨o, e _ _ h⟩)
  · exact .inr h

mutual
theorem Rp.mono {K : PySem.W.Frag} {C : Nat → Addr} {G G' : Hp} (s : Same G G') {v : V} {d : D} : Rp K C G v d → Rp K C G' v d
  | .non => .non
  | .bl b => .bl b
  | .int i => .int i
  | .str x h => .str x h
  | .tup h r => .tup (same_seqT s h) (r.mono s)
  | .lst h r => .lst (s _ _ h) (r.mono s)
  | .scr h r => .scr (Same.seq s h) (r.mono s)
  | .ins h r => .ins (s _ _ h) (r.mono s)
  | .dic h r => .dic (s _ _ h) (r.mono s)
theorem RpL.mono {K : PySem.W.Frag} {C : Nat → Addr} {G G' : Hp} (s : Same G G') {v : List V} {d : List D} : RpL K C G v d → RpL K C G' v d
  | .nil => .nil
  | .cons h r => .cons (h.mono s) (r.mono s)
theorem RpF.mono {K : PySem.W.Frag} {C : Nat → Addr} {G G' : Hp} (s : Same G G') {v : List (Str × V)} {d : List (Str × D)} : RpF K C G v d → RpF K C G' v d
  | .nil => .nil
  | .cons h r => .cons (h.mono s) (r.mono s)
theorem RpK.mono {K : PySem.W.Frag} {C : Nat → Addr} {G G' : Hp} (s : Same G G') {v : List (Key × V)} {d : List (Key × D)} : RpK K C G v d → RpK K C G' v d
  | .nil => .nil
  | .cons h r => .cons (h.mono s) (r.mono s)
end

theorem RpL.length {K : PySem.W.Frag} {C : Nat → Addr} {G : Hp} : ∀ {v : List V} {d : List D}, RpL K C G v d → v.length = d.length
  | _, _, .nil => rfl
  | _, _, .cons _ r => congrArg (· + 1) r.length
theorem RpL.append {K : PySem.W.Frag} {C : Nat → Addr} {G : Hp} : ∀ {v w : List V} {d e : List D}, RpL K C G v d → RpL K C G w e → RpL K C G (v ++ w) (d ++ e)
  | _, _, _, _, .nil, s => s
  | _, _, _, _, .cons h r, s => .cons h (r.append s)
theorem RpL.get {K : PySem.W.Frag} {C : Nat → Addr} {G : Hp} : ∀ {v : List V} {d : List D} {i : Nat} {x : D}, RpL K C G v d → d[i]? = some x → ∃ y, v[i]? = some y ∧ Rp K C G y x
  | _, _, i, _, .nil, e => by simp at e
  | _, _, 0, _, .cons h _, e => by simp at e; subst e; exact ⟨_, rfl, h⟩
  | _, _, i + 1, x, .cons _ r, e => by
    obtain ⟨u, h1, h2⟩ := RpL.get (i := i) (x := x) r (by simpa using e)
    exact ⟨u, by simpa using h1, h2⟩
theorem RpL.getV {K : PySem.W.Frag} {C : Nat → Addr} {G : Hp} : ∀ {v : List V} {d : List D} {i : Nat} {y : V}, RpL K C G v d → v[i]? = some y → ∃ x, d[i]? = some x ∧ Rp K C G y x
  | _, _, i, _, .nil, e => by simp at e
  | _, _, 0, _, .cons h _, e => by simp at e; subst e; exact ⟨_, rfl, h⟩
  | _, _, i + 1, y, .cons _ r, e => by
    obtain ⟨u, h1, h2⟩ := RpL.getV (i := i) (y := y) r (by simpa using e)
    exact ⟨u, by simpa using h1, h2⟩
theorem RpL.set {K : PySem.W.Frag} {C : Nat → Addr} {G : Hp} {x : V} {y : D} (q : Rp K C G x y) : ∀ {v : List V} {d : List D} (i : Nat), RpL K C G v d → RpL K C G (v.set i x) (d.set i y)
  | _, _, _, .nil => .nil
  | _, _, 0, .cons _ r => .cons q r
  | _, _, i + 1, .cons h r => .cons h (RpL.set q i r)
theorem RpL.take {K : PySem.W.Frag} {C : Nat → Addr} {G : Hp} : ∀ {v : List V} {d : List D} (n : Nat), RpL K C G v d → RpL K C G (v.take n) (d.take n)
  | _, _, 0, _ => by simp; exact .nil
  | _, _, _ + 1, .nil => .nil
  | _, _, n + 1, .cons h r => .cons h (RpL.take n r)
theorem RpL.drop {K : PySem.W.Frag} {C : Nat → Addr} {G : Hp} : ∀ {v : List V} {d : List D} (n : Nat), RpL K C G v d → RpL K C G (v.drop n) (d.drop n)
  | _, _, 0, r => r
  | _, _, _ + 1, .nil => .nil
  | _, _, n + 1, .cons _ r => RpL.drop n r

/-- what a frozen or owned object of that content is -/
def HoldsM (K : PySem.W.Frag) (C : Nat → Addr) (G : Hp) (o : HO) : M → Prop
  | .lst ds => ∃ xs, o = .lst xs ∧ RpL K C G xs ds
  | .ins c fs => ∃ dx fl, o = .ins (C c) dx fl ∧ RpF K C G fl fs
  | .dic ks => ∃ kv, o = .dK kv ∧ RpK K C G kv ks
theorem HoldsM.mono {K : PySem.W.Frag} {C : Nat → Addr} {G G' : Hp} (s : Same G G') {o : HO} {m : M} (h : HoldsM K C G o m) : HoldsM K C G' o m := by
  cases m with
  | lst ds => obtain ⟨xs, e, r⟩ := h; exact ⟨xs, e, r.mono s⟩
  | ins c fs => obtain ⟨dx, fl, e, r⟩ := h; exact ⟨dx, fl, e, r.mono s⟩
  | dic ks => obtain ⟨kv, e, r⟩ := h; exact ⟨kv, e, r.mono s⟩
/-- the owned object at p -/
structure Own (K : PySem.W.Frag) (C : Nat → Addr) (B G H : Hp) (p : Addr) (m : M) : Prop where
  nb : B p = none
  ng : G p = none
  at_ : ∃ o, H p = some o ∧ HoldsM K C G o m
/-- the def's own data: the classes' places, what is wished of an exception, the protected slots and their places -/
structure Cc where
  C : Nat → Addr
  W : WX
  pr : List Nat
  ad : Nat → Addr
  kb : Hp
structure Rl (K : PySem.W.Frag) (cc : Cc) (B : Hp) (ρ : ENV) (σ : St) (G H : Hp) : Prop where
  bk : Same B H
  gk : Same G H
  ln : σ.length = ρ.length
  sh : ∀ (i : Nat) (d : D), ρ[i]? = some (some (.sh d)) → ∃ v, σ[i]? = some (some v) ∧ Rp K cc.C G v d
  ow : ∀ (i : Nat) (m : M), ρ[i]? = some (some (.ow m)) → ∃ p, σ[i]? = some (some (.ref p)) ∧ Own K cc.C B G H p m
  df : ∀ (i j : Nat) (m m' : M) (p : Addr), ρ[i]? = some (some (.ow m)) → ρ[j]? = some (some (.ow m')) → σ[i]? = some (some (.ref p)) → σ[j]? = some (some (.ref p)) → i = j
  pa : ∀ (i : Nat), i ∈ cc.pr → σ[i]? = some (some (.ref (cc.ad i)))
  kg : Same cc.kb G
/-- what is frozen grows, outside B -/
structure Ext (B G G' : Hp) : Prop where
  gg : Same G G'
  nb : ∀ a o, G' a = some o → G a = some o ∨ B a = none
theorem Ext.refl (B G : Hp) : Ext B G G := ⟨Same.refl G, fun _ _ h => .inl h⟩
theorem Ext.trans {B G G1 G2 : Hp} (a : Ext B G G1) (b : Ext B G1 G2) : Ext B G G2 := ⟨a.gg.trans b.gg, fun c o h => by
  rcases b.nb c o h with h | h
  · exact a.nb c o h
  · exact .inr h⟩
/-- new objects alone, frozen or not -/
structure Grow (G H G' H' : Hp) : Prop where
  gg : Same G G'
  hh : Same H H'
  gh : Same G' H'
  nw : ∀ a o, G' a = some o → G a = some o ∨ H a = none
theorem Grow.refl {G H : Hp} (s : Same G H) : Grow G H G H := ⟨Same.refl G, Same.refl H, s, fun _ _ h => .inl h⟩
theorem Grow.trans {G H G1 H1 G2 H2 : Hp} (a : Grow G H G1 H1) (b : Grow G1 H1 G2 H2) : Grow G H G2 H2 := ⟨a.gg.trans b.gg, a.hh.trans b.hh, b.gh, fun c o h => by
  rcases b.nw c o h with h | h
  · exact a.nw c o h
  · exact .inr (a.hh.free h)⟩
theorem same_upd {H : Hp} {p : Addr} {o : HO} (h : H p = none) : Same H (upd H p o) := fun b u e => by rw [upd_ne (ne_of_none e h)]; exact e
theorem same_upd2 {G H : Hp} {p : Addr} {o : HO} (s : Same G H) : Same (upd G p o) (upd H p o) := fun b u e => by
  by_cases q : b = p
  · subst q; rw [upd_same] at e ⊢; exact e
  · rw [upd_ne q] at e ⊢; exact s _ _ e
/-- a new object that is frozen at once -/
theorem Grow.new {G H : Hp} {p : Addr} {o : HO} (s : Same G H) (h : H p = none) : Grow G H (upd G p o) (upd H p o) :=
  ⟨same_upd (s.free h), same_upd h, same_upd2 s, fun a u e => by
    by_cases q : a = p
    · subst q; exact .inr h
    · rw [upd_ne q] at e; exact .inl e⟩
/-- a new object that is not frozen -/
theorem Grow.newO {G H : Hp} {p : Addr} {o : HO} (s : Same G H) (h : H p = none) : Grow G H G (upd H p o) :=
  ⟨Same.refl G, same_upd h, s.trans (same_upd h), fun a u e => .inl e⟩
section
variable {K : PySem.W.Frag} {cc : Cc} {B : Hp} {ρ : ENV} {σ : St} {G H G' H' : Hp}
theorem Own.grow {p : Addr} {m : M} (o : Own K cc.C B G H p m) (g : Grow G H G' H') : Own K cc.C B G' H' p m := by
  obtain ⟨x, hx, hm⟩ := o.at_
  refine ⟨o.nb, ?_, x, g.hh _ _ hx, hm.mono g.gg⟩
  cases q : G' p with
  | none => rfl
  | some u =>
    rcases g.nw p u q with h | h
    · rw [o.ng] at h; cases h
    · rw [hx] at h; cases h
theorem Rl.grow (r : Rl K cc B ρ σ G H) (g : Grow G H G' H') : Rl K cc B ρ σ G' H' where
  bk := r.bk.trans g.hh
  gk := g.gh
  ln := r.ln
  sh := fun i d e => let ⟨v, h, p⟩ := r.sh i d e; ⟨v, h, p.mono g.gg⟩
  ow := fun i m e => let ⟨p, h, o⟩ := r.ow i m e; ⟨p, h, o.grow g⟩
  df := r.df
  pa := r.pa
  kg := r.kg.trans g.gg
theorem Grow.ext (g : Grow G H G' H') (bk : Same B H) : Ext B G G' := ⟨g.gg, fun a o e => by
  rcases g.nw a o e with h | h
  · exact .inl h
  · exact .inr (bk.free h)⟩
end

/-- an exception -/
def ERp (K : PySem.W.Frag) (C : Nat → Addr) (G : Hp) (e : EX) (cl : Value) (dd : Option Addr) : Prop :=
  cl = .ref (C e.c) ∧ ((e.fs = [] ∧ dd = none) ∨ ∃ dx fl, dd = some dx ∧ G dx = some (.xd fl) ∧ RpF K C G fl e.fs)

/-- behind an expression -/
def Post {α β : Type} (K : PySem.W.Frag) (cc : Cc) (Vr : Hp → β → α → Prop) (B G : Hp) (σ : St) (Q : β → Hp → Prop) (r : R α) : Prop := match r with
  | .ok d ρ' => ∀ v G' H', Ext B G G' → Rl K cc B ρ' σ G' H' → Vr G' v d → Q v H'
  | .exc e ρ' => ∀ cl dd G' H', Ext B G G' → Rl K cc B ρ' σ G' H' → ERp K cc.C G' e cl dd → cc.W cl dd σ H'
  | .bot => False
theorem Post.bind {α β γ δ : Type} {K : PySem.W.Frag} {cc : Cc} {V1 : Hp → β → α → Prop} {V2 : Hp → δ → γ → Prop} {B G : Hp} {σ : St} {Q : δ → Hp → Prop} {Q' : β → Hp → Prop} {r : R α} {f : α → ENV → R γ}
    (h : Post K cc V2 B G σ Q (r.bind f))
    (k : ∀ d ρ1 G1 H1 x, Ext B G G1 → Rl K cc B ρ1 σ G1 H1 → V1 G1 x d → Post K cc V2 B G1 σ Q (f d ρ1) → Q' x H1) : Post K cc V1 B G σ Q' r := by
  cases r with
  | ok d ρ1 =>
    intro v G1 H1 e1 R1 p1
    refine k d ρ1 G1 H1 v e1 R1 p1 ?_
    have h : Post K cc V2 B G σ Q (f d ρ1) := h
    revert h
    cases f d ρ1 with
    | ok c ρ2 => exact fun h v G' H' e R' p => h v G' H' (e1.trans e) R' p
    | exc c ρ2 => exact fun h cl dd G' H' e R' p => h cl dd G' H' (e1.trans e) R' p
    | bot => exact id
  | exc e ρ1 => exact h
  | bot => exact h
theorem Post.mono {α β : Type} {K : PySem.W.Frag} {cc : Cc} {V1 : Hp → β → α → Prop} {B G : Hp} {σ : St} {Q Q' : β → Hp → Prop} {r : R α}
    (h : Post K cc V1 B G σ Q r) (k : ∀ v H, Q v H → Q' v H) : Post K cc V1 B G σ Q' r := by
  cases r with
  | ok d ρ1 => exact fun v G1 H1 e1 R1 p1 => k _ _ (h v G1 H1 e1 R1 p1)
  | exc e ρ1 => exact h
  | bot => exact h
/-- the end: the value is there -/
theorem Post.fin {α β : Type} {K : PySem.W.Frag} {cc : Cc} {V1 : Hp → β → α → Prop} {B G : Hp} {σ : St} {Q : β → Hp → Prop} {d : α} {ρ1 : ENV} {G1 H1 G2 H2 : Hp} {v : β}
    (h : Post K cc V1 B G σ Q (.ok d ρ1)) (R1 : Rl K cc B ρ1 σ G1 H1) (e : Ext B G G1) (g : Grow G1 H1 G2 H2) (p : V1 G2 v d) : Q v H2 :=
  h v G2 H2 (e.trans (g.ext R1.bk)) (R1.grow g) p

def rE (K : PySem.W.Frag) (cc : Cc) (den : ENV → R D) : TE := fun σ H Q => ∃ B ρ G, Rl K cc B ρ σ G H ∧ Post K cc (Rp K cc.C) B G σ Q (den ρ)
def rT (K : PySem.W.Frag) (cc : Cc) (den : ENV → R Bool) : TT := fun σ H Q => ∃ B ρ G, Rl K cc B ρ σ G H ∧ Post K cc (fun _ b c => b = c) B G σ Q (den ρ)
def rA (K : PySem.W.Frag) (cc : Cc) (den : ENV → R (List D)) : TA := fun σ H Q => ∃ B ρ G, Rl K cc B ρ σ G H ∧ Post K cc (RpL K cc.C) B G σ Q (den ρ)
theorem PE.imp {X : Cx} {e : Expr} {t t' : TE} (h : PE X e t) (k : ∀ σ H Q, t' σ H Q → t σ H Q) : PE X e t' := ⟨fun pins s σ H Q I q => h.run pins s σ H Q I (k _ _ _ q)⟩
theorem PT.imp {X : Cx} {e : Expr} {t t' : TT} (h : PT X e t) (k : ∀ σ H Q, t' σ H Q → t σ H Q) : PT X e t' := ⟨fun pins s σ H Q I q => h.run pins s σ H Q I (k _ _ _ q)⟩
theorem PW.imp {X : Cx} {e : Expr} {t t' : TT} (h : PW X e t) (k : ∀ σ H Q, t' σ H Q → t σ H Q) : PW X e t' := ⟨fun wh pins s σ H Q I q => h.run wh pins s σ H Q I (k _ _ _ q)⟩
theorem PA.imp {X : Cx} {e : List Expr} {t t' : TA} (h : PA X e t) (k : ∀ σ H Q, t' σ H Q → t σ H Q) : PA X e t' := ⟨fun pos pins s σ H Q I q => h.run pos pins s σ H Q I (k _ _ _ q)⟩
theorem PS.imp {X : Cx} {e : Stmt} {t t' : TS} (h : PS X e t) (k : ∀ Dn σ H, t' Dn σ H → t Dn σ H) : PS X e t' := ⟨fun pins s σ H Dn I q => h.run pins s σ H Dn I (k _ _ _ q)⟩
theorem PSs.imp {X : Cx} {e : List Stmt} {t t' : TS} (h : PSs X e t) (k : ∀ Dn σ H, t' Dn σ H → t Dn σ H) : PSs X e t' := ⟨fun pins s σ H Dn I q => h.run pins s σ H Dn I (k _ _ _ q)⟩
def DE (X : Cx) (cc : Cc) (e : Expr) (den : ENV → R D) : Prop := PE X e (rE X.K cc den)
def DT (X : Cx) (cc : Cc) (e : Expr) (den : ENV → R Bool) : Prop := PT X e (rT X.K cc den)
def DW (X : Cx) (cc : Cc) (e : Expr) (den : ENV → R Bool) : Prop := PW X e (rT X.K cc den)
def DA (X : Cx) (cc : Cc) (e : List Expr) (den : ENV → R (List D)) : Prop := PA X e (rA X.K cc den)
end Rf
set_option Elab.async false
set_option linter.all false
set_option maxRecDepth 100000
/-! Rf: expressions -/
namespace Rf
open PySem L2
/-! ### names, constants -/
def dVar (i : Nat) : ENV → R D := fun ρ => match ρ[i]? with
  | some (some (.sh d)) => .ok d ρ
  | some (some (.ow m)) => .ok m.toD (ρ.set i (some (.sh m.toD)))
  | _ => .bot
def dC (d : D) : ENV → R D := fun ρ => .ok d ρ
theorem HoldsM.rp {K : PySem.W.Frag} {C : Nat → Addr} {G : Hp} {p : Addr} {o : HO} {m : M} (e : G p = some o) (h : HoldsM K C G o m) : Rp K C G (.ref p) m.toD := by
  cases m with
  | lst ds => obtain ⟨xs, rfl, r⟩ := h; exact .lst e r
  | ins c fs => obtain ⟨dx, fl, rfl, r⟩ := h; exact .ins e r
  | dic ks => obtain ⟨kv, rfl, r⟩ := h; exact .dic e r
/-- an owned slot is frozen -/
theorem Rl.freeze {K : PySem.W.Frag} {cc : Cc} {B : Hp} {ρ : ENV} {σ : St} {G H : Hp} {i : Nat} {m : M} (r : Rl K cc B ρ σ G H) (e : ρ[i]? = some (some (.ow m))) :
    ∃ p G', σ[i]? = some (some (.ref p)) ∧ Ext B G G' ∧ Rl K cc B (ρ.set i (some (.sh m.toD))) σ G' H ∧ Rp K cc.C G' (.ref p) m.toD := by
  obtain ⟨p, hp, o⟩ := r.ow i m e
  obtain ⟨x, hx, hm⟩ := o.at_
  have sG : Same G (upd G p x) := same_upd o.ng
  have rp : Rp K cc.C (upd G p x) (.ref p) m.toD := HoldsM.rp upd_same (hm.mono sG)
  have il : i < ρ.length := (List.getElem?_eq_some_iff.mp e).1
  refine ⟨p, upd G p x, hp, ⟨sG, fun a u q => ?_⟩, ⟨r.bk, fun b u q => ?_, by rw [List.length_set]; exact r.ln, fun j d q => ?_, fun j m' q => ?_, fun j k m1 m2 p' q1 q2 => ?_, r.pa, r.kg.trans sG⟩, rp⟩
  · by_cases h : a = p
    · subst h; exact .inr o.nb
    · rw [upd_ne h] at q; exact .inl q
  · by_cases h : b = p
    · subst h; rw [upd_same] at q; cases q; exact hx
    · rw [upd_ne h] at q; exact r.gk b u q
  · by_cases h : j = i
    · subst h
      rw [List.getElem?_set_self il] at q; cases q
      exact ⟨_, hp, rp⟩
    · rw [List.getElem?_set_ne (Ne.symm h)] at q
      obtain ⟨v, h1, h2⟩ := r.sh j d q
      exact ⟨v, h1, h2.mono sG⟩
  · by_cases h : j = i
    · subst h
      rw [List.getElem?_set_self il] at q; cases q
    · rw [List.getElem?_set_ne (Ne.symm h)] at q
      obtain ⟨p', h1, o'⟩ := r.ow j m' q
      have ne : p' ≠ p := fun z => by subst z; exact h (r.df j i m' m p' q e h1 hp)
      obtain ⟨x', hx', hm'⟩ := o'.at_
      exact ⟨p', h1, o'.nb, by rw [upd_ne ne]; exact o'.ng, x', hx', hm'.mono sG⟩
  · have g1 : ρ[j]? = some (some (.ow m1)) := by
      by_cases h : j = i
      · subst h; rw [List.getElem?_set_self il] at q1; cases q1
      · rw [List.getElem?_set_ne (Ne.symm h)] at q1; exact q1
    have g2 : ρ[k]? = some (some (.ow m2)) := by
      by_cases h : k = i
      · subst h; rw [List.getElem?_set_self il] at q2; cases q2
      · rw [List.getElem?_set_ne (Ne.symm h)] at q2; exact q2
    exact r.df j k m1 m2 p' g1 g2
section
variable {X : Cx} {cc : Cc} {a b c e : Expr} {da db dc : ENV → R D} {pos : Pos}
theorem de_var (i : Nat) {x : Str} (hN : X.N[i]? = some x := by rfl) (hv : Vis X.env.scope x := by first | exact Or.inl rfl | exact Or.inr (Or.inl rfl) | exact Or.inr (Or.inr rfl)) (hd : (x == ("__debug__" : Str)) = false := by decide)
    (hcd : (x == ("__classdict__" : Str)) = false := by decide) : DE X cc (.Name x pos) (dVar i) := by
  refine PE.imp (pe_var hN hv hd hcd) fun σ H Q h => ?_
  obtain ⟨B, ρ, G, R1, h⟩ := h
  unfold dVar at h
  split at h
  · rename_i d e
    obtain ⟨v, h1, h2⟩ := R1.sh i d e
    exact ⟨v, h1, h v G H (Ext.refl B G) R1 h2⟩
  · rename_i m e
    obtain ⟨p, G', h1, h2, h3, h4⟩ := R1.freeze e
    exact ⟨_, h1, h _ G' H h2 h3 h4⟩
  · exact h.elim
/-- a constant -/
theorem de_k {v : V} {d : D} (h : PE X e (tC v)) (hr : ∀ G, Rp X.K cc.C G v d) : DE X cc e (dC d) := PE.imp h fun σ H Q ⟨B, ρ, G, R1, h⟩ => h v G H (Ext.refl B G) R1 (hr G)
theorem de_int {i : Int} {j : Nat} : DE X cc (.Constant (.int i) j pos) (dC (.int i)) := de_k pe_int fun _ => .int i
theorem de_bl {i : Bool} {j : Nat} : DE X cc (.Constant (.bool i) j pos) (dC (.bl i)) := de_k pe_bl fun _ => .bl i
theorem de_non {j : Nat} : DE X cc (.Constant .none j pos) (dC .non) := de_k pe_non fun _ => .non
theorem de_str {x : Str} {j : Nat} (h : x.length ≤ sizeLine := by decide +kernel) : DE X cc (.Constant (.str x) j pos) (dC (.str x)) := de_k pe_str fun _ => .str x h

/-! ### operations by values -/
def dOp (f : D → D → Option D) (da db : ENV → R D) : ENV → R D := fun ρ => (da ρ).bind fun x ρ1 => (db ρ1).bind fun y ρ2 => R.of (f x y) ρ2
def dUn (f : D → Option D) (da : ENV → R D) : ENV → R D := fun ρ => (da ρ).bind fun x ρ1 => R.of (f x) ρ1
/-- the rule r does f -/
def V2 (K : PySem.W.Frag) (C : Nat → Addr) (f : D → D → Option D) (r : R2) : Prop :=
  ∀ {G H : Hp} {x y : V} {dx dy d : D} {Q : VK}, Same G H → Rp K C G x dx → Rp K C G y dy → f dx dy = some d → (∀ v G' H', Grow G H G' H' → Rp K C G' v d → Q v H') → r x y H Q
def V1 (K : PySem.W.Frag) (C : Nat → Addr) (f : D → Option D) (r : V → Hp → VK → Prop) : Prop :=
  ∀ {G H : Hp} {x : V} {dx d : D} {Q : VK}, Same G H → Rp K C G x dx → f dx = some d → (∀ v G' H', Grow G H G' H' → Rp K C G' v d → Q v H') → r x H Q
theorem V2.or {K : PySem.W.Frag} {C : Nat → Addr} {f g : D → D → Option D} {r r' : R2} (h : V2 K C f r) (h' : V2 K C g r') : V2 K C (fun x y => (f x y).orElse fun _ => g x y) (fun x y H Q => r x y H Q ∨ r' x y H Q) := by
  intro G H x y dx dy d Q s px py e k
  cases hf : f dx dy with
  | some z => simp only [hf, Option.orElse_some, Option.some.injEq] at e; subst e; exact .inl (h s px py hf k)
  | none => simp only [hf, Option.orElse_none] at e; exact .inr (h' s px py e k)
theorem V2.imp {K : PySem.W.Frag} {C : Nat → Addr} {f g : D → D → Option D} {r : R2} (h : V2 K C f r) (hg : ∀ x y d, g x y = some d → f x y = some d) : V2 K C g r :=
  fun s px py e k => h s px py (hg _ _ _ e) k
theorem op_core {r : R2} {f : D → D → Option D} (hv : V2 X.K cc.C f r) : ∀ σ H Q, rE X.K cc (dOp f da db) σ H Q → tOp r (rE X.K cc da) (rE X.K cc db) σ H Q := by
  intro σ H Q ⟨B, ρ, G, R0, h⟩
  refine ⟨B, ρ, G, R0, h.bind fun d1 ρ1 G1 H1 x e1 R1 p1 h1 => ⟨B, ρ1, G1, R1, h1.bind fun d2 ρ2 G2 H2 y e2 R2 p2 h2 => ?_⟩⟩
  cases hf : f d1 d2 with
  | none => rw [hf] at h2; exact h2.elim
  | some d =>
    rw [hf] at h2
    exact hv R2.gk (p1.mono e2.gg) p2 hf fun v G' H' g p => Post.fin h2 R2 (Ext.refl _ _) g p
theorem de_op {op : Operator} {r : R2} {f : D → D → Option D} (ho : OpR X (binaryOp op) r) (hv : V2 X.K cc.C f r) (ha : DE X cc a da) (hb : DE X cc b db) : DE X cc (.BinOp a op b pos) (dOp f da db) :=
  PE.imp (pe_op ho ha hb) (op_core hv)
theorem de_cmp {op : CmpOp} {r : R2} {f : D → D → Option D} (ho : OpR X (compareOp op) r) (hv : V2 X.K cc.C f r) (hm : behindInMarks op b = false) (ha : DE X cc a da) (hb : DE X cc b db) : DE X cc (.Compare a [op] [b] pos) (dOp f da db) :=
  PE.imp (pe_cmpR ho ha hb hm) (op_core hv)
theorem de_un {op : UnaryOp} {r : V → Hp → VK → Prop} {f : D → Option D} (ho : UnR X (unaryOp op) r) (hv : V1 X.K cc.C f r) (ha : DE X cc a da) : DE X cc (.UnaryOp op a pos) (dUn f da) := by
  refine PE.imp (pe_un ho ha) fun σ H Q ⟨B, ρ, G, R0, h⟩ => ⟨B, ρ, G, R0, h.bind fun d1 ρ1 G1 H1 x e1 R1 p1 h1 => ?_⟩
  cases hf : f d1 with
  | none => rw [hf] at h1; exact h1.elim
  | some d =>
    rw [hf] at h1
    exact hv R1.gk p1 hf fun v G' H' g p => Post.fin h1 R1 (Ext.refl _ _) g p
/-- a value that is a truth, as a test -/
def asT (r : R D) : R Bool := r.bind fun d ρ => match d with
  | .bl b => .ok b ρ
  | _ => .bot
def dT (den : ENV → R D) : ENV → R Bool := fun ρ => asT (den ρ)
theorem test_core {t : TE} {den : ENV → R D} (k : ∀ σ H Q, rE X.K cc den σ H Q → t σ H Q) : ∀ σ H Q, rT X.K cc (dT den) σ H Q → tTest t σ H Q := by
  intro σ H Q ⟨B, ρ, G, R0, h⟩
  refine k _ _ _ ⟨B, ρ, G, R0, Post.bind (V2 := fun _ b c => b = c) h fun d1 ρ1 G1 H1 x e1 R1 p1 h1 => ?_⟩
  cases p1 with
  | bl b => exact ⟨b, rfl, h1 b G1 H1 (Ext.refl _ _) R1 rfl⟩
  | _ => exact h1.elim
theorem dt_cmp {op : CmpOp} {r : R2} {f : D → D → Option D} (ho : OpR X (compareOp op) r) (hv : V2 X.K cc.C f r) (hm : behindInMarks op b = false) (ha : DE X cc a da) (hb : DE X cc b db) : DT X cc (.Compare a [op] [b] pos) (dT (dOp f da db)) :=
  PT.imp (pt_cmpR ho ha hb hm) (test_core (op_core hv))

/-! ### truth, and, or, not -/
def tru : D → Option Bool
  | .non => some false
  | .bl b => some b
  | .int i => some (i != 0)
  | .str x => some ((x.length : Int) != 0)
  | .tup ds => some (!ds.isEmpty)
  | .lst ds => some (!ds.isEmpty)
  | .scr ds => some (!ds.isEmpty)
  | .dic ks => some (!ks.isEmpty)
  | .ins _ _ => none
theorem RpL.empty {K : PySem.W.Frag} {C : Nat → Addr} {G : Hp} {v : List V} {d : List D} (r : RpL K C G v d) : v.isEmpty = d.isEmpty := by cases r <;> rfl
theorem RpK.empty {K : PySem.W.Frag} {C : Nat → Addr} {G : Hp} {v : List (Key × V)} {d : List (Key × D)} (r : RpK K C G v d) : v.isEmpty = d.isEmpty := by cases r <;> rfl
theorem tru_of {K : PySem.W.Frag} {C : Nat → Addr} {G H : Hp} {v : V} {d : D} {k : Bool} (s : Same G H) (p : Rp K C G v d) (e : tru d = some k) : TruV K v H k := by
  cases p with
  | non => cases e; rfl
  | bl b => cases e; rfl
  | int i => cases e; rfl
  | str x h => cases e; exact ⟨h, rfl⟩
  | tup h r => cases e; exact .inr (.inl ⟨_, same_seqT s h, by rw [r.empty]⟩)
  | lst h r => cases e; exact .inl ⟨_, .inl (.inl (s _ _ h)), by rw [r.empty]⟩
  | scr h r => cases e; exact .inl ⟨_, Same.seq s h, by rw [r.empty]⟩
  | ins h r => cases e
  | dic h r => cases e; exact .inr (.inr ⟨_, s _ _ h, by rw [r.empty]⟩)
def dTru (den : ENV → R D) : ENV → R Bool := fun ρ => (den ρ).bind fun d ρ1 => R.of (tru d) ρ1
theorem dt_tru (ha : DE X cc a da) (he : ∀ whole, isTrue a X.env whole = (do let v ← whole; standAt a.pos; holding [v] (truthy v)) := by intro _; rfl) : DT X cc a (dTru da) := by
  refine PT.imp (pt_truth ha he) fun σ H Q ⟨B, ρ, G, R0, h⟩ => ⟨B, ρ, G, R0, Post.bind (V2 := fun _ b c => b = c) h fun d1 ρ1 G1 H1 x e1 R1 p1 h1 => ?_⟩
  cases hf : tru d1 with
  | none => rw [hf] at h1; exact h1.elim
  | some k =>
    rw [hf] at h1
    exact ⟨k, tru_of R1.gk p1 hf, h1 k G1 H1 (Ext.refl _ _) R1 rfl⟩
def dAnd (da db : ENV → R Bool) : ENV → R Bool := fun ρ => (da ρ).bind fun x ρ1 => if x = true then db ρ1 else .ok false ρ1
def dOr (da db : ENV → R Bool) : ENV → R Bool := fun ρ => (da ρ).bind fun x ρ1 => if x = true then .ok true ρ1 else db ρ1
def dNot (da : ENV → R Bool) : ENV → R Bool := fun ρ => (da ρ).bind fun x ρ1 => .ok (!x) ρ1
variable {ta tb : ENV → R Bool} {rest : List Expr}
theorem dw_and1 (ha : DT X cc a ta) : DW X cc (.BoolOp .And [a] pos) ta := pw_and1 ha
theorem dw_or1 (ha : DT X cc a ta) : DW X cc (.BoolOp .Or [a] pos) ta := pw_or1 ha
theorem dw_and (ha : DT X cc a ta) (hb : DW X cc (.BoolOp .And (b :: rest) pos) tb) : DW X cc (.BoolOp .And (a :: b :: rest) pos) (dAnd ta tb) := by
  refine PW.imp (pw_and ha hb) fun σ H Q ⟨B, ρ, G, R0, h⟩ => ⟨B, ρ, G, R0, Post.bind (V2 := fun _ b c => b = c) h fun d1 ρ1 G1 H1 x e1 R1 p1 h1 => ?_⟩
  subst p1
  cases x with
  | true => exact iteT ⟨B, ρ1, G1, R1, h1⟩
  | false => exact iteF (h1 false G1 H1 (Ext.refl _ _) R1 rfl)
theorem dw_or (ha : DT X cc a ta) (hb : DW X cc (.BoolOp .Or (b :: rest) pos) tb) : DW X cc (.BoolOp .Or (a :: b :: rest) pos) (dOr ta tb) := by
  refine PW.imp (pw_or ha hb) fun σ H Q ⟨B, ρ, G, R0, h⟩ => ⟨B, ρ, G, R0, Post.bind (V2 := fun _ b c => b = c) h fun d1 ρ1 G1 H1 x e1 R1 p1 h1 => ?_⟩
  subst p1
  cases x with
  | true => exact iteT (h1 true G1 H1 (Ext.refl _ _) R1 rfl)
  | false => exact iteF ⟨B, ρ1, G1, R1, h1⟩
theorem dt_w (h : DW X cc a ta) : DT X cc a ta := PW.pt h
theorem dt_not (ha : DT X cc a ta) : DT X cc (.UnaryOp .Not a pos) (dNot ta) := by
  refine PT.imp (pt_not ha) fun σ H Q ⟨B, ρ, G, R0, h⟩ => ⟨B, ρ, G, R0, Post.bind (V2 := fun _ b c => b = c) h fun d1 ρ1 G1 H1 x e1 R1 p1 h1 => ?_⟩
  subst p1
  exact h1 (!x) G1 H1 (Ext.refl _ _) R1 rfl
/-- .. as values -/
def dAndV (da db : ENV → R D) : ENV → R D := fun ρ => (da ρ).bind fun x ρ1 => match tru x with
  | some true => db ρ1
  | some false => .ok x ρ1
  | none => .bot
def dOrV (da db : ENV → R D) : ENV → R D := fun ρ => (da ρ).bind fun x ρ1 => match tru x with
  | some true => .ok x ρ1
  | some false => db ρ1
  | none => .bot
def dNotV (da : ENV → R D) : ENV → R D := fun ρ => (da ρ).bind fun x ρ1 => R.of ((tru x).map fun k => .bl (!k)) ρ1
theorem de_one {op : BoolOp} (h : DE X cc a da) : DE X cc (.BoolOp op [a] pos) da := pe_one h
theorem de_and (ha : DE X cc a da) (hb : DE X cc (.BoolOp .And (b :: rest) pos) db) : DE X cc (.BoolOp .And (a :: b :: rest) pos) (dAndV da db) := by
  refine PE.imp (pe_andT ha hb) fun σ H Q ⟨B, ρ, G, R0, h⟩ => ⟨B, ρ, G, R0, h.bind fun d1 ρ1 G1 H1 x e1 R1 p1 h1 => ?_⟩
  cases hf : tru d1 with
  | none => simp only [hf] at h1; exact h1.elim
  | some k =>
    simp only [hf] at h1
    refine ⟨k, tru_of R1.gk p1 hf, ?_⟩
    cases k with
    | true => exact iteT ⟨B, ρ1, G1, R1, h1⟩
    | false => exact iteF (h1 x G1 H1 (Ext.refl _ _) R1 p1)
theorem de_or (ha : DE X cc a da) (hb : DE X cc (.BoolOp .Or (b :: rest) pos) db) : DE X cc (.BoolOp .Or (a :: b :: rest) pos) (dOrV da db) := by
  refine PE.imp (pe_orT ha hb) fun σ H Q ⟨B, ρ, G, R0, h⟩ => ⟨B, ρ, G, R0, h.bind fun d1 ρ1 G1 H1 x e1 R1 p1 h1 => ?_⟩
  cases hf : tru d1 with
  | none => simp only [hf] at h1; exact h1.elim
  | some k =>
    simp only [hf] at h1
    refine ⟨k, tru_of R1.gk p1 hf, ?_⟩
    cases k with
    | true => exact iteT (h1 x G1 H1 (Ext.refl _ _) R1 p1)
    | false => exact iteF ⟨B, ρ1, G1, R1, h1⟩
theorem de_not (ha : DE X cc a da) : DE X cc (.UnaryOp .Not a pos) (dNotV da) := by
  refine PE.imp (pe_notT ha) fun σ H Q ⟨B, ρ, G, R0, h⟩ => ⟨B, ρ, G, R0, h.bind fun d1 ρ1 G1 H1 x e1 R1 p1 h1 => ?_⟩
  cases hf : tru d1 with
  | none => simp only [hf, Option.map_none] at h1; exact h1.elim
  | some k =>
    simp only [hf, Option.map_some] at h1
    exact ⟨k, tru_of R1.gk p1 hf, h1 (.bl (!k)) G1 H1 (Ext.refl _ _) R1 (.bl _)⟩
def dIf (t : ENV → R Bool) (da db : ENV → R D) : ENV → R D := fun ρ => (t ρ).bind fun x ρ1 => if x = true then da ρ1 else db ρ1
theorem de_if (hc : DT X cc c ta) (ha : DE X cc a da) (hb : DE X cc b db) : DE X cc (.IfExp c a b pos) (dIf ta da db) := by
  refine PE.imp (pe_ifExp hc ha hb) fun σ H Q ⟨B, ρ, G, R0, h⟩ => ⟨B, ρ, G, R0, h.bind fun d1 ρ1 G1 H1 x e1 R1 p1 h1 => ?_⟩
  subst p1
  cases x with
  | true => exact iteT ⟨B, ρ1, G1, R1, h1⟩
  | false => exact iteF ⟨B, ρ1, G1, R1, h1⟩

/-! ### displays -/
def dNil : ENV → R (List D) := fun ρ => .ok [] ρ
def dCons (da : ENV → R D) (dr : ENV → R (List D)) : ENV → R (List D) := fun ρ => (da ρ).bind fun x ρ1 => (dr ρ1).bind fun xs ρ2 => .ok (x :: xs) ρ2
variable {dr : ENV → R (List D)} {es : List Expr}
theorem da_nil : DA X cc [] dNil := PA.imp pa_nil fun σ H Q ⟨B, ρ, G, R0, h⟩ => h [] G H (Ext.refl _ _) R0 .nil
theorem da_cons (ha : DE X cc e da) (hr : DA X cc es dr) (hs : starEach (e :: es) X.env = (false, eval e X.env) :: starEach es X.env := by rfl) : DA X cc (e :: es) (dCons da dr) := by
  refine PA.imp (pa_cons ha hr hs) fun σ H Q ⟨B, ρ, G, R0, h⟩ => ⟨B, ρ, G, R0, h.bind fun d1 ρ1 G1 H1 x e1 R1 p1 h1 => ⟨B, ρ1, G1, R1, h1.bind fun d2 ρ2 G2 H2 y e2 R2 p2 h2 => ?_⟩⟩
  exact h2 (x :: y) G2 H2 (Ext.refl _ _) R2 (.cons (p1.mono e2.gg) p2)
def dTup (dr : ENV → R (List D)) : ENV → R D := fun ρ => (dr ρ).bind fun xs ρ1 => if xs.length ≤ sizeLine then .ok (.tup xs) ρ1 else .bot
def dLst (dr : ENV → R (List D)) : ENV → R D := fun ρ => (dr ρ).bind fun xs ρ1 => if xs.length ≤ sizeLine then .ok (.lst xs) ρ1 else .bot
theorem ite_post {α β : Type} {K : PySem.W.Frag} {Vr : Hp → β → α → Prop} {B G : Hp} {σ : St} {Q : β → Hp → Prop} {p : Prop} [Decidable p] {r : R α} (h : Post K cc Vr B G σ Q (if p then r else .bot)) : p ∧ Post K cc Vr B G σ Q r := by
  by_cases q : p
  · rw [if_pos q] at h; exact ⟨q, h⟩
  · rw [if_neg q] at h; exact h.elim
theorem de_tuple {x1 : Nat} (h : DA X cc es dr) : DE X cc (.Tuple es x1 pos) (dTup dr) := by
  refine PE.imp (pe_tup h) fun σ H Q ⟨B, ρ, G, R0, h⟩ => ⟨B, ρ, G, R0, h.bind fun ds ρ1 G1 H1 xs e1 R1 p1 h1 => ?_⟩
  obtain ⟨hz, h1⟩ := ite_post h1
  refine ⟨by rw [p1.length]; exact hz, fun p hp => ?_⟩
  have g := Grow.new (o := .tup xs) R1.gk hp
  exact Post.fin h1 R1 (Ext.refl _ _) g (.tup (.inl (.inl upd_same)) (p1.mono g.gg))
theorem de_list (h : DA X cc es dr) : DE X cc (.List es pos) (dLst dr) := by
  refine PE.imp (pe_lst h) fun σ H Q ⟨B, ρ, G, R0, h⟩ => ⟨B, ρ, G, R0, h.bind fun ds ρ1 G1 H1 xs e1 R1 p1 h1 => ?_⟩
  obtain ⟨hz, h1⟩ := ite_post h1
  refine ⟨by rw [p1.length]; exact hz, fun p hp => ?_⟩
  have g := Grow.new (o := .lst xs) R1.gk hp
  exact Post.fin h1 R1 (Ext.refl _ _) g (.lst upd_same (p1.mono g.gg))
end
end Rf
set_option Elab.async false
set_option linter.all false
set_option maxRecDepth 100000
/-! Rf: operations on values -/
namespace Rf
open PySem L2
/-! ### data of the library -/
mutual
def D.toPy : D → PyData
  | .non => .none
  | .bl b => .bool b
  | .int i => .int i
  | .str x => .str x
  | .tup ds => .tuple (toPyL ds)
  | .lst ds => .list (toPyL ds)
  | .scr ds => .list (toPyL ds)
  | .ins _ _ => .dict []
  | .dic _ => .dict []
def toPyL : List D → List PyData
  | [] => []
  | d :: ds => d.toPy :: toPyL ds
end
mutual
theorem Rp.dp {K : PySem.W.Frag} {C : Nat → Addr} {G H : Hp} (s : Same G H) {v : V} {d : D} : Rp K C G v d → d.toPy.canLay0 = true → Dp K H v d.toPy
  | .non, _ => .non
  | .bl b, _ => .bl b
  | .int i, _ => .int i
  | .str x _, _ => .str x
  | .tup h r, c => .tup (same_seqT s h) (r.dp s (by simpa [D.toPy, PyData.canLay0] using c))
  | .lst h r, c => .lst (.inl (.inl (s _ _ h))) (r.dp s (by simpa [D.toPy, PyData.canLay0] using c))
  | .scr h r, c => .lst (Same.seq s h) (r.dp s (by simpa [D.toPy, PyData.canLay0] using c))
  | .ins _ _, c => by simp [D.toPy, PyData.canLay0] at c
  | .dic _ _, c => by simp [D.toPy, PyData.canLay0] at c
theorem RpL.dp {K : PySem.W.Frag} {C : Nat → Addr} {G H : Hp} (s : Same G H) {v : List V} {d : List D} : RpL K C G v d → PyData.canLayAll0 (toPyL d) = true → DpAll K H v (toPyL d)
  | .nil, _ => .nil
  | .cons h r, c => by
    have c' := Bool.and_eq_true_iff.mp (show (PyData.canLay0 _ && PyData.canLayAll0 _) = true by simpa [toPyL, PyData.canLayAll0] using c)
    exact .cons (h.dp s c'.1) (r.dp s c'.2)
end
def vEq (neg : Bool) (x y : D) : Option D := if SeqAt.shaped x.toPy = true ∧ SeqAt.shaped y.toPy = true then some (.bl (if neg then !PyData.eqv x.toPy y.toPy else PyData.eqv x.toPy y.toPy)) else none
section
variable {K : PySem.W.Frag} {C : Nat → Addr}
theorem Grow.here {G H : Hp} {Q : VK} {d : D} {v : V} (s : Same G H) (k : ∀ v G' H', Grow G H G' H' → Rp K C G' v d → Q v H') (p : Rp K C G v d) : Q v H := k v G H (Grow.refl s) p
theorem v2_eq : V2 K C (vEq false) (rEqD K) := by
  intro G H x y dx dy d Q s px py e k
  unfold vEq at e
  split at e
  · rename_i h
    cases e
    exact ⟨_, _, px.dp s (SeqAt.canLay_of_shaped h.1), py.dp s (SeqAt.canLay_of_shaped h.2), h.1, h.2, Grow.here s k (.bl _)⟩
  · cases e
theorem v2_ne : V2 K C (vEq true) (rNeD K) := by
  intro G H x y dx dy d Q s px py e k
  unfold vEq at e
  split at e
  · rename_i h
    cases e
    exact ⟨_, _, px.dp s (SeqAt.canLay_of_shaped h.1), py.dp s (SeqAt.canLay_of_shaped h.2), h.1, h.2, Grow.here s k (.bl _)⟩
  · cases e
/-- ints -/
def vI (f : Int → Int → Int) : D → D → Option D
  | .int i, .int j => some (.int (f i j))
  | _, _ => none
def vIc (c : Int → Int → Bool) (f : Int → Int → Int) : D → D → Option D
  | .int i, .int j => if c i j = true then some (.int (f i j)) else none
  | _, _ => none
def vB (f : Int → Int → Bool) : D → D → Option D
  | .int i, .int j => some (.bl (f i j))
  | _, _ => none
theorem v2_I {f : Int → Int → Int} : V2 K C (vI f) (rI0 fun i j => .int (f i j)) := by
  intro G H x y dx dy d Q s px py e k
  cases px with
  | int i =>
    cases py with
    | int j => cases e; exact ⟨i, j, rfl, rfl, Grow.here s k (.int _)⟩
    | _ => cases e
  | _ => cases e
theorem v2_Ic {c : Int → Int → Bool} {P : Int → Int → Prop} {f : Int → Int → Int} (hc : ∀ i j, c i j = true → P i j) : V2 K C (vIc c f) (rI P fun i j => .int (f i j)) := by
  intro G H x y dx dy d Q s px py e k
  cases px with
  | int i =>
    cases py with
    | int j =>
      dsimp only [vIc] at e
      split at e
      · rename_i h; cases e; exact ⟨i, j, rfl, rfl, hc i j h, Grow.here s k (.int _)⟩
      · cases e
    | _ => cases e
  | _ => cases e
theorem v2_B {f : Int → Int → Bool} : V2 K C (vB f) (rI0 fun i j => .bl (f i j)) := by
  intro G H x y dx dy d Q s px py e k
  cases px with
  | int i =>
    cases py with
    | int j => cases e; exact ⟨i, j, rfl, rfl, Grow.here s k (.bl _)⟩
    | _ => cases e
  | _ => cases e
/-- + -/
def vAddS : D → D → Option D
  | .str a, .str b => if a.length + b.length ≤ sizeLine then some (.str (a ++ b)) else none
  | _, _ => none
def vAddT : D → D → Option D
  | .tup a, .tup b => if a.length + b.length ≤ sizeLine then some (.tup (a ++ b)) else none
  | _, _ => none
def vAddL : D → D → Option D
  | .lst a, .lst b => if a.length + b.length ≤ sizeLine then some (.lst (a ++ b)) else none
  | _, _ => none
theorem v2_addS : V2 K C vAddS (fun x y H Q => ∃ i j, x = .str i ∧ y = .str j ∧ i.length + j.length ≤ sizeLine ∧ Q (.str (i ++ j)) H) := by
  intro G H x y dx dy d Q s px py e k
  cases px with
  | str i h1 =>
    cases py with
    | str j h2 =>
      dsimp only [vAddS] at e
      split at e
      · rename_i h; cases e; exact ⟨i, j, rfl, rfl, h, Grow.here s k (.str _ (by rw [Str.length_append]; exact h))⟩
      · cases e
    | _ => cases e
  | _ => cases e
theorem v2_addT : V2 K C vAddT (rCatA K) := by
  intro G H x y dx dy d Q s px py e k
  cases px with
  | @tup a xs ds h1 r1 =>
    cases py with
    | @tup b ys es h2 r2 =>
      dsimp only [vAddT] at e
      split at e
      · rename_i h
        cases e
        refine ⟨a, b, xs, ys, rfl, rfl, same_seqT s h1, same_seqT s h2, by rw [r1.length, r2.length]; exact h, fun q => ?_, fun q1 q2 => ?_, fun q1 q2 p hp => ?_⟩
        · subst q; cases r1; exact Grow.here s k (.tup h2 r2)
        · subst q2; cases r2; rw [List.append_nil] at k; exact Grow.here s k (.tup h1 r1)
        · have g := Grow.new (o := .tup (xs ++ ys)) s hp
          exact k _ _ _ g (.tup (.inl (.inl upd_same)) ((r1.mono g.gg).append (r2.mono g.gg)))
      · cases e
    | _ => cases e
  | _ => cases e
theorem v2_addL : V2 K C vAddL rCat := by
  intro G H x y dx dy d Q s px py e k
  cases px with
  | @lst a xs ds h1 r1 =>
    cases py with
    | @lst b ys es h2 r2 =>
      dsimp only [vAddL] at e
      split at e
      · rename_i h
        cases e
        refine ⟨a, b, xs, ys, rfl, rfl, s _ _ h1, s _ _ h2, by rw [r1.length, r2.length]; exact h, fun p hp => ?_⟩
        have g := Grow.new (o := .lst (xs ++ ys)) s hp
        exact k _ _ _ g (.lst upd_same ((r1.mono g.gg).append (r2.mono g.gg)))
      · cases e
    | _ => cases e
  | _ => cases e
def vAdd (x y : D) : Option D := match x with
  | .int _ => vI (fun i j => i + j) x y
  | .str _ => vAddS x y
  | .tup _ => vAddT x y
  | .lst _ => vAddL x y
  | _ => none
def rAddA (K : PySem.W.Frag) : R2 := fun x y H Q => rI0 (fun i j => V.int (i + j)) x y H Q ∨ (∃ i j, x = .str i ∧ y = .str j ∧ i.length + j.length ≤ sizeLine ∧ Q (.str (i ++ j)) H) ∨ rCatA K x y H Q ∨ rCat x y H Q
theorem v2_add : V2 K C vAdd (rAddA K) := by
  intro G H x y dx dy d Q s px py e k
  cases dx with
  | int i => exact .inl (v2_I s px py e k)
  | str i => exact .inr (.inl (v2_addS s px py e k))
  | tup i => exact .inr (.inr (.inl (v2_addT s px py e k)))
  | lst i => exact .inr (.inr (.inr (v2_addL s px py e k)))
  | _ => cases e
/-- x * k -/
def cMul (i j : Int) : Bool := decide (i.natAbs < 2 ^ 64) || decide (j.natAbs < 2 ^ 64) || decide (i.natAbs.log2 + j.natAbs.log2 < 1000000)
def cDiv (_ j : Int) : Bool := decide (0 < j) && decide (j.natAbs.log2 < 9000)
def cMod (_ j : Int) : Bool := decide (0 < j)
def cPow (i j : Int) : Bool := decide (0 ≤ j) && decide (j ≤ 1000000) && decide (i.natAbs < 2 ^ 64)
end
section
variable {X : Cx}
theorem op_addA : OpR X (binaryOp .Add) (rAddA X.K) := op_add.or (op_add_str.or (op_catA.or op_cat))
def PMul (i j : Int) : Prop := CMul i j ∨ CMulW i j
theorem op_mulA : OpR X (binaryOp .Mult) (rI PMul fun i j => .int (i * j)) := by
  intro pins s σ H x y v u Q I rx ry ⟨i, j, e1, e2, hc, q⟩
  rcases hc with h | h
  · exact op_mul pins s σ H x y v u Q I rx ry ⟨i, j, e1, e2, h, q⟩
  · exact op_mulW pins s σ H x y v u Q I rx ry ⟨i, j, e1, e2, h, q⟩
theorem cMul_ok (i j : Int) (h : cMul i j = true) : PMul i j := by
  unfold cMul at h
  simp only [Bool.or_eq_true, decide_eq_true_eq] at h
  rcases h with (h | h) | h
  · exact .inl (.inl (by omega))
  · exact .inl (.inr (by omega))
  · exact .inr h
theorem cDiv_ok (i j : Int) (h : cDiv i j = true) : CDivW i j := by
  unfold cDiv at h
  simp only [Bool.and_eq_true, decide_eq_true_eq] at h
  exact h
theorem cMod_ok (i j : Int) (h : cMod i j = true) : 0 < j := of_decide_eq_true h
theorem cPow_ok (i j : Int) (h : cPow i j = true) : CPow i j := by
  unfold cPow at h
  simp only [Bool.and_eq_true, decide_eq_true_eq] at h
  exact ⟨h.1.1, h.1.2, h.2⟩
end
section
variable {X : Cx} {cc : Cc} {a b e : Expr} {da db : ENV → R D} {pos : Pos}
abbrev dAdd := dOp vAdd
abbrev dSub := dOp (vI fun i j => i - j)
abbrev dMul := dOp (vIc cMul fun i j => i * j)
abbrev dDiv := dOp (vIc cDiv fun i j => i / j)
abbrev dMod := dOp (vIc cMod fun i j => i % j)
abbrev dPow := dOp (vIc cPow fun i j => i ^ j.toNat)
theorem de_add (ha : DE X cc a da) (hb : DE X cc b db) : DE X cc (.BinOp a .Add b pos) (dAdd da db) := de_op op_addA v2_add ha hb
theorem de_sub (ha : DE X cc a da) (hb : DE X cc b db) : DE X cc (.BinOp a .Sub b pos) (dSub da db) := de_op op_sub v2_I ha hb
theorem de_mul (ha : DE X cc a da) (hb : DE X cc b db) : DE X cc (.BinOp a .Mult b pos) (dMul da db) := de_op op_mulA (v2_Ic cMul_ok) ha hb
theorem de_div (ha : DE X cc a da) (hb : DE X cc b db) : DE X cc (.BinOp a .FloorDiv b pos) (dDiv da db) := de_op op_fdivW (v2_Ic cDiv_ok) ha hb
theorem de_mod (ha : DE X cc a da) (hb : DE X cc b db) : DE X cc (.BinOp a .Mod b pos) (dMod da db) := de_op op_mod (v2_Ic cMod_ok) ha hb
theorem de_pow (ha : DE X cc a da) (hb : DE X cc b db) : DE X cc (.BinOp a .Pow b pos) (dPow da db) := de_op op_pow (v2_Ic cPow_ok) ha hb
def vNeg : D → Option D
  | .int i => some (.int (-i))
  | _ => none
abbrev dNeg := dUn vNeg
theorem v1_neg {K : PySem.W.Frag} {C : Nat → Addr} : V1 K C vNeg (rU fun i => .int (-i)) := by
  intro G H x dx d Q s px e k
  cases px with
  | int i => cases e; exact ⟨i, rfl, Grow.here s k (.int _)⟩
  | _ => cases e
theorem de_neg (ha : DE X cc a da) : DE X cc (.UnaryOp .USub a pos) (dNeg da) := de_un un_neg v1_neg ha

/-! ### comparisons: by a kind -/
/-- texts are compared as they are -/
def vEqS (neg : Bool) (x y : D) : Option D := match x, y with
  | .str a, .str b => some (.bl (if neg then !decide (a = b) else decide (a = b)))
  | x, y => vEq neg x y
theorem dec_strV (a b : Str) : decide (V.str a = V.str b) = decide (a = b) := by
  by_cases h : a = b
  · subst h; simp
  · simp [h]
theorem v2_eqS {K : PySem.W.Frag} {C : Nat → Addr} : V2 K C (vEqS false) (fun x y H Q => rEq x y H Q ∨ rEqD K x y H Q) := by
  intro G H x y dx dy d Q s px py e k
  cases px with
  | str a ha =>
    cases py with
    | str b hb =>
      have e : some (D.bl (decide (a = b))) = some d := e
      cases e
      exact .inl ⟨rfl, by rw [dec_strV]; exact Grow.here s k (.bl _)⟩
    | non => exact .inr (v2_eq s (.str a ha) .non e k)
    | bl b => exact .inr (v2_eq s (.str a ha) (.bl b) e k)
    | int b => exact .inr (v2_eq s (.str a ha) (.int b) e k)
    | tup h r => exact .inr (v2_eq s (.str a ha) (.tup h r) e k)
    | lst h r => exact .inr (v2_eq s (.str a ha) (.lst h r) e k)
    | scr h r => exact .inr (v2_eq s (.str a ha) (.scr h r) e k)
    | dic h r => exact .inr (v2_eq s (.str a ha) (.dic h r) e k)
    | ins h r => exact .inr (v2_eq s (.str a ha) (.ins h r) e k)
  | non => exact .inr (v2_eq s .non py e k)
  | bl b => exact .inr (v2_eq s (.bl b) py e k)
  | int b => exact .inr (v2_eq s (.int b) py e k)
  | tup h r => exact .inr (v2_eq s (.tup h r) py e k)
  | lst h r => exact .inr (v2_eq s (.lst h r) py e k)
  | scr h r => exact .inr (v2_eq s (.scr h r) py e k)
  | dic h r => exact .inr (v2_eq s (.dic h r) py e k)
  | ins h r => exact .inr (v2_eq s (.ins h r) py e k)
theorem v2_neS {K : PySem.W.Frag} {C : Nat → Addr} : V2 K C (vEqS true) (fun x y H Q => rNe x y H Q ∨ rNeD K x y H Q) := by
  intro G H x y dx dy d Q s px py e k
  cases px with
  | str a ha =>
    cases py with
    | str b hb =>
      have e : some (D.bl (!decide (a = b))) = some d := e
      cases e
      exact .inl ⟨rfl, by rw [dec_strV]; exact Grow.here s k (.bl _)⟩
    | non => exact .inr (v2_ne s (.str a ha) .non e k)
    | bl b => exact .inr (v2_ne s (.str a ha) (.bl b) e k)
    | int b => exact .inr (v2_ne s (.str a ha) (.int b) e k)
    | tup h r => exact .inr (v2_ne s (.str a ha) (.tup h r) e k)
    | lst h r => exact .inr (v2_ne s (.str a ha) (.lst h r) e k)
    | scr h r => exact .inr (v2_ne s (.str a ha) (.scr h r) e k)
    | dic h r => exact .inr (v2_ne s (.str a ha) (.dic h r) e k)
    | ins h r => exact .inr (v2_ne s (.str a ha) (.ins h r) e k)
  | non => exact .inr (v2_ne s .non py e k)
  | bl b => exact .inr (v2_ne s (.bl b) py e k)
  | int b => exact .inr (v2_ne s (.int b) py e k)
  | tup h r => exact .inr (v2_ne s (.tup h r) py e k)
  | lst h r => exact .inr (v2_ne s (.lst h r) py e k)
  | scr h r => exact .inr (v2_ne s (.scr h r) py e k)
  | dic h r => exact .inr (v2_ne s (.dic h r) py e k)
  | ins h r => exact .inr (v2_ne s (.ins h r) py e k)
inductive CK where
  | lt | le | gt | ge | eq | ne | isN | notN | in_ | notIn | isB | notB
/-- x is True, x is False, of truths -/
def vIsB (neg : Bool) (x y : D) : Option D := match x, y with
  | .bl a, .bl b => some (.bl (if neg then !decide (a = b) else decide (a = b)))
  | _, _ => none
def vIs (neg : Bool) (x y : D) : Option D := match y with
  | .non => some (.bl (match x with | .non => !neg | _ => neg))
  | _ => none
/-- in a list, in a tuple, a text in a text -/
def vIn (neg : Bool) (x y : D) : Option D :=
  let fin (ds : List D) : Option D := if SeqAt.shaped x.toPy = true ∧ PyData.canLayAll0 (toPyL ds) = true then some (.bl (if neg then !((toPyL ds).any fun z => PyData.eqv z x.toPy) else (toPyL ds).any fun z => PyData.eqv z x.toPy)) else none
  match y with
  | .lst ds => fin ds
  | .scr ds => fin ds
  | .tup ds => fin ds
  | .str z => match x with
    | .str c => some (.bl (if neg then !(!(Builtin.Str.occurrences z c 0 z.length 1).isEmpty) else !(Builtin.Str.occurrences z c 0 z.length 1).isEmpty))
    | _ => none
  | _ => none
def rInA (K : PySem.W.Frag) (neg : Bool) : R2 := fun x y H Q => (∃ d e ds, Dp K H x d ∧ Dp K H y e ∧ (e = .list ds ∨ e = .tuple ds) ∧ SeqAt.shaped d = true ∧ PyData.canLayAll0 ds = true ∧ Q (.bl (if neg then !(ds.any fun z => PyData.eqv z d) else ds.any fun z => PyData.eqv z d)) H) ∨
  ∃ i j, x = .str i ∧ y = .str j ∧ Q (.bl (if neg then !(!(Builtin.Str.occurrences j i 0 j.length 1).isEmpty) else !(Builtin.Str.occurrences j i 0 j.length 1).isEmpty)) H
theorem op_inA (hu : X.A.units + 65 < cLine) : OpR X (compareOp .In) (rInA X.K false) := by
  intro pins s σ H x y v u Q I rx ry h
  rcases h with ⟨d, e, ds, hd, he, hk, sd, se, q⟩ | ⟨i, j, e1, e2, q⟩
  · obtain ⟨as, r1⟩ := Dp.reads I d x v hd rx
    obtain ⟨bs, r2⟩ := Dp.reads I e y u he ry
    rcases hk with rfl | rfl
    · exact SeqAt.in_list_reads r2 r1 se (SeqAt.canLay_of_shaped sd) (PyProof.Rows.room_in_shaped sd hu) ⟨.bl _, H, I, rfl, q⟩
    · exact SeqAt.in_tuple_reads r2 r1 se (SeqAt.canLay_of_shaped sd) (PyProof.Rows.room_in_shaped sd hu) ⟨.bl _, H, I, rfl, q⟩
  · exact op_in_str pins s σ H x y v u Q I rx ry ⟨i, j, e1, e2, q⟩
theorem op_notInA (hu : X.A.units + 65 < cLine) : OpR X (compareOp .NotIn) (rInA X.K true) := by
  intro pins s σ H x y v u Q I rx ry h
  rcases h with ⟨d, e, ds, hd, he, hk, sd, se, q⟩ | ⟨i, j, e1, e2, q⟩
  · obtain ⟨as, r1⟩ := Dp.reads I d x v hd rx
    obtain ⟨bs, r2⟩ := Dp.reads I e y u he ry
    rcases hk with rfl | rfl
    · exact SeqAt.notIn_list_reads r2 r1 se (SeqAt.canLay_of_shaped sd) (PyProof.Rows.room_in_shaped sd hu) ⟨.bl _, H, I, rfl, q⟩
    · exact SeqAt.notIn_tuple_reads r2 r1 se (SeqAt.canLay_of_shaped sd) (PyProof.Rows.room_in_shaped sd hu) ⟨.bl _, H, I, rfl, q⟩
  · exact L2.op_notIn_str pins s σ H x y v u Q I rx ry ⟨i, j, e1, e2, q⟩
theorem v2_in {K : PySem.W.Frag} {C : Nat → Addr} {neg : Bool} : V2 K C (vIn neg) (rInA K neg) := by
  intro G H x y dx dy d Q s px py e k
  have go : ∀ (ds : List D) (w : PyData), (w = .list (toPyL ds) ∨ w = .tuple (toPyL ds)) → (PyData.canLayAll0 (toPyL ds) = true → Dp K H y w) →
      (if SeqAt.shaped dx.toPy = true ∧ PyData.canLayAll0 (toPyL ds) = true then some (D.bl (if neg then !((toPyL ds).any fun z => PyData.eqv z dx.toPy) else (toPyL ds).any fun z => PyData.eqv z dx.toPy)) else none) = some d → rInA K neg x y H Q := by
    intro ds w hw hd e
    split at e
    · rename_i h
      cases e
      exact .inl ⟨_, w, _, px.dp s (SeqAt.canLay_of_shaped h.1), hd h.2, hw, h.1, h.2, Grow.here s k (.bl _)⟩
    · cases e
  cases py with
  | @lst a xs ds h r => exact go ds _ (.inl rfl) (fun c => .lst (.inl (.inl (s _ _ h))) (r.dp s c)) e
  | @scr a xs ds h r => exact go ds _ (.inl rfl) (fun c => .lst (Same.seq s h) (r.dp s c)) e
  | @tup a xs ds h r => exact go ds _ (.inr rfl) (fun c => .tup (same_seqT s h) (r.dp s c)) e
  | str z hz =>
    cases px with
    | str c hc => cases e; exact .inr ⟨c, z, rfl, rfl, Grow.here s k (.bl _)⟩
    | _ => cases e
  | _ => cases e
theorem v2_is {K : PySem.W.Frag} {C : Nat → Addr} : V2 K C (vIs false) (fun x y H Q => y = .non ∧ Q (.bl (decide (x = .non))) H) := by
  intro G H x y dx dy d Q s px py e k
  cases py with
  | non =>
    cases e
    refine ⟨rfl, ?_⟩
    cases px with
    | non => exact Grow.here s k (.bl _)
    | _ => exact Grow.here s k (.bl _)
  | _ => cases e
theorem v2_isNot {K : PySem.W.Frag} {C : Nat → Addr} : V2 K C (vIs true) (fun x y H Q => y = .non ∧ Q (.bl (!decide (x = .non))) H) := by
  intro G H x y dx dy d Q s px py e k
  cases py with
  | non =>
    cases e
    refine ⟨rfl, ?_⟩
    cases px with
    | non => exact Grow.here s k (.bl _)
    | _ => exact Grow.here s k (.bl _)
  | _ => cases e
theorem v2_isB {K : PySem.W.Frag} {C : Nat → Addr} : V2 K C (vIsB false) (fun x y H Q => ∃ a b, x = .bl a ∧ y = .bl b ∧ Q (.bl (decide (a = b))) H) := by
  intro G H x y dx dy d Q s px py e k
  cases px with
  | bl a =>
    cases py with
    | bl b => cases e; exact ⟨a, b, rfl, rfl, Grow.here s k (.bl _)⟩
    | _ => cases e
  | _ => cases e
theorem v2_notB {K : PySem.W.Frag} {C : Nat → Addr} : V2 K C (vIsB true) (fun x y H Q => ∃ a b, x = .bl a ∧ y = .bl b ∧ Q (.bl (!decide (a = b))) H) := by
  intro G H x y dx dy d Q s px py e k
  cases px with
  | bl a =>
    cases py with
    | bl b => cases e; exact ⟨a, b, rfl, rfl, Grow.here s k (.bl _)⟩
    | _ => cases e
  | _ => cases e
def CK.op : CK → CmpOp
  | .lt => .Lt | .le => .LtE | .gt => .Gt | .ge => .GtE | .eq => .Eq | .ne => .NotEq | .isN => .Is | .notN => .IsNot | .in_ => .In | .notIn => .NotIn | .isB => .Is | .notB => .IsNot
def CK.f : CK → D → D → Option D
  | .lt => vB fun i j => decide (i < j)
  | .le => vB fun i j => decide (i ≤ j)
  | .gt => vB fun i j => decide (j < i)
  | .ge => vB fun i j => decide (j ≤ i)
  | .eq => vEqS false | .ne => vEqS true | .isN => vIs false | .notN => vIs true | .in_ => vIn false | .notIn => vIn true | .isB => vIsB false | .notB => vIsB true
def CK.r (K : PySem.W.Frag) : CK → R2
  | .lt => rI0 fun i j => .bl (decide (i < j))
  | .le => rI0 fun i j => .bl (decide (i ≤ j))
  | .gt => rI0 fun i j => .bl (decide (j < i))
  | .ge => rI0 fun i j => .bl (decide (j ≤ i))
  | .eq => fun x y H Q => rEq x y H Q ∨ rEqD K x y H Q
  | .ne => fun x y H Q => rNe x y H Q ∨ rNeD K x y H Q
  | .isN => fun x y H Q => y = .non ∧ Q (.bl (decide (x = .non))) H
  | .notN => fun x y H Q => y = .non ∧ Q (.bl (!decide (x = .non))) H
  | .in_ => rInA K false | .notIn => rInA K true
  | .isB => fun x y H Q => ∃ a b, x = .bl a ∧ y = .bl b ∧ Q (.bl (decide (a = b))) H
  | .notB => fun x y H Q => ∃ a b, x = .bl a ∧ y = .bl b ∧ Q (.bl (!decide (a = b))) H
theorem CK.ok (k : CK) (hu : X.A.units + 65 < cLine) : OpR X (compareOp k.op) (k.r X.K) := by
  cases k with
  | lt => exact op_lt
  | le => exact op_le
  | gt => exact op_gt
  | ge => exact op_ge
  | eq => exact op_eq.or (op_eqD (by omega))
  | ne => exact op_ne.or (op_neD (by omega))
  | isN => exact op_isN
  | notN => exact op_notN
  | in_ => exact op_inA hu
  | notIn => exact op_notInA hu
  | isB => exact op_is_bl
  | notB => exact op_isnot_bl
theorem CK.v (k : CK) {K : PySem.W.Frag} {C : Nat → Addr} : V2 K C k.f (k.r K) := by
  cases k with
  | lt => exact v2_B
  | le => exact v2_B
  | gt => exact v2_B
  | ge => exact v2_B
  | eq => exact v2_eqS
  | ne => exact v2_neS
  | isN => exact v2_is
  | notN => exact v2_isNot
  | in_ => exact v2_in
  | notIn => exact v2_in
  | isB => exact v2_isB
  | notB => exact v2_notB
abbrev dCmp (k : CK) := dOp k.f
theorem de_c (k : CK) (hu : X.A.units + 65 < cLine) (ha : DE X cc a da) (hb : DE X cc b db) (hm : behindInMarks k.op b = false := by rfl) : DE X cc (.Compare a [k.op] [b] pos) (dCmp k da db) := de_cmp (k.ok hu) k.v hm ha hb
theorem dt_c (k : CK) (hu : X.A.units + 65 < cLine) (ha : DE X cc a da) (hb : DE X cc b db) (hm : behindInMarks k.op b = false := by rfl) : DT X cc (.Compare a [k.op] [b] pos) (dT (dCmp k da db)) := dt_cmp (k.ok hu) k.v hm ha hb
/-- a k1 b k2 c -/
def dChain (f g : D → D → Option D) (da db dc : ENV → R D) : ENV → R D := fun ρ => (da ρ).bind fun x ρ1 => (db ρ1).bind fun y ρ2 => match f x y with
  | some (.bl true) => (dc ρ2).bind fun z ρ3 => R.of (g y z) ρ3
  | some (.bl false) => .ok (.bl false) ρ2
  | _ => .bot
variable {c : Expr} {dc : ENV → R D}
theorem chain_core {f g : D → D → Option D} {r r' : R2} (h1 : V2 X.K cc.C f r) (h2 : V2 X.K cc.C g r') : ∀ σ H Q, rE X.K cc (dChain f g da db dc) σ H Q → tChain r r' (rE X.K cc da) (rE X.K cc db) (rE X.K cc dc) σ H Q := by
  intro σ H Q ⟨B, ρ, G, R0, h⟩
  refine ⟨B, ρ, G, R0, h.bind fun d1 ρ1 G1 H1 x e1 R1 p1 q1 => ⟨B, ρ1, G1, R1, q1.bind fun d2 ρ2 G2 H2 y e2 R2 p2 q2 => ?_⟩⟩
  cases hf : f d1 d2 with
  | none => simp only [hf] at q2; exact q2.elim
  | some d =>
    cases d with
    | bl k =>
      refine h1 R2.gk (p1.mono e2.gg) p2 hf fun v G' H' gr p => ?_
      cases p
      refine ⟨k, rfl, ?_⟩
      have R3 := R2.grow gr
      cases k with
      | false =>
        simp only [hf] at q2
        exact iteF (Post.fin q2 R2 (Ext.refl _ _) gr (.bl false))
      | true =>
        simp only [hf] at q2
        refine iteT ⟨B, ρ2, G', R3, ?_⟩
        have q3 : Post X.K cc (Rp X.K cc.C) B G' σ Q ((dc ρ2).bind fun z ρ3 => R.of (g d2 z) ρ3) := by
          revert q2
          cases ((dc ρ2).bind fun z ρ3 => R.of (g d2 z) ρ3) with
          | ok a ρ => exact fun q v G' H' e R p => q v G' H' ((gr.ext R2.bk).trans e) R p
          | exc a ρ => exact fun q cl dd G' H' e R p => q cl dd G' H' ((gr.ext R2.bk).trans e) R p
          | bot => exact id
        refine q3.bind fun d3 ρ3 G3 H3 z e3 R3' p3 q3 => ?_
        cases hg : g d2 d3 with
        | none => rw [hg] at q3; exact q3.elim
        | some d =>
          rw [hg] at q3
          exact h2 R3'.gk (p2.mono (gr.gg.trans e3.gg)) p3 hg fun v G' H' g p => Post.fin q3 R3' (Ext.refl _ _) g p
    | _ => simp only [hf] at q2; exact q2.elim
theorem de_chain (k k' : CK) (hu : X.A.units + 65 < cLine) (ha : DE X cc a da) (hb : DE X cc b db) (hc : DE X cc c dc) (hm : lastMarks [k.op, k'.op] [b, c] = false := by with_unfolding_all rfl) : DE X cc (.Compare a [k.op, k'.op] [b, c] pos) (dChain k.f k'.f da db dc) :=
  PE.imp (pe_chain (k.ok hu) (k'.ok hu) ha hb hc hm) (chain_core k.v k'.v)
theorem dt_chain (k k' : CK) (hu : X.A.units + 65 < cLine) (ha : DE X cc a da) (hb : DE X cc b db) (hc : DE X cc c dc) (hm : lastMarks [k.op, k'.op] [b, c] = false := by with_unfolding_all rfl) : DT X cc (.Compare a [k.op, k'.op] [b, c] pos) (dT (dChain k.f k'.f da db dc)) :=
  PT.imp (pt_chain (k.ok hu) (k'.ok hu) ha hb hc hm) (test_core (chain_core k.v k'.v))

/-! ### items, slices -/
def vIx : D → D → Option D
  | .tup ds, .int i => atI ds i
  | .tup ds, .bl b => atI ds (if b then 1 else 0)
  | .lst ds, .int i => atI ds i
  | .scr ds, .int i => atI ds i
  | .str z, .int i => (atI z.cps.toList i).map fun c => .str ⟨#[c]⟩
  | _, _ => none
theorem RpL.atI {K : PySem.W.Frag} {C : Nat → Addr} {G : Hp} {v : List V} {d : List D} {i : Int} {x : D} (r : RpL K C G v d) (e : L2.atI d i = some x) : ∃ y, L2.atI v i = some y ∧ Rp K C G y x := by
  unfold L2.atI at e ⊢
  rw [r.length]
  cases h : ixN d.length i with
  | none => rw [h] at e; cases e
  | some j => rw [h] at e; exact r.get e
theorem sign_len (c : Nat) : (⟨#[c]⟩ : Str).length ≤ sizeLine := by rw [sizeLine_eq]; show 1 ≤ _; decide
def vIxI : D → D → Option D
  | .tup ds, .int i => atI ds i
  | .lst ds, .int i => atI ds i
  | .scr ds, .int i => atI ds i
  | .str z, .int i => (atI z.cps.toList i).map fun c => .str ⟨#[c]⟩
  | _, _ => none
theorem v2_ix {K : PySem.W.Frag} {C : Nat → Addr} : V2 K C vIxI (rIx K) := by
  intro G H x y dx dy d Q s px py e k
  cases py with
  | int i =>
    cases px with
    | tup h r =>
      obtain ⟨z, h1, h2⟩ := r.atI (show L2.atI _ i = some d from e)
      exact .inr (.inl ⟨_, _, i, z, rfl, rfl, same_seqT s h, h1, Grow.here s k h2⟩)
    | lst h r =>
      obtain ⟨z, h1, h2⟩ := r.atI (show L2.atI _ i = some d from e)
      exact .inl ⟨_, _, i, z, rfl, rfl, .inl (.inl (s _ _ h)), h1, Grow.here s k h2⟩
    | scr h r =>
      obtain ⟨z, h1, h2⟩ := r.atI (show L2.atI _ i = some d from e)
      exact .inl ⟨_, _, i, z, rfl, rfl, Same.seq s h, h1, Grow.here s k h2⟩
    | str z hz =>
      have e : (L2.atI z.cps.toList i).map (fun c => D.str ⟨#[c]⟩) = some d := e
      cases hc : L2.atI z.cps.toList i with
      | none => rw [hc] at e; cases e
      | some c =>
        rw [hc] at e; cases e
        exact .inr (.inr ⟨z, i, c, rfl, rfl, hz, hc, Grow.here s k (.str _ (sign_len c))⟩)
    | _ => cases e
  | _ => cases px <;> cases e
abbrev dIx := dOp vIxI
theorem de_ix (ha : DE X cc a da) (hb : DE X cc b db) (hs : PlainIx b := by intro _ _; rfl) : DE X cc (.Subscript a b pos) (dIx da db) := PE.imp (pe_ix ix_seq ha hb hs) (op_core v2_ix)
end
end Rf
set_option Elab.async false
set_option linter.all false
set_option maxRecDepth 100000
/-! Rf: slices, built-ins, walks, comprehensions, fresh objects -/
namespace Rf
open PySem L2
section
variable {X : Cx} {cc : Cc} {a b c e : Expr} {da db dc : ENV → R D} {pos : Pos} {es : List Expr} {dr : ENV → R (List D)}
/-! ### slices -/
def dNoPart : ENV → R (Option Int) := fun ρ => .ok none ρ
def dPart (da : ENV → R D) : ENV → R (Option Int) := fun ρ => (da ρ).bind fun x ρ1 => match x with
  | .int i => .ok (some i) ρ1
  | _ => .bot
def rO (K : PySem.W.Frag) (cc : Cc) (den : ENV → R (Option Int)) : TO := fun σ H Q => ∃ B ρ G, Rl K cc B ρ σ G H ∧ Post K cc (fun _ b c => b = c) B G σ Q (den ρ)
def DO (X : Cx) (cc : Cc) (e : Option Expr) (den : ENV → R (Option Int)) : Prop := PO X e (rO X.K cc den)
theorem PO.imp {e : Option Expr} {t t' : TO} (h : PO X e t) (k : ∀ σ H Q, t' σ H Q → t σ H Q) : PO X e t' := ⟨fun pins s σ H Q I q => h.run pins s σ H Q I (k _ _ _ q)⟩
theorem do_none : DO X cc none dNoPart := PO.imp po_none fun σ H Q ⟨B, ρ, G, R0, h⟩ => h none G H (Ext.refl _ _) R0 rfl
theorem do_some (ha : DE X cc a da) : DO X cc (some a) (dPart da) := by
  refine PO.imp (po_some ha) fun σ H Q ⟨B, ρ, G, R0, h⟩ => ⟨B, ρ, G, R0, Post.bind (V2 := fun _ b c => b = c) h fun d1 ρ1 G1 H1 x e1 R1 p1 h1 => ?_⟩
  cases p1 with
  | int i => exact ⟨i, rfl, h1 (some i) G1 H1 (Ext.refl _ _) R1 rfl⟩
  | _ => exact h1.elim
def cutD (xs : List D) (lo hi : Option Int) : List D := (xs.drop (HT.sIx xs.length 0 lo)).take (HT.sIx xs.length xs.length hi - HT.sIx xs.length 0 lo)
def vSl (x : D) (lo hi : Option Int) : Option D := match x with
  | .tup ds => some (.tup (cutD ds lo hi))
  | .lst ds => some (.lst (cutD ds lo hi))
  | .str z => some (.str (cutS z lo hi))
  | _ => none
def rSlA2 (K : PySem.W.Frag) : V → Option Int → Option Int → Hp → VK → Prop := fun x lo hi H Q => rSlA K x lo hi H Q ∨ rSlL K x lo hi H Q ∨ rSlS x lo hi H Q
theorem RpL.cut {K : PySem.W.Frag} {C : Nat → Addr} {G : Hp} {v : List V} {d : List D} (r : RpL K C G v d) (lo hi : Option Int) : RpL K C G (cutV v lo hi) (cutD d lo hi) := by
  unfold cutV cutD
  rw [r.length]
  exact (r.drop _).take _
theorem cutD_whole (ds : List D) (lo hi : Option Int) (h : HT.sIx ds.length 0 lo = 0 ∧ HT.sIx ds.length ds.length hi = ds.length) : cutD ds lo hi = ds := by
  unfold cutD
  rw [h.1, h.2]
  simp
def dSl (da : ENV → R D) (dl dh : ENV → R (Option Int)) : ENV → R D := fun ρ => (da ρ).bind fun x ρ1 => (dl ρ1).bind fun l ρ2 => (dh ρ2).bind fun h ρ3 => R.of (vSl x l h) ρ3
theorem de_sl {lo hi : Option Expr} {dl dh : ENV → R (Option Int)} {p2 : Pos} (ha : DE X cc a da) (hl : DO X cc lo dl) (hh : DO X cc hi dh) : DE X cc (.Subscript a (.Slice lo hi none p2) pos) (dSl da dl dh) := by
  refine PE.imp (pe_slice (sl_tupA.or (sl_list.or sl_str)) ha hl hh) fun σ H Q ⟨B, ρ, G, R0, h⟩ => ⟨B, ρ, G, R0, h.bind fun d1 ρ1 G1 H1 x e1 R1 p1 h1 => ⟨B, ρ1, G1, R1, Post.bind (V1 := fun _ b c => b = c) h1 fun l ρ2 G2 H2 l' e2 R2 p2 h2 =>
    ⟨B, ρ2, G2, R2, Post.bind (V1 := fun _ b c => b = c) h2 fun u ρ3 G3 H3 u' e3 R3 p3 h3 => ?_⟩⟩⟩
  subst p2 p3
  have p1 := p1.mono (e2.gg.trans e3.gg)
  cases p1 with
  | @tup a xs ds h r =>
    refine .inl ⟨a, xs, rfl, same_seqT R3.gk h, fun q => ?_, fun q p hp => ?_⟩
    · refine Post.fin h3 R3 (Ext.refl _ _) (Grow.refl R3.gk) ?_
      rw [cutD_whole ds _ _ (by rw [← r.length]; exact q)]
      exact .tup h r
    · have g := Grow.new (o := .tup (cutV xs l' u')) R3.gk hp
      exact Post.fin h3 R3 (Ext.refl _ _) g (.tup (.inl (.inl upd_same)) ((r.cut _ _).mono g.gg))
  | @lst a xs ds h r =>
    refine .inr (.inl ⟨a, xs, rfl, .inl (.inl (R3.gk _ _ h)), fun p hp => ?_⟩)
    have g := Grow.new (o := .lst (cutV xs l' u')) R3.gk hp
    exact Post.fin h3 R3 (Ext.refl _ _) g (.lst upd_same ((r.cut _ _).mono g.gg))
  | str z hz => exact .inr (.inr ⟨z, rfl, hz, Post.fin h3 R3 (Ext.refl _ _) (Grow.refl R3.gk) (.str _ (Nat.le_trans (cutS_length z _ _) hz))⟩)
  | _ => exact h3.elim

/-! ### built-ins by values -/
def dB (f : List D → Option D) (dr : ENV → R (List D)) : ENV → R D := fun ρ => (dr ρ).bind fun xs ρ1 => R.of (f xs) ρ1
def VB (K : PySem.W.Frag) (C : Nat → Addr) (f : List D → Option D) (r : List V → Hp → VK → Prop) : Prop :=
  ∀ {G H : Hp} {xs : List V} {ds : List D} {d : D} {Q : VK}, Same G H → RpL K C G xs ds → f ds = some d → (∀ v G' H', Grow G H G' H' → Rp K C G' v d → Q v H') → r xs H Q
theorem cb_core {r : List V → Hp → VK → Prop} {f : List D → Option D} (hv : VB X.K cc.C f r) : ∀ σ H Q, rE X.K cc (dB f dr) σ H Q → tCB r (rA X.K cc dr) σ H Q := by
  intro σ H Q ⟨B, ρ, G, R0, h⟩
  refine ⟨B, ρ, G, R0, h.bind fun d1 ρ1 G1 H1 x e1 R1 p1 h1 => ?_⟩
  cases hf : f d1 with
  | none => rw [hf] at h1; exact h1.elim
  | some d =>
    rw [hf] at h1
    exact hv R1.gk p1 hf fun v G' H' g p => Post.fin h1 R1 (Ext.refl _ _) g p
theorem de_B {id : String} {x : Str} {p : Pos} {r : List V → Hp → VK → Prop} {f : List D → Option D} (hc : CallR X (.builtin id) r) (hf : VB X.K cc.C f r) (hg : Gl X x) (hm : X.mg x = none) (hv : bootBuiltins x = some (.builtin id)) (ha : DA X cc (e :: es) dr)
    (hn : x ≠ "__name__" := by decide) (hdb : (x == ("__debug__" : Str)) = false := by decide) (he : starEach (e :: es) X.env = (false, eval e X.env) :: starEach es X.env := by rfl) (hpl : (backTo pos (starEach es X.env)).any (·.1) = false := by rfl) :
    DE X cc (.Call (.Name x p) (e :: es) [] pos) (dB f dr) := PE.imp (pe_callB hc hg hm hv ha hn hdb he hpl) (cb_core hf)
theorem de_T {T : String} {x : Str} {p : Pos} {r : List V → Hp → VK → Prop} {f : List D → Option D} (hc : CallR X (.type T) r) (hf : VB X.K cc.C f r) (hg : Gl X x) (hm : X.mg x = none) (hv : bootBuiltins x = some (.type T)) (ha : DA X cc (e :: es) dr)
    (hn : x ≠ "__name__" := by decide) (hdb : (x == ("__debug__" : Str)) = false := by decide) (he : starEach (e :: es) X.env = (false, eval e X.env) :: starEach es X.env := by rfl) (hpl : (backTo pos (starEach es X.env)).any (·.1) = false := by rfl) :
    DE X cc (.Call (.Name x p) (e :: es) [] pos) (dB f dr) := PE.imp (pe_callTy hc hg hm hv ha hn hdb he hpl) (cb_core hf)
variable {K : PySem.W.Frag} {C : Nat → Addr}
def fLen : List D → Option D
  | [.str z] => some (.int z.length)
  | [.tup ds] => some (.int ds.length)
  | [.lst ds] => some (.int ds.length)
  | [.scr ds] => some (.int ds.length)
  | _ => none
def rLen (K : PySem.W.Frag) : List V → Hp → VK → Prop := fun xs H Q => (∃ p ys, xs = [.ref p] ∧ (SqL K H p ys ∨ SqT K H p ys) ∧ Q (.int ys.length) H) ∨ ∃ z, xs = [.str z] ∧ z.length ≤ sizeLine ∧ Q (.int z.length) H
theorem vb_len : VB K C fLen (rLen K) := by
  intro G H xs ds d Q s r e k
  cases r with
  | nil => cases e
  | cons h t =>
    cases t with
    | cons _ _ => cases h <;> cases e
    | nil =>
      cases h with
      | str z hz => cases e; exact .inr ⟨z, rfl, hz, Grow.here s k (.int _)⟩
      | tup h r => cases e; exact .inl ⟨_, _, rfl, .inr (same_seqT s h), by rw [r.length]; exact Grow.here s k (.int _)⟩
      | lst h r => cases e; exact .inl ⟨_, _, rfl, .inl (.inl (.inl (s _ _ h))), by rw [r.length]; exact Grow.here s k (.int _)⟩
      | scr h r => cases e; exact .inl ⟨_, _, rfl, .inl (Same.seq s h), by rw [r.length]; exact Grow.here s k (.int _)⟩
      | _ => cases e
def fInt : List D → Option D
  | [.int i] => some (.int i)
  | [.bl b] => some (.int (if b then 1 else 0))
  | _ => none
theorem vb_int : VB K C fInt (fun xs H Q => (∃ i, xs = [.int i] ∧ Q (.int i) H) ∨ ∃ k, xs = [.bl k] ∧ Q (.int (if k then 1 else 0)) H) := by
  intro G H xs ds d Q s r e k
  cases r with
  | nil => cases e
  | cons h t =>
    cases t with
    | cons _ _ => cases h <;> cases e
    | nil =>
      cases h with
      | int i => cases e; exact .inl ⟨i, rfl, Grow.here s k (.int _)⟩
      | bl i => cases e; exact .inr ⟨i, rfl, Grow.here s k (.int _)⟩
      | _ => cases e
def fAbs : List D → Option D
  | [.int i] => some (.int (if i < 0 then -i else i))
  | _ => none
theorem vb_abs : VB K C fAbs (fun xs H Q => ∃ i, xs = [.int i] ∧ Q (.int (if i < 0 then -i else i)) H) := by
  intro G H xs ds d Q s r e k
  cases r with
  | nil => cases e
  | cons h t =>
    cases t with
    | cons _ _ => cases h <;> cases e
    | nil =>
      cases h with
      | int i => cases e; exact ⟨i, rfl, Grow.here s k (.int _)⟩
      | _ => cases e
def fTuple : List D → Option D
  | [.lst ds] => some (.tup ds)
  | [.scr ds] => some (.tup ds)
  | [.tup ds] => some (.tup ds)
  | _ => none
theorem vb_tuple : VB K C fTuple (fun xs H Q => ∃ p ys, xs = [.ref p] ∧ ((SqL K H p ys ∧ ∀ l, H l = none → Q (.ref l) (upd H l (.tup ys))) ∨ (SqT K H p ys ∧ Q (.ref p) H))) := by
  intro G H xs ds d Q s r e k
  have go : ∀ {p : Addr} {ys : List V} {es : List D}, SqL K H p ys → RpL K C G ys es → d = .tup es → ∃ q zs, [V.ref p] = [V.ref q] ∧ ((SqL K H q zs ∧ ∀ l, H l = none → Q (.ref l) (upd H l (.tup zs))) ∨ (SqT K H q zs ∧ Q (.ref q) H)) := by
    intro p ys es h r e
    subst e
    refine ⟨p, ys, rfl, .inl ⟨h, fun l hl => ?_⟩⟩
    have g := Grow.new (o := .tup ys) s hl
    exact k _ _ _ g (.tup (.inl (.inl upd_same)) (r.mono g.gg))
  cases r with
  | nil => cases e
  | cons h t =>
    cases t with
    | cons _ _ => cases h <;> cases e
    | nil =>
      cases h with
      | lst h r => cases e; exact go (.inl (.inl (s _ _ h))) r rfl
      | scr h r => cases e; exact go (Same.seq s h) r rfl
      | tup h r => cases e; exact ⟨_, _, rfl, .inr ⟨same_seqT s h, Grow.here s k (.tup h r)⟩⟩
      | _ => cases e
def fList : List D → Option D
  | [.lst ds] => some (.lst ds)
  | [.scr ds] => some (.lst ds)
  | [.tup ds] => some (.lst ds)
  | _ => none
theorem vb_list : VB K C fList (fun xs H Q => ∃ p ys, xs = [.ref p] ∧ (SqL K H p ys ∨ SqT K H p ys) ∧ ∀ l, H l = none → Q (.ref l) (upd H l (.lst ys))) := by
  intro G H xs ds d Q s r e k
  have go : ∀ {p : Addr} {ys : List V} {es : List D}, (SqL K H p ys ∨ SqT K H p ys) → RpL K C G ys es → d = .lst es → ∃ q zs, [V.ref p] = [V.ref q] ∧ (SqL K H q zs ∨ SqT K H q zs) ∧ ∀ l, H l = none → Q (.ref l) (upd H l (.lst zs)) := by
    intro p ys es h r e
    subst e
    refine ⟨p, ys, rfl, h, fun l hl => ?_⟩
    have g := Grow.new (o := .lst ys) s hl
    exact k _ _ _ g (.lst upd_same (r.mono g.gg))
  cases r with
  | nil => cases e
  | cons h t =>
    cases t with
    | cons _ _ => cases h <;> cases e
    | nil =>
      cases h with
      | lst h r => cases e; exact go (.inl (.inl (.inl (s _ _ h)))) r rfl
      | scr h r => cases e; exact go (.inl (Same.seq s h)) r rfl
      | tup h r => cases e; exact go (.inr (same_seqT s h)) r rfl
      | _ => cases e
/-- the truths of a list -/
def bools : List D → Option (List Bool)
  | [] => some []
  | .bl b :: r => (bools r).map (b :: ·)
  | _ => none
theorem RpL.bools {G : Hp} : ∀ {vs : List V} {ds : List D} {bs : List Bool}, RpL K C G vs ds → Rf.bools ds = some bs → vs = bs.map V.bl
  | _, _, bs, .nil, e => by cases e; rfl
  | _, _, bs, .cons (d := d) h r, e => by
    cases h with
    | bl b =>
      unfold Rf.bools at e
      rename_i ds
      cases h2 : Rf.bools ds with
      | none => rw [h2] at e; cases e
      | some cs => rw [h2] at e; cases e; rw [r.bools h2]; rfl
    | _ => cases e
def fAll : List D → Option D
  | [.lst ds] => (bools ds).map fun bs => .bl (bs.all id)
  | _ => none
def fAny : List D → Option D
  | [.lst ds] => (bools ds).map fun bs => .bl (bs.any id)
  | _ => none
theorem vb_all : VB K C fAll (rAll K) := by
  intro G H xs ds d Q s r e k
  cases r with
  | nil => cases e
  | cons h t =>
    cases t with
    | cons _ _ => cases h <;> cases e
    | nil =>
      cases h with
      | @lst a xs ds h r =>
        have e : (bools ds).map (fun bs => D.bl (bs.all id)) = some d := e
        cases hb : bools ds with
        | none => rw [hb] at e; cases e
        | some bs => rw [hb] at e; cases e; exact ⟨a, bs, rfl, by rw [← r.bools hb]; exact .inl (.inl (s _ _ h)), Grow.here s k (.bl _)⟩
      | _ => cases e
theorem vb_any : VB K C fAny (rAny K) := by
  intro G H xs ds d Q s r e k
  cases r with
  | nil => cases e
  | cons h t =>
    cases t with
    | cons _ _ => cases h <;> cases e
    | nil =>
      cases h with
      | @lst a xs ds h r =>
        have e : (bools ds).map (fun bs => D.bl (bs.any id)) = some d := e
        cases hb : bools ds with
        | none => rw [hb] at e; cases e
        | some bs => rw [hb] at e; cases e; exact ⟨a, bs, rfl, by rw [← r.bools hb]; exact .inl (.inl (s _ _ h)), Grow.here s k (.bl _)⟩
      | _ => cases e
/-- the ints of a list -/
def intsOf : List D → Option (List Int)
  | [] => some []
  | .int b :: r => (intsOf r).map (b :: ·)
  | _ => none
theorem RpL.intsV {G : Hp} : ∀ {vs : List V} {ds : List D} {bs : List Int}, RpL K C G vs ds → Rf.intsOf ds = some bs → vs = bs.map V.int
  | _, _, bs, .nil, e => by cases e; rfl
  | _, _, bs, .cons (d := d) h r, e => by
    cases h with
    | int b =>
      unfold Rf.intsOf at e
      rename_i ds
      cases h2 : Rf.intsOf ds with
      | none => rw [h2] at e; cases e
      | some cs => rw [h2] at e; cases e; rw [r.intsV h2]; rfl
    | _ => cases e
def fSum : List D → Option D
  | [.lst ds] => (intsOf ds).map fun bs => .int bs.sum
  | [.scr ds] => (intsOf ds).map fun bs => .int bs.sum
  | _ => none
theorem vb_sum : VB K C fSum (rSum K) := by
  intro G H xs ds d Q s r e k
  have go : ∀ {a : Addr} {ys : List V} {es : List D}, SqL K H a ys → RpL K C G ys es → (intsOf es).map (fun bs => D.int bs.sum) = some d → rSum K [.ref a] H Q := by
    intro a ys es h r e
    cases hb : intsOf es with
    | none => rw [hb] at e; cases e
    | some bs => rw [hb] at e; cases e; exact ⟨a, bs, rfl, by rw [← r.intsV hb]; exact h, Grow.here s k (.int _)⟩
  cases r with
  | nil => cases e
  | cons h t =>
    cases t with
    | cons _ _ => cases h <;> cases e
    | nil =>
      cases h with
      | lst h r => exact go (.inl (.inl (s _ _ h))) r e
      | scr h r => exact go (Same.seq s h) r e
      | _ => cases e
def maxI : Int → List Int → Int
  | m, [] => m
  | m, x :: r => maxI (if x > m then x else m) r
def minI : Int → List Int → Int
  | m, [] => m
  | m, x :: r => minI (if x < m then x else m) r
theorem maxI_mem : ∀ (r : List Int) (m : Int), maxI m r ∈ m :: r ∧ ∀ y ∈ m :: r, y ≤ maxI m r
  | [], m => ⟨List.mem_cons_self, fun y h => by simp at h; subst h; exact Int.le_refl _⟩
  | x :: r, m => by
    obtain ⟨h1, h2⟩ := maxI_mem r (if x > m then x else m)
    refine ⟨?_, fun y hy => ?_⟩
    · show maxI (if x > m then x else m) r ∈ _
      rcases List.mem_cons.mp h1 with h | h
      · rw [h]; split <;> simp
      · exact List.mem_cons_of_mem _ (List.mem_cons_of_mem _ h)
    · have h3 := h2 (if x > m then x else m) List.mem_cons_self
      show y ≤ maxI (if x > m then x else m) r
      rcases List.mem_cons.mp hy with h | h
      · subst h; refine Int.le_trans ?_ h3; split <;> omega
      · rcases List.mem_cons.mp h with h | h
        · subst h; refine Int.le_trans ?_ h3; split <;> omega
        · exact h2 y (List.mem_cons_of_mem _ h)
theorem minI_mem : ∀ (r : List Int) (m : Int), minI m r ∈ m :: r ∧ ∀ y ∈ m :: r, minI m r ≤ y
  | [], m => ⟨List.mem_cons_self, fun y h => by simp at h; subst h; exact Int.le_refl _⟩
  | x :: r, m => by
    obtain ⟨h1, h2⟩ := minI_mem r (if x < m then x else m)
    refine ⟨?_, fun y hy => ?_⟩
    · show minI (if x < m then x else m) r ∈ _
      rcases List.mem_cons.mp h1 with h | h
      · rw [h]; split <;> simp
      · exact List.mem_cons_of_mem _ (List.mem_cons_of_mem _ h)
    · have h3 := h2 (if x < m then x else m) List.mem_cons_self
      show minI (if x < m then x else m) r ≤ y
      rcases List.mem_cons.mp hy with h | h
      · subst h; refine Int.le_trans h3 ?_; split <;> omega
      · rcases List.mem_cons.mp h with h | h
        · subst h; refine Int.le_trans h3 ?_; split <;> omega
        · exact h2 y (List.mem_cons_of_mem _ h)
def maxOf : List Int → Option D
  | [] => none
  | m :: r => some (.int (maxI m r))
def minOf : List Int → Option D
  | [] => none
  | m :: r => some (.int (minI m r))
def fMax : List D → Option D
  | [.int i, .int j] => some (.int (if j > i then j else i))
  | [.lst ds] => (intsOf ds).bind maxOf
  | [.tup ds] => (intsOf ds).bind maxOf
  | _ => none
def fMin : List D → Option D
  | [.int i, .int j] => some (.int (if j < i then j else i))
  | [.lst ds] => (intsOf ds).bind minOf
  | [.tup ds] => (intsOf ds).bind minOf
  | _ => none
def rMinS (K : PySem.W.Frag) : List V → Hp → VK → Prop := fun vs H Q => (∃ i j, vs = [.int i, .int j] ∧ Q (.int (if j < i then j else i)) H) ∨ ∃ (a : Addr) (n : Int) (ns : List Int), vs = [V.ref a] ∧ (SqL K H a ((n :: ns).map V.int) ∨ SqT K H a ((n :: ns).map V.int)) ∧ Q (.int (minI n ns)) H
def rMaxS (K : PySem.W.Frag) : List V → Hp → VK → Prop := fun vs H Q => (∃ i j, vs = [.int i, .int j] ∧ Q (.int (if j > i then j else i)) H) ∨ ∃ (a : Addr) (n : Int) (ns : List Int), vs = [V.ref a] ∧ (SqL K H a ((n :: ns).map V.int) ∨ SqT K H a ((n :: ns).map V.int)) ∧ Q (.int (maxI n ns)) H
theorem minOf_eq : ∀ (r : List Int) (m : Int), PySem.W.minOf m r = minI m r
  | [], m => rfl
  | x :: r, m => by
    have h := minOf_eq r (if x < m then x else m)
    show PySem.W.minOf (if (decide (x < m)) = true then x else m) r = _
    simp only [decide_eq_true_eq]
    exact h
theorem maxOf_eq : ∀ (r : List Int) (m : Int), PySem.W.maxOf m r = maxI m r
  | [], m => rfl
  | x :: r, m => by
    have h := maxOf_eq r (if x > m then x else m)
    show PySem.W.maxOf (if (decide (m < x)) = true then x else m) r = _
    simp only [decide_eq_true_eq]
    exact h
theorem holds_ints {h : Heap} : ∀ {ns : List Int} {us : List Value}, Vals (ns.map V.int) us → PySem.W.HoldAll h us ns
  | [], us, r => by cases r; exact ⟨[], .nil⟩
  | n :: ns, us, r => by
    cases r with
    | cons p q =>
      obtain ⟨t, rfl⟩ := p
      obtain ⟨as, z⟩ := holds_ints q
      exact ⟨_, .cons (.int n t) z⟩
theorem holds_int {h : Heap} {v : Value} {n : Int} (x : PySem.W.Holds h v n) : RelV (.int n) v := by
  obtain ⟨as, r⟩ := x
  cases (show Reads h v (.int n) as from r) with
  | int i t => exact ⟨t, rfl⟩
theorem cr_minS (hc : X.calm = true) (hu : X.A.units + 65 < cLine) : CallR X (.builtin "min") (rMinS X.K) := by
  intro pins s σ H xs us Q I r h
  rcases h with h | ⟨a, n, ns, rfl, h | h, q⟩
  · exact call_min2 hc pins s σ H xs us Q I r h
  · cases (Vals.ref1 r)
    obtain ⟨its, rv, hl, _⟩ := I.list h
    refine PySem.W.min_list_datum (I.ok.hd hc) hl.isList (x := n) (xs := ns) (by simpa using holds_ints rv) (by show X.A.units + 1 + 0 < _; omega) fun i v h' tk hi hv hk => ?_
    exact ⟨.int (minI n ns), H, I.kept hk, by rw [← minOf_eq]; exact holds_int hv, q⟩
  · cases (Vals.ref1 r)
    obtain ⟨its, rv, hl, _⟩ := I.tuple h
    refine PySem.W.min_tuple_datum (I.ok.hd hc) (show s.heap.IsTuple a its.toArray from hl) (x := n) (xs := ns) (by simpa using holds_ints rv) (by show X.A.units + 1 + 0 < _; omega) fun i v h' tk hi hv hk => ?_
    exact ⟨.int (minI n ns), H, I.kept hk, by rw [← minOf_eq]; exact holds_int hv, q⟩
theorem cr_maxS (hc : X.calm = true) (hu : X.A.units + 65 < cLine) : CallR X (.builtin "max") (rMaxS X.K) := by
  intro pins s σ H xs us Q I r h
  rcases h with h | ⟨a, n, ns, rfl, h | h, q⟩
  · exact call_max2 hc pins s σ H xs us Q I r h
  · cases (Vals.ref1 r)
    obtain ⟨its, rv, hl, _⟩ := I.list h
    refine PySem.W.max_list_datum (I.ok.hd hc) hl.isList (x := n) (xs := ns) (by simpa using holds_ints rv) (by show X.A.units + 1 + 0 < _; omega) fun i v h' tk hi hv hk => ?_
    exact ⟨.int (maxI n ns), H, I.kept hk, by rw [← maxOf_eq]; exact holds_int hv, q⟩
  · cases (Vals.ref1 r)
    obtain ⟨its, rv, hl, _⟩ := I.tuple h
    refine PySem.W.max_tuple_datum (I.ok.hd hc) (show s.heap.IsTuple a its.toArray from hl) (x := n) (xs := ns) (by simpa using holds_ints rv) (by show X.A.units + 1 + 0 < _; omega) fun i v h' tk hi hv hk => ?_
    exact ⟨.int (maxI n ns), H, I.kept hk, by rw [← maxOf_eq]; exact holds_int hv, q⟩
theorem vb_min : VB K C fMin (rMinS K) := by
  intro G H xs ds d Q s r e k
  have go : ∀ {a : Addr} {ys : List V} {es : List D}, (SqL K H a ys ∨ SqT K H a ys) → RpL K C G ys es → (intsOf es).bind minOf = some d → rMinS K [.ref a] H Q := by
    intro a ys es h r e
    cases hb : intsOf es with
    | none => rw [hb] at e; cases e
    | some bs =>
      rw [hb] at e
      cases bs with
      | nil => cases e
      | cons n ns => cases e; exact .inr ⟨a, n, ns, rfl, by rw [← r.intsV hb]; exact h, Grow.here s k (.int _)⟩
  cases r with
  | nil => cases e
  | cons h t =>
    cases t with
    | nil =>
      cases h with
      | lst h r => exact go (.inl (.inl (.inl (s _ _ h)))) r e
      | tup h r => exact go (.inr (same_seqT s h)) r e
      | _ => cases e
    | cons h2 t2 =>
      cases t2 with
      | cons _ _ => cases h <;> cases h2 <;> cases e
      | nil =>
        cases h with
        | int i =>
          cases h2 with
          | int j => cases e; exact .inl ⟨i, j, rfl, Grow.here s k (.int _)⟩
          | _ => cases e
        | _ => cases h2 <;> cases e
theorem vb_max : VB K C fMax (rMaxS K) := by
  intro G H xs ds d Q s r e k
  have go : ∀ {a : Addr} {ys : List V} {es : List D}, (SqL K H a ys ∨ SqT K H a ys) → RpL K C G ys es → (intsOf es).bind maxOf = some d → rMaxS K [.ref a] H Q := by
    intro a ys es h r e
    cases hb : intsOf es with
    | none => rw [hb] at e; cases e
    | some bs =>
      rw [hb] at e
      cases bs with
      | nil => cases e
      | cons n ns => cases e; exact .inr ⟨a, n, ns, rfl, by rw [← r.intsV hb]; exact h, Grow.here s k (.int _)⟩
  cases r with
  | nil => cases e
  | cons h t =>
    cases t with
    | nil =>
      cases h with
      | lst h r => exact go (.inl (.inl (.inl (s _ _ h)))) r e
      | tup h r => exact go (.inr (same_seqT s h)) r e
      | _ => cases e
    | cons h2 t2 =>
      cases t2 with
      | cons _ _ => cases h <;> cases h2 <;> cases e
      | nil =>
        cases h with
        | int i =>
          cases h2 with
          | int j => cases e; exact .inl ⟨i, j, rfl, Grow.here s k (.int _)⟩
          | _ => cases e
        | _ => cases h2 <;> cases e
/-- the lengths -/
theorem cr_lenS : CallR X (.builtin "len") (rLen X.K) := by
  intro pins s σ H xs us Q I r h
  rcases h with ⟨p, ys, e, hs, q⟩ | ⟨z, e, hz, q⟩
  · exact call_len_seq pins s σ H xs us Q I r ⟨p, ys, e, hs, q⟩
  · exact call_len_str pins s σ H xs us Q I r ⟨z, e, hz, q⟩
/-! ### isinstance -/
def isTy (T : String) : D → Option Bool
  | .non => kitB "NoneType" T
  | .bl _ => kitB "bool" T
  | .int _ => kitB "int" T
  | .str _ => kitB "str" T
  | .tup _ => kitB "tuple" T
  | .lst _ => kitB "list" T
  | .scr _ => kitB "list" T
  | .dic _ => kitB "dict" T
  | .ins _ _ => none
theorem sqT_ty {K : PySem.W.Frag} {H : Hp} {a : Addr} {xs : List V} (h : SqT K H a xs) : TyX K H (.ref a) (.type "tuple") := by
  rcases h with (h | ⟨o, h⟩) | ⟨o, its, n, h, c, _⟩
  · exact .base (.tup h)
  · exact .fTuple h
  · exact .kTuple h c
theorem sqL_ty {K : PySem.W.Frag} {H : Hp} {a : Addr} {xs : List V} (h : SqL K H a xs) : TyX K H (.ref a) (.type "list") := by
  rcases h with (h | ⟨o, h⟩) | ⟨o, its, n, h, c, _⟩
  · exact .base (.lst h)
  · exact .base (.frz h)
  · exact .kList h c
theorem isTy_ok {T : String} {G H : Hp} {v : V} {d : D} {b : Bool} (s : Same G H) (p : Rp K C G v d) (e : isTy T d = some b) : ∃ t, TyX K H v t ∧ PySem.W.kitOne K t (.type T) = some b := by
  cases p with
  | non => exact ⟨_, .base .non, kit_ty e⟩
  | bl b => exact ⟨_, .base (.bl b), kit_ty e⟩
  | int b => exact ⟨_, .base (.int b), kit_ty e⟩
  | str b _ => exact ⟨_, .base (.str b), kit_ty e⟩
  | tup h r => exact ⟨_, sqT_ty (same_seqT s h), kit_ty e⟩
  | lst h r => exact ⟨_, .base (.lst (s _ _ h)), kit_ty e⟩
  | scr h r => exact ⟨_, sqL_ty (Same.seq s h), kit_ty e⟩
  | dic h r => exact ⟨_, .base (.dK (s _ _ h)), kit_ty e⟩
  | ins h r => cases e
def dIs (f : D → Option Bool) (da : ENV → R D) : ENV → R D := dUn (fun d => (f d).map D.bl) da
/-- isinstance(a, T), T one class -/
theorem de_isA {x y : Str} {p p2 : Pos} {f : D → Option Bool} {cv : V} {cu : Value} (hf : ∀ {G H : Hp} {v : V} {d : D} {b : Bool}, Same G H → Rp X.K cc.C G v d → f d = some b → ∃ t, TyX X.K H v t ∧ PySem.W.kitOne X.K t cu = some b)
    (hc : PE X (.Name y p2) (tC cv)) (hk : ClsV cv cu) (hg : Gl X x) (hm : X.mg x = none) (hv : bootBuiltins x = some (.builtin "isinstance")) (ha : DE X cc a da)
    (hn : x ≠ "__name__" := by decide) (hdb : (x == ("__debug__" : Str)) = false := by decide) (he : starEach [a, .Name y p2] X.env = (false, eval a X.env) :: starEach [.Name y p2] X.env := by rfl)
    (hpl : (backTo pos (starEach [.Name y p2] X.env)).any (·.1) = false := by rfl) (hs2 : starEach [.Name y p2] X.env = (false, eval (.Name y p2) X.env) :: starEach [] X.env := by rfl) : DE X cc (.Call (.Name x p) [a, .Name y p2] [] pos) (dIs f da) := by
  refine PE.imp (pe_callB call_isi hg hm hv (pa_cons ha (pa_cons hc pa_nil hs2) he) hn hdb he hpl) fun σ H Q ⟨B, ρ, G, R0, h⟩ => ⟨B, ρ, G, R0, h.bind fun d1 ρ1 G1 H1 v e1 R1 p1 h1 => ?_⟩
  cases hb : f d1 with
  | none => simp only [hb, Option.map_none] at h1; exact h1.elim
  | some b =>
    simp only [hb, Option.map_some] at h1
    obtain ⟨t, ht, hko⟩ := hf R1.gk p1 hb
    exact ⟨v, cv, t, cu, b, rfl, hk, ht, hko, Post.fin h1 R1 (Ext.refl _ _) (Grow.refl R1.gk) (.bl b)⟩
theorem de_isT {T : String} {x y : Str} {p p2 : Pos} (hg : Gl X x) (hm : X.mg x = none) (hv : bootBuiltins x = some (.builtin "isinstance")) (hgy : Gl X y) (hmy : X.mg y = none) (hvy : bootBuiltins y = some (.type T)) (ha : DE X cc a da)
    (hn : x ≠ "__name__" := by decide) (hdb : (x == ("__debug__" : Str)) = false := by decide) (hn2 : y ≠ "__name__" := by decide) (hdb2 : (y == ("__debug__" : Str)) = false := by decide) (he : starEach [a, .Name y p2] X.env = (false, eval a X.env) :: starEach [.Name y p2] X.env := by rfl)
    (hpl : (backTo pos (starEach [.Name y p2] X.env)).any (·.1) = false := by rfl) (hs2 : starEach [.Name y p2] X.env = (false, eval (.Name y p2) X.env) :: starEach [] X.env := by rfl) : DE X cc (.Call (.Name x p) [a, .Name y p2] [] pos) (dIs (isTy T) da) :=
  de_isA (cv := .ty T) (cu := .type T) (fun s p e => isTy_ok s p e) (pe_bltn hgy hmy hvy rfl hn2 hdb2) (.ty T) hg hm hv ha hn hdb he hpl hs2
end
end Rf
set_option Elab.async false
set_option linter.all false
set_option maxRecDepth 100000
/-! Rf: fresh objects, targets, walks, comprehensions -/
namespace Rf
open PySem PySem.Spec L2
/-! ### fresh objects -/
def PostF (K : PySem.W.Frag) (cc : Cc) (B G : Hp) (σ : St) (Q : V → Hp → Prop) (r : R M) : Prop := match r with
  | .ok m ρ' => ∀ p G' H', Ext B G G' → Rl K cc B ρ' σ G' H' → Own K cc.C B G' H' p m → (∀ (i : Nat) (m' : M), ρ'[i]? = some (some (.ow m')) → σ[i]? ≠ some (some (.ref p))) → Q (.ref p) H'
  | .exc e ρ' => ∀ cl dd G' H', Ext B G G' → Rl K cc B ρ' σ G' H' → ERp K cc.C G' e cl dd → cc.W cl dd σ H'
  | .bot => False
theorem PostF.bind {α β : Type} {K : PySem.W.Frag} {cc : Cc} {V1 : Hp → β → α → Prop} {B G : Hp} {σ : St} {Q : V → Hp → Prop} {Q' : β → Hp → Prop} {r : R α} {f : α → ENV → R M}
    (h : PostF K cc B G σ Q (r.bind f))
    (k : ∀ d ρ1 G1 H1 x, Ext B G G1 → Rl K cc B ρ1 σ G1 H1 → V1 G1 x d → PostF K cc B G1 σ Q (f d ρ1) → Q' x H1) : Post K cc V1 B G σ Q' r := by
  cases r with
  | ok d ρ1 =>
    intro v G1 H1 e1 R1 p1
    refine k d ρ1 G1 H1 v e1 R1 p1 ?_
    have h : PostF K cc B G σ Q (f d ρ1) := h
    revert h
    cases f d ρ1 with
    | ok c ρ2 => exact fun h v G' H' e R' p => h v G' H' (e1.trans e) R' p
    | exc c ρ2 => exact fun h cl dd G' H' e R' p => h cl dd G' H' (e1.trans e) R' p
    | bot => exact id
  | exc e ρ1 => exact h
  | bot => exact h
theorem Rl.notAt {K : PySem.W.Frag} {cc : Cc} {B : Hp} {ρ : ENV} {σ : St} {G H : Hp} {p : Addr} (r : Rl K cc B ρ σ G H) (h : H p = none) (i : Nat) (m : M) (e : ρ[i]? = some (some (.ow m))) : σ[i]? ≠ some (some (.ref p)) := fun z => by
  obtain ⟨q, hq, o⟩ := r.ow i m e
  rw [z] at hq; cases hq
  obtain ⟨x, hx, _⟩ := o.at_
  rw [h] at hx; cases hx
/-- the new object is there -/
theorem PostF.fin {K : PySem.W.Frag} {cc : Cc} {B G : Hp} {σ : St} {Q : V → Hp → Prop} {m : M} {ρ1 : ENV} {G1 H1 : Hp} {p : Addr} {o : HO}
    (h : PostF K cc B G σ Q (.ok m ρ1)) (R1 : Rl K cc B ρ1 σ G1 H1) (e : Ext B G G1) (hp : H1 p = none) (hm : HoldsM K cc.C G1 o m) : Q (.ref p) (upd H1 p o) := by
  have g := Grow.newO (o := o) R1.gk hp
  exact h p G1 _ e (R1.grow g) ⟨R1.bk.free hp, R1.gk.free hp, o, upd_same, hm⟩ fun i m' q => R1.notAt hp i m' q
def rF (K : PySem.W.Frag) (cc : Cc) (den : ENV → R M) : TE := fun σ H Q => ∃ B ρ G, Rl K cc B ρ σ G H ∧ PostF K cc B G σ Q (den ρ)
def DF (X : Cx) (cc : Cc) (e : Expr) (den : ENV → R M) : Prop := PE X e (rF X.K cc den)
/-- frozen at once -/
def frz (r : R M) : R D := r.bind fun m ρ => .ok m.toD ρ
section
variable {X : Cx} {cc : Cc} {a b c e : Expr} {da db dc : ENV → R D} {pos : Pos} {es : List Expr} {dr : ENV → R (List D)} {fa fb : ENV → R M}
theorem de_of (h : DF X cc e fa) : DE X cc e (fun ρ => frz (fa ρ)) := by
  refine PE.imp h fun σ H Q ⟨B, ρ, G, R0, h⟩ => ⟨B, ρ, G, R0, ?_⟩
  dsimp only [frz] at h
  cases hf : fa ρ with
  | ok m ρ1 =>
    rw [hf] at h
    intro p G1 H1 e1 R1 o nf
    obtain ⟨x, hx, hm⟩ := o.at_
    have sG : Same G1 (upd G1 p x) := same_upd o.ng
    refine h (.ref p) (upd G1 p x) H1 (e1.trans ⟨sG, fun a u q => ?_⟩) ⟨R1.bk, fun b u q => ?_, R1.ln, fun i d q => ?_, fun i m' q => ?_, R1.df, R1.pa, R1.kg.trans sG⟩ (HoldsM.rp upd_same (hm.mono sG))
    · by_cases z : a = p
      · subst z; exact .inr o.nb
      · rw [upd_ne z] at q; exact .inl q
    · by_cases z : b = p
      · subst z; rw [upd_same] at q; cases q; exact hx
      · rw [upd_ne z] at q; exact R1.gk b u q
    · obtain ⟨v, h1, h2⟩ := R1.sh i d q
      exact ⟨v, h1, h2.mono sG⟩
    · obtain ⟨q', h1, o'⟩ := R1.ow i m' q
      have ne : q' ≠ p := fun z => by subst z; exact nf i m' q h1
      obtain ⟨y, hy, hm'⟩ := o'.at_
      exact ⟨q', h1, o'.nb, by rw [upd_ne ne]; exact o'.ng, y, hy, hm'.mono sG⟩
  | exc x ρ1 => rw [hf] at h; exact h
  | bot => rw [hf] at h; exact h.elim
def ite_postF {K : PySem.W.Frag} {B G : Hp} {σ : St} {Q : V → Hp → Prop} {p : Prop} [Decidable p] {r : R M} (h : PostF K cc B G σ Q (if p then r else .bot)) : p ∧ PostF K cc B G σ Q r := by
  by_cases q : p
  · rw [if_pos q] at h; exact ⟨q, h⟩
  · rw [if_neg q] at h; exact h.elim
def fLst (dr : ENV → R (List D)) : ENV → R M := fun ρ => (dr ρ).bind fun xs ρ1 => if xs.length ≤ sizeLine then .ok (.lst xs) ρ1 else .bot
theorem df_list (h : DA X cc es dr) : DF X cc (.List es pos) (fLst dr) := by
  refine PE.imp (pe_lst h) fun σ H Q ⟨B, ρ, G, R0, h⟩ => ⟨B, ρ, G, R0, h.bind fun ds ρ1 G1 H1 xs e1 R1 p1 h1 => ?_⟩
  obtain ⟨hz, h1⟩ := ite_postF h1
  exact ⟨by rw [p1.length]; exact hz, fun p hp => h1.fin R1 (Ext.refl _ _) hp ⟨xs, rfl, p1⟩⟩
/-- list(x), as a fresh one -/
def fListF (dr : ENV → R D) : ENV → R M := fun ρ => (dr ρ).bind fun x ρ1 => match x with
  | .lst ds => .ok (.lst ds) ρ1
  | .scr ds => .ok (.lst ds) ρ1
  | .tup ds => .ok (.lst ds) ρ1
  | _ => .bot
theorem df_listOf {x : Str} {p : Pos} (hg : Gl X x) (hm : X.mg x = none) (hv : bootBuiltins x = some (.type "list")) (ha : DE X cc e da)
    (hn : x ≠ "__name__" := by decide) (hdb : (x == ("__debug__" : Str)) = false := by decide) (he : starEach [e] X.env = (false, eval e X.env) :: starEach [] X.env := by rfl) (hpl : (backTo pos (starEach [] X.env)).any (·.1) = false := by rfl) :
    DF X cc (.Call (.Name x p) [e] [] pos) (fListF da) := by
  refine PE.imp (pe_callTy call_list_of hg hm hv (pa_cons ha pa_nil he) hn hdb he hpl) fun σ H Q ⟨B, ρ, G, R0, h⟩ => ⟨B, ρ, G, R0, h.bind fun d1 ρ1 G1 H1 x e1 R1 p1 h1 => ?_⟩
  cases p1 with
  | lst h r => exact ⟨_, _, rfl, .inl (.inl (.inl (R1.gk _ _ h))), fun l hl => h1.fin R1 (Ext.refl _ _) hl ⟨_, rfl, r⟩⟩
  | scr h r => exact ⟨_, _, rfl, .inl (Same.seq R1.gk h), fun l hl => h1.fin R1 (Ext.refl _ _) hl ⟨_, rfl, r⟩⟩
  | tup h r => exact ⟨_, _, rfl, .inr (same_seqT R1.gk h), fun l hl => h1.fin R1 (Ext.refl _ _) hl ⟨_, rfl, r⟩⟩
  | _ => exact h1.elim
/-- a + b of lists, as a fresh one -/
def fAddL (da db : ENV → R D) : ENV → R M := fun ρ => (da ρ).bind fun x ρ1 => (db ρ1).bind fun y ρ2 => match x, y with
  | .lst a, .lst b => if a.length + b.length ≤ sizeLine then .ok (.lst (a ++ b)) ρ2 else .bot
  | _, _ => .bot
theorem df_add (ha : DE X cc a da) (hb : DE X cc b db) : DF X cc (.BinOp a .Add b pos) (fAddL da db) := by
  refine PE.imp (pe_op op_cat ha hb) fun σ H Q ⟨B, ρ, G, R0, h⟩ => ⟨B, ρ, G, R0, h.bind fun d1 ρ1 G1 H1 x e1 R1 p1 h1 => ⟨B, ρ1, G1, R1, h1.bind fun d2 ρ2 G2 H2 y e2 R2 p2 h2 => ?_⟩⟩
  have p1 := p1.mono e2.gg
  cases p1 with
  | lst h r =>
    cases p2 with
    | lst h' r' =>
      obtain ⟨hz, h2⟩ := ite_postF h2
      exact ⟨_, _, _, _, rfl, rfl, R2.gk _ _ h, R2.gk _ _ h', by rw [r.length, r'.length]; exact hz, fun p hp => h2.fin R2 (Ext.refl _ _) hp ⟨_, rfl, r.append r'⟩⟩
    | _ => exact h2.elim
  | _ => cases d2 <;> exact h2.elim
end

/-! ### targets -/
/-- other slots are as they were -/
def Oth (sl : List Nat) (σ σ' : St) : Prop := σ'.length = σ.length ∧ ∀ j, j ∉ sl → σ'[j]? = σ[j]?
def rG (K : PySem.W.Frag) (cc : Cc) (sl : List Nat) (gd : D → ENV → Option ENV) : TG := fun v σ H Q => ∃ B ρ G d ρ', Rl K cc B ρ σ G H ∧ Rp K cc.C G v d ∧ gd d ρ = some ρ' ∧ ∀ σ', Rl K cc B ρ' σ' G H → Oth sl σ σ' → Q σ' H
def rGs (K : PySem.W.Frag) (cc : Cc) (sl : List Nat) (gd : List D → ENV → Option ENV) : TGs := fun vs σ H Q => ∃ B ρ G ds ρ', Rl K cc B ρ σ G H ∧ RpL K cc.C G vs ds ∧ gd ds ρ = some ρ' ∧ ∀ σ', Rl K cc B ρ' σ' G H → Oth sl σ σ' → Q σ' H
def DG (X : Cx) (cc : Cc) (tg : Expr) (sl : List Nat) (gd : D → ENV → Option ENV) : Prop := PG X tg (rG X.K cc sl gd)
def DGs (X : Cx) (cc : Cc) (tgs : List Expr) (sl : List Nat) (gd : List D → ENV → Option ENV) : Prop := PGs X tgs (rGs X.K cc sl gd)
theorem PG.imp {X : Cx} {e : Expr} {t t' : TG} (h : PG X e t) (k : ∀ v σ H Q, t' v σ H Q → t v σ H Q) : PG X e t' := ⟨fun pins s σ H v u Q I r q => h.run pins s σ H v u Q I r (k _ _ _ _ q)⟩
theorem PGs.imp {X : Cx} {e : List Expr} {t t' : TGs} (h : PGs X e t) (k : ∀ v σ H Q, t' v σ H Q → t v σ H Q) : PGs X e t' := ⟨fun pins s σ H v u Q I r q => h.run pins s σ H v u Q I r (k _ _ _ _ q)⟩
def gSet (i : Nat) : D → ENV → Option ENV := fun d ρ => if i < ρ.length then some (ρ.set i (some (.sh d))) else none
theorem Rl.store {K : PySem.W.Frag} {cc : Cc} {B : Hp} {ρ : ENV} {σ : St} {G H : Hp} {i : Nat} {v : V} {d : D} (r : Rl K cc B ρ σ G H) (hi : i < ρ.length) (hp : i ∉ cc.pr) (p : Rp K cc.C G v d) : Rl K cc B (ρ.set i (some (.sh d))) (σ.set i (some v)) G H := by
  have hi' : i < σ.length := by rw [r.ln]; exact hi
  have old : ∀ (j : Nat) (m : M), (ρ.set i (some (.sh d)))[j]? = some (some (.ow m)) → j ≠ i ∧ ρ[j]? = some (some (.ow m)) := fun j m q => by
    by_cases h : j = i
    · subst h; rw [List.getElem?_set_self hi] at q; cases q
    · rw [List.getElem?_set_ne (Ne.symm h)] at q; exact ⟨h, q⟩
  refine ⟨r.bk, r.gk, by rw [List.length_set, List.length_set]; exact r.ln, fun j e q => ?_, fun j m q => ?_, fun j k m m' q q1 q2 q3 q4 => ?_, fun j hj => ?_, r.kg⟩
  · by_cases h : j = i
    · subst h
      rw [List.getElem?_set_self hi] at q; cases q
      exact ⟨v, by rw [List.getElem?_set_self hi'], p⟩
    · rw [List.getElem?_set_ne (Ne.symm h)] at q
      obtain ⟨v', h1, h2⟩ := r.sh j e q
      exact ⟨v', by rw [List.getElem?_set_ne (Ne.symm h)]; exact h1, h2⟩
  · obtain ⟨h, q⟩ := old j m q
    obtain ⟨p', h1, o⟩ := r.ow j m q
    exact ⟨p', by rw [List.getElem?_set_ne (Ne.symm h)]; exact h1, o⟩
  · obtain ⟨h, q1⟩ := old j m q1
    obtain ⟨h', q2⟩ := old k m' q2
    rw [List.getElem?_set_ne (Ne.symm h)] at q3
    rw [List.getElem?_set_ne (Ne.symm h')] at q4
    exact r.df j k m m' q q1 q2 q3 q4
  · have h : j ≠ i := fun z => by subst z; exact hp hj
    rw [List.getElem?_set_ne (Ne.symm h)]
    exact r.pa j hj
theorem Rl.storeO {K : PySem.W.Frag} {cc : Cc} {B : Hp} {ρ : ENV} {σ : St} {G H : Hp} {i : Nat} {p : Addr} {m : M} (r : Rl K cc B ρ σ G H) (hi : i < ρ.length) (hp : i ∉ cc.pr) (o : Own K cc.C B G H p m)
    (nf : ∀ (i : Nat) (m' : M), ρ[i]? = some (some (.ow m')) → σ[i]? ≠ some (some (.ref p))) : Rl K cc B (ρ.set i (some (.ow m))) (σ.set i (some (.ref p))) G H := by
  have hi' : i < σ.length := by rw [r.ln]; exact hi
  refine ⟨r.bk, r.gk, by rw [List.length_set, List.length_set]; exact r.ln, fun j e q => ?_, fun j m' q => ?_, fun j k m1 m2 q q1 q2 q3 q4 => ?_, fun j hj => ?_, r.kg⟩
  · by_cases h : j = i
    · subst h; rw [List.getElem?_set_self hi] at q; cases q
    · rw [List.getElem?_set_ne (Ne.symm h)] at q
      obtain ⟨v', h1, h2⟩ := r.sh j e q
      exact ⟨v', by rw [List.getElem?_set_ne (Ne.symm h)]; exact h1, h2⟩
  · by_cases h : j = i
    · subst h
      rw [List.getElem?_set_self hi] at q; cases q
      exact ⟨p, by rw [List.getElem?_set_self hi'], o⟩
    · rw [List.getElem?_set_ne (Ne.symm h)] at q
      obtain ⟨p', h1, o'⟩ := r.ow j m' q
      exact ⟨p', by rw [List.getElem?_set_ne (Ne.symm h)]; exact h1, o'⟩
  · by_cases h : j = i
    · by_cases h' : k = i
      · exact h.trans h'.symm
      · subst h
        rw [List.getElem?_set_self hi'] at q3; cases q3
        rw [List.getElem?_set_ne (Ne.symm h')] at q2 q4
        exact absurd q4 (nf k m2 q2)
    · rw [List.getElem?_set_ne (Ne.symm h)] at q1 q3
      by_cases h' : k = i
      · subst h'
        rw [List.getElem?_set_self hi'] at q4; cases q4
        exact absurd q3 (nf j m1 q1)
      · rw [List.getElem?_set_ne (Ne.symm h')] at q2 q4
        exact r.df j k m1 m2 q q1 q2 q3 q4
  · have h : j ≠ i := fun z => by subst z; exact hp hj
    rw [List.getElem?_set_ne (Ne.symm h)]
    exact r.pa j hj
section
variable {X : Cx} {cc : Cc} {pos : Pos}
theorem np {cc : Cc} {i : Nat} (h : cc.pr.contains i = false) : i ∉ cc.pr := fun z => by
  have := List.contains_iff_mem.mpr z
  rw [h] at this; cases this
theorem dg_name {i : Nat} {x : Str} (hN : X.N.Nodup) (hi : X.N[i]? = some x) (hx : Loc X.env.scope x) (hp : cc.pr.contains i = false) (hf : X.fn x = true ∨ X.env.scope.names.lookup x = some .local := by first | exact .inl rfl | exact .inr rfl | assumption) : DG X cc (.Name x pos) [i] (gSet i) := by
  refine PG.imp (pg_name hN hi hx hf) fun v σ H Q ⟨B, ρ, G, d, ρ', R0, p, e, k⟩ => ?_
  unfold gSet at e
  split at e
  · rename_i h; cases e; exact k _ (R0.store h (np hp) p) ⟨by rw [List.length_set], fun j hj => List.getElem?_set_ne (fun z => hj (by simp [z]))⟩
  · cases e
def gsNil : List D → ENV → Option ENV := fun ds ρ => match ds with
  | [] => some ρ
  | _ => none
def gsCons (g : D → ENV → Option ENV) (gs : List D → ENV → Option ENV) : List D → ENV → Option ENV := fun ds ρ => match ds with
  | d :: r => (g d ρ).bind fun ρ1 => gs r ρ1
  | _ => none
theorem dgs_nil : DGs X cc [] [] gsNil := PGs.imp pgs_nil fun v σ H Q ⟨B, ρ, G, d, ρ', R0, p, e, k⟩ => by
  cases p with
  | nil => cases e; exact ⟨rfl, k σ R0 ⟨rfl, fun _ _ => rfl⟩⟩
  | cons _ _ => cases e
theorem dgs_cons {e : Expr} {es : List Expr} {s1 s2 : List Nat} {g : D → ENV → Option ENV} {gs : List D → ENV → Option ENV} (h1 : DG X cc e s1 g) (h2 : DGs X cc es s2 gs)
    (hs : (assignEach (e :: es) X.env).map (·.2) = assign e X.env :: (assignEach es X.env).map (·.2) := by rfl) : DGs X cc (e :: es) (s1 ++ s2) (gsCons g gs) := PGs.imp (pgs_cons h1 h2 hs) fun v σ H Q ⟨B, ρ, G, d, ρ', R0, p, e, k⟩ => by
  cases p with
  | nil => cases e
  | @cons v d vs ds p r =>
    cases hg : g d ρ with
    | none => simp only [gsCons, hg, Option.bind_none] at e; cases e
    | some ρ1 =>
      simp only [gsCons, hg, Option.bind_some] at e
      exact ⟨_, _, rfl, B, ρ, G, d, ρ1, R0, p, hg, fun σ' R1 o1 => ⟨B, ρ1, G, ds, ρ', R1, r, e, fun σ'' R2 o2 => k σ'' R2 ⟨o2.1.trans o1.1, fun j hj => (o2.2 j fun z => hj (List.mem_append_right _ z)).trans (o1.2 j fun z => hj (List.mem_append_left _ z))⟩⟩⟩
/-- (a, b, ..) = a tuple or a list of that length -/
def gSeq (n : Nat) (gs : List D → ENV → Option ENV) : D → ENV → Option ENV := fun d ρ => match d with
  | .tup ds => if ds.length = n then gs ds ρ else none
  | .lst ds => if ds.length = n then gs ds ρ else none
  | _ => none
def tSq (K : PySem.W.Frag) (n : Nat) (t : TGs) : TG := fun v σ H Q => ∃ a xs, v = .ref a ∧ (SqT K H a xs ∨ SqL K H a xs) ∧ xs.length = n ∧ t xs σ H Q
theorem pg_sq {es : List Expr} {k : Nat} {t : TGs} {n : Nat} (hc : X.calm = true) (h : PGs X es t)
    (hn : (assignEach es X.env).length = n := by rfl) (hst : (assignEach es X.env).findIdx? (·.1) = none := by rfl) : PG X (.Tuple es k pos) (tSq X.K n t) := by
  refine ⟨fun pins s σ H v u Q I r ⟨a, xs, e1, hq, hl, hw⟩ => ?_⟩
  rcases hq with hq | hq
  · exact (pg_tup hc h hn hst).run pins s σ H v u Q I r ⟨a, xs, e1, hq, hl, hw⟩
  · exact (pg_lst hc h hn hst).run pins s σ H v u Q I r ⟨a, xs, e1, hq, hl, hw⟩
theorem dg_seq {es : List Expr} {k n : Nat} {sl : List Nat} {gs : List D → ENV → Option ENV} (hc : X.calm = true) (h : DGs X cc es sl gs) (hn : (assignEach es X.env).length = n := by rfl) (hst : (assignEach es X.env).findIdx? (·.1) = none := by rfl) : DG X cc (.Tuple es k pos) sl (gSeq n gs) := by
  refine PG.imp (pg_sq hc h hn hst) fun v σ H Q ⟨B, ρ, G, d, ρ', R0, p, e, k⟩ => ?_
  cases p with
  | tup h r =>
    dsimp only [gSeq] at e
    split at e
    · rename_i hl; exact ⟨_, _, rfl, .inl (same_seqT R0.gk h), by rw [r.length]; exact hl, B, ρ, G, _, ρ', R0, r, e, k⟩
    · cases e
  | lst h r =>
    dsimp only [gSeq] at e
    split at e
    · rename_i hl; exact ⟨_, _, rfl, .inr (.inl (.inl (R0.gk _ _ h))), by rw [r.length]; exact hl, B, ρ, G, _, ρ', R0, r, e, k⟩
    · cases e
  | _ => cases e
end

/-! ### walks -/
structure Wk (K : PySem.W.Frag) (C : Nat → Addr) (G : Hp) (J : It) (ds : List D) : Prop where
  ex : ∃ (g : Hp → Prop) (Y : Nat → Hp → V → Hp → Prop), Walk J ds.length g Y ∧ (∀ G2 H2, Same G G2 → Same G2 H2 → g H2) ∧
    ∀ (i : Nat) G2 H2 x H3, i < ds.length → Same G G2 → Same G2 H2 → Y i H2 x H3 → ∃ d G3, ds[i]? = some d ∧ Grow G2 H2 G3 H3 ∧ Rp K C G3 x d
def rI (K : PySem.W.Frag) (cc : Cc) (den : ENV → R (List D)) : TI := fun σ H Q => ∃ B ρ G, Rl K cc B ρ σ G H ∧ Post K cc (fun G' J ds => Wk K cc.C G' J ds) B G σ Q (den ρ)
def DI (X : Cx) (cc : Cc) (tg iter : Expr) (den : ENV → R (List D)) : Prop := PI X tg iter (rI X.K cc den)
theorem PI.imp {X : Cx} {tg e : Expr} {t t' : TI} (h : PI X tg e t) (k : ∀ σ H Q, t' σ H Q → t σ H Q) : PI X tg e t' := ⟨fun pins s σ H Q I q => h.run pins s σ H Q I (k _ _ _ q)⟩
/-- a text's signs -/
def signs (x : Str) : List D := x.cps.toList.map fun c => .str ⟨#[c]⟩
/-- the items of a list, a tuple or a text -/
def items : D → Option (List D)
  | .str x => some (signs x)
  | .lst ds => some ds
  | .scr ds => some ds
  | .tup ds => some ds
  | _ => none
def dItems (da : ENV → R D) : ENV → R (List D) := fun ρ => (da ρ).bind fun x ρ1 => R.of (items x) ρ1
def iSq (K : PySem.W.Frag) (tl : TE) : TI := fun σ H R => tl σ H fun x H1 => (∃ a, x = .ref a ∧ (((∃ xs, SqL K H1 a xs) ∧ R (Itl K a) H1) ∨ ((∃ xs, SqT K H1 a xs) ∧ R (Itt K a) H1))) ∨ ∃ z, x = .str z ∧ R (Its z) H1
section
variable {X : Cx} {cc : Cc} {tg a b e : Expr} {da db : ENV → R D} {pos : Pos}
theorem pi_sq {l : Expr} {tl : TE} (hl : PE X l tl) : PI X tg l (iSq X.K tl) := by
  refine ⟨fun pins s σ H R I h => ?_⟩
  refine thn (hl.run pins s σ H _ I h) fun v s1 ⟨x, H1, I1, r1, q1⟩ => ?_
  rcases q1 with ⟨a, e, q⟩ | ⟨z, e, q⟩
  rotate_left
  · subst e
    obtain ⟨t, rfl⟩ := r1
    by_cases ha : z.cps.all (· < 128) = true
    · exact wpAny_pyIter_ascii ha (pi_one (tk := s1.toks) I1 _ (turn_str _ z t "str_ascii_iterator" (.inl rfl)) ⟨_, Heap.get?_push_size _ rfl, rfl, rfl⟩ q)
    · exact wpAny_pyIter_wide (by simpa using ha) (pi_one (tk := s1.toks) I1 _ (turn_str _ z t "str_iterator" (.inr rfl)) ⟨_, Heap.get?_push_size _ rfl, rfl, rfl⟩ q)
  subst e
  cases r1
  rcases q with ⟨⟨xs, hq⟩, q⟩ | ⟨⟨xs, hq⟩, q⟩
  · obtain ⟨its, rv, p, hz⟩ := I1.list hq
    refine wpAny_pyIter_list p.isList ?_
    refine ⟨s1.heap.objs.size, [s1.heap.objs.size], _, _, H1, rfl, I1.kept (t' := s1.toks) fun b o e => Heap.get?_push_of_some _ e, turn_list a _, ⟨_, Heap.get?_push_size _ rfl, rfl, rfl⟩, fun b hb => ?_, q⟩
    have e : b = s1.heap.objs.size := by simpa using hb
    subst e
    exact I1.fpOk (Nat.le_refl _) (I1.hok.fresh (Nat.le_refl _))
  · obtain ⟨its, rv, p, hz⟩ := I1.tuple hq
    refine wpAny_pyIter_tuple (show s1.heap.IsTuple a its.toArray from p) ?_
    refine ⟨s1.heap.objs.size, [s1.heap.objs.size], _, _, H1, rfl, I1.kept (t' := s1.toks) fun b o e => Heap.get?_push_of_some _ e, turn_tuple a _, ⟨_, Heap.get?_push_size _ rfl, rfl, rfl⟩, fun b hb => ?_, q⟩
    have e : b = s1.heap.objs.size := by simpa using hb
    subst e
    exact I1.fpOk (Nat.le_refl _) (I1.hok.fresh (Nat.le_refl _))
theorem wk_list {K : PySem.W.Frag} {C : Nat → Addr} {G : Hp} {a : Addr} {xs : List V} {ds : List D} (h : SqL K G a xs) (r : RpL K C G xs ds) : Wk K C G (Itl K a) ds := by
  refine ⟨_, _, by rw [← r.length]; exact walk_list (xs := xs), fun G2 H2 s s2 => Same.seq s2 (Same.seq s h), fun i G2 H2 x H3 hi s s2 y => ?_⟩
  obtain ⟨rfl, y⟩ := y
  obtain ⟨d, hd, p⟩ := r.getV y
  exact ⟨d, G2, hd, Grow.refl s2, p.mono s⟩
theorem wk_tup {K : PySem.W.Frag} {C : Nat → Addr} {G : Hp} {a : Addr} {xs : List V} {ds : List D} (h : SqT K G a xs) (r : RpL K C G xs ds) : Wk K C G (Itt K a) ds := by
  refine ⟨_, _, by rw [← r.length]; exact walk_tup (xs := xs), fun G2 H2 s s2 => same_seqT s2 (same_seqT s h), fun i G2 H2 x H3 hi s s2 y => ?_⟩
  obtain ⟨rfl, y⟩ := y
  obtain ⟨d, hd, p⟩ := r.getV y
  exact ⟨d, G2, hd, Grow.refl s2, p.mono s⟩
theorem wk_str {K : PySem.W.Frag} {C : Nat → Addr} {G : Hp} {z : Str} : Wk K C G (Its z) (signs z) := by
  have hl : (signs z).length = z.cps.size := by simp [signs]
  refine ⟨_, _, by rw [hl]; exact walk_str, fun _ _ _ _ => trivial, fun i G2 H2 x H3 hi s s2 y => ?_⟩
  obtain ⟨rfl, c, hc, rfl⟩ := y
  exact ⟨.str ⟨#[c]⟩, G2, by simp [signs, hc], Grow.refl s2, .str _ (by show 1 ≤ sizeLine; rw [sizeLine_eq]; omega)⟩
theorem di_seq (ha : DE X cc a da) : DI X cc tg a (dItems da) := by
  refine PI.imp (pi_sq ha) fun σ H Q ⟨B, ρ, G, R0, h⟩ => ⟨B, ρ, G, R0, Post.bind (V2 := fun G' J ds => Wk X.K cc.C G' J ds) h fun d1 ρ1 G1 H1 x e1 R1 p1 h1 => ?_⟩
  cases p1 with
  | lst h r => exact .inl ⟨_, rfl, .inl ⟨⟨_, .inl (.inl (R1.gk _ _ h))⟩, h1 _ G1 H1 (Ext.refl _ _) R1 (wk_list (.inl (.inl h)) r)⟩⟩
  | scr h r => exact .inl ⟨_, rfl, .inl ⟨⟨_, Same.seq R1.gk h⟩, h1 _ G1 H1 (Ext.refl _ _) R1 (wk_list h r)⟩⟩
  | tup h r => exact .inl ⟨_, rfl, .inr ⟨⟨_, same_seqT R1.gk h⟩, h1 _ G1 H1 (Ext.refl _ _) R1 (wk_tup h r)⟩⟩
  | str z hz => exact .inr ⟨z, rfl, h1 _ G1 H1 (Ext.refl _ _) R1 wk_str⟩
  | _ => exact h1.elim
def rng (lo hi : Int) : List D := (List.range (hi - lo).toNat).map fun i => .int (lo + (i : Nat))
def rngOk (i : Int) : Bool := decide (-(2 ^ 62) ≤ i) && decide (i < 2 ^ 62)
def dRng1 (da : ENV → R D) : ENV → R (List D) := fun ρ => (da ρ).bind fun x ρ1 => match x with
  | .int j => if rngOk j = true then .ok (rng 0 j) ρ1 else .bot
  | _ => .bot
def dRng2 (da db : ENV → R D) : ENV → R (List D) := fun ρ => (da ρ).bind fun x ρ1 => (db ρ1).bind fun y ρ2 => match x, y with
  | .int i, .int j => if rngOk i = true ∧ rngOk j = true then .ok (rng i j) ρ2 else .bot
  | _, _ => .bot
theorem wk_range {K : PySem.W.Frag} {C : Nat → Addr} {G : Hp} (lo hi : Int) : Wk K C G (Itr lo (hi - lo).toNat) (rng lo hi) := by
  have hl : (rng lo hi).length = (hi - lo).toNat := by unfold rng; rw [List.length_map, List.length_range]
  refine ⟨_, _, by rw [hl]; exact walk_range, fun _ _ _ _ => trivial, fun i G2 H2 x H3 hi' s s2 y => ?_⟩
  obtain ⟨rfl, rfl⟩ := y
  rw [hl] at hi'
  exact ⟨.int (lo + (i : Nat)), G2, by unfold rng; rw [List.getElem?_map, List.getElem?_range hi']; rfl, Grow.refl s2, .int _⟩
theorem rngOk_of {i : Int} (h : rngOk i = true) : -(2 ^ 62) ≤ i ∧ i < 2 ^ 62 := by
  unfold rngOk at h
  simp only [Bool.and_eq_true, decide_eq_true_eq] at h
  exact h
theorem di_rng1 {p : Pos} (hg : Gl X "range") (hm : X.mg "range" = none) (ha : DE X cc a da) (hs : starEach [a] X.env = [(false, eval a X.env)] := by rfl) (hs2 : starEach [a] X.env = (false, eval a X.env) :: starEach [] X.env := by rfl) : DI X cc tg (.Call (.Name "range" p) [a] [] pos) (dRng1 da) := by
  refine PI.imp (pi_range1 hg hm (pa_cons ha pa_nil hs2) hs) fun σ H Q ⟨B, ρ, G, R0, h⟩ => ⟨B, ρ, G, R0, Post.bind (V2 := fun G' J ds => Wk X.K cc.C G' J ds) h fun d1 ρ1 G1 H1 x e1 R1 p1 h1 => ?_⟩
  cases p1 with
  | int j =>
    obtain ⟨hz, h1⟩ := ite_post h1
    obtain ⟨z1, z2⟩ := rngOk_of hz
    have w := wk_range (K := X.K) (C := cc.C) (G := G1) 0 j
    rw [Int.sub_zero] at w
    exact ⟨j, rfl, z1, z2, h1 _ G1 H1 (Ext.refl _ _) R1 w⟩
  | _ => exact h1.elim
theorem di_rng2 {p : Pos} (hg : Gl X "range") (hm : X.mg "range" = none) (ha : DE X cc a da) (hb : DE X cc b db) (hs : starEach [a, b] X.env = [(false, eval a X.env), (false, eval b X.env)] := by rfl) (hs2 : starEach [b] X.env = [(false, eval b X.env)] := by rfl)
    (hs3 : starEach [a, b] X.env = (false, eval a X.env) :: starEach [b] X.env := by rfl) (hs4 : starEach [b] X.env = (false, eval b X.env) :: starEach [] X.env := by rfl) : DI X cc tg (.Call (.Name "range" p) [a, b] [] pos) (dRng2 da db) := by
  refine PI.imp (pi_range2 hg hm (pa_cons ha (pa_cons hb pa_nil hs4) hs3) hs hs2) fun σ H Q ⟨B, ρ, G, R0, h⟩ => ⟨B, ρ, G, R0, Post.bind (V2 := fun G' J ds => Wk X.K cc.C G' J ds) h fun d1 ρ1 G1 H1 x e1 R1 p1 h1 => ⟨B, ρ1, G1, R1, Post.bind (V2 := fun G' J ds => Wk X.K cc.C G' J ds) h1 fun d2 ρ2 G2 H2 y e2 R2 p2 h2 => ?_⟩⟩
  cases p1 with
  | int i =>
    cases p2 with
    | int j =>
      obtain ⟨⟨hz, hz'⟩, h2⟩ := ite_post h2
      obtain ⟨z1, z2⟩ := rngOk_of hz
      obtain ⟨z3, z4⟩ := rngOk_of hz'
      exact ⟨i, j, rfl, ⟨z1, z2, z3, z4⟩, h2 _ G2 H2 (Ext.refl _ _) R2 (wk_range i j)⟩
    | _ => exact h2.elim
  | _ => cases d2 <;> exact h2.elim
end
end Rf
set_option Elab.async false
set_option linter.all false
set_option maxRecDepth 100000
/-! Rf: comprehensions -/
namespace Rf
open PySem PySem.Spec L2
def wipeE (ρ : ENV) : List Nat → ENV
  | [] => ρ
  | v :: vs => (wipeE ρ vs).set v none
/-- the block's own slots as they were outside -/
def back (ρ : ENV) : List Nat → ENV → ENV
  | [], ρ' => ρ'
  | v :: vs, ρ' => (back ρ vs ρ').set v (match ρ[v]? with | some (some (.sh d)) => some (.sh d) | _ => none)
def noOwn (ρ : ENV) (vs : List Nat) : Bool := vs.all fun v => match ρ[v]? with | some (some (.ow _)) => false | _ => true
def compL (g : D → ENV → Option ENV) (tt : ENV → R Bool) (te : ENV → R D) (vs : List Nat) : List D → List D → ENV → R (List D)
  | [], acc, ρ => .ok acc ρ
  | d :: ds, acc, ρ => match g d (wipeE ρ vs) with
    | none => .bot
    | some ρ1 => match tt ρ1 with
      | .ok true ρ2 => match te ρ2 with
        | .ok y ρ3 => if acc.length < sizeLine then compL g tt te vs ds (acc ++ [y]) ρ3 else .bot
        | _ => .bot
      | .ok false ρ2 => compL g tt te vs ds acc ρ2
      | _ => .bot
def fLc (di : ENV → R (List D)) (g : D → ENV → Option ENV) (tt : ENV → R Bool) (te : ENV → R D) (vs : List Nat) : ENV → R M := fun ρ => (di ρ).bind fun ds ρ1 => match noOwn ρ1 vs, compL g tt te vs ds [] ρ1 with
  | true, .ok acc ρ2 => .ok (.lst acc) (back ρ1 vs ρ2)
  | _, _ => .bot
theorem wipeE_length (ρ : ENV) : ∀ vs : List Nat, (wipeE ρ vs).length = ρ.length
  | [] => rfl
  | v :: vs => by unfold wipeE; rw [List.length_set, wipeE_length ρ vs]
theorem back_length (ρ ρ' : ENV) : ∀ vs : List Nat, (back ρ vs ρ').length = ρ'.length
  | [] => rfl
  | v :: vs => by unfold back; rw [List.length_set, back_length ρ ρ' vs]
theorem wipeE_some {ρ : ENV} {i : Nat} {x : DV} : ∀ {vs : List Nat}, (wipeE ρ vs)[i]? = some (some x) → ρ[i]? = some (some x) ∧ i ∉ vs
  | [], h => ⟨h, by simp⟩
  | v :: vs, h => by
    unfold wipeE at h
    by_cases hi : v = i
    · subst hi
      by_cases hv : v < (wipeE ρ vs).length
      · rw [List.getElem?_set_self hv] at h; cases h
      · rw [List.getElem?_eq_none (by simpa using hv)] at h; cases h
    · rw [List.getElem?_set_ne hi] at h
      obtain ⟨h1, h2⟩ := wipeE_some h
      exact ⟨h1, by simp only [List.mem_cons, not_or]; exact ⟨fun e => hi e.symm, h2⟩⟩
theorem wipe_keep {σ : St} {i : Nat} : ∀ {vs : List Nat}, i ∉ vs → (wipe σ vs)[i]? = σ[i]?
  | [], _ => rfl
  | v :: vs, h => by
    unfold wipe
    rw [List.getElem?_set_ne (fun e => h (by rw [e]; exact List.mem_cons_self)), wipe_keep fun z => h (List.mem_cons_of_mem _ z)]
/-- what back gives -/
theorem back_some {ρ ρ' : ENV} {i : Nat} {x : DV} : ∀ {vs : List Nat}, (back ρ vs ρ')[i]? = some (some x) → (ρ'[i]? = some (some x) ∧ i ∉ vs) ∨ ((∃ d, x = .sh d) ∧ ρ[i]? = some (some x))
  | [], h => .inl ⟨h, by simp⟩
  | v :: vs, h => by
    unfold back at h
    by_cases hi : v = i
    · subst hi
      by_cases hv : v < (back ρ vs ρ').length
      · rw [List.getElem?_set_self hv] at h
        have h := Option.some.inj h
        split at h
        · rename_i d e; cases h; exact .inr ⟨⟨d, rfl⟩, e⟩
        · cases h
      · rw [List.getElem?_eq_none (by simpa using hv)] at h; cases h
    · rw [List.getElem?_set_ne hi] at h
      rcases back_some h with ⟨h1, h2⟩ | h
      · exact .inl ⟨h1, by simp only [List.mem_cons, not_or]; exact ⟨fun e => hi e.symm, h2⟩⟩
      · exact .inr h
/-- within a block: nothing is raised, nothing is protected -/
def Cc.inner (cc : Cc) : Cc := { cc with W := fun _ _ _ _ => False, pr := [] }
theorem Rl.wiped {K : PySem.W.Frag} {cc : Cc} {B : Hp} {ρ : ENV} {σ : St} {G H : Hp} (r : Rl K cc B ρ σ G H) (vs : List Nat) : Rl K cc.inner B (wipeE ρ vs) (wipe σ vs) G H := by
  refine ⟨r.bk, r.gk, by rw [wipe_length, wipeE_length]; exact r.ln, fun i d e => ?_, fun i m e => ?_, fun i j m m' p e1 e2 e3 e4 => ?_, fun i h => absurd h (by simp [Cc.inner]), r.kg⟩
  · obtain ⟨h1, h2⟩ := wipeE_some e
    rw [wipe_keep h2]
    exact r.sh i d h1
  · obtain ⟨h1, h2⟩ := wipeE_some e
    rw [wipe_keep h2]
    exact r.ow i m h1
  · obtain ⟨h1, h2⟩ := wipeE_some e1
    obtain ⟨h3, h4⟩ := wipeE_some e2
    rw [wipe_keep h2] at e3
    rw [wipe_keep h4] at e4
    exact r.df i j m m' p h1 h3 e3 e4
theorem Cc.inner_inner (cc : Cc) : cc.inner.inner = cc.inner := rfl
/-- an object that the relation does not speak of is tracked and kept -/
theorem Rl.hold {K : PySem.W.Frag} {cc : Cc} {B : Hp} {ρ : ENV} {σ : St} {G H : Hp} {D : Addr} {o : HO} (r : Rl K cc B ρ σ G H) (h : H D = some o) (hn : ∀ (i : Nat) (m : M), ρ[i]? = some (some (.ow m)) → σ[i]? ≠ some (some (.ref D))) : Rl K cc (upd B D o) ρ σ G H := by
  refine ⟨fun b u e => ?_, r.gk, r.ln, r.sh, fun i m e => ?_, r.df, r.pa, r.kg⟩
  · by_cases q : b = D
    · subst q; rw [upd_same] at e; cases e; exact h
    · rw [upd_ne q] at e; exact r.bk b u e
  · obtain ⟨p, h1, o'⟩ := r.ow i m e
    have ne : p ≠ D := fun z => by subst z; exact hn i m e h1
    exact ⟨p, h1, by rw [upd_ne ne]; exact o'.nb, o'.ng, o'.at_⟩
theorem Ext.unhold {B G G' : Hp} {D : Addr} {o : HO} (e : Ext (upd B D o) G G') : Ext B G G' := ⟨e.gg, fun a u h => by
  rcases e.nb a u h with h | h
  · exact .inl h
  · by_cases q : a = D
    · subst q; rw [upd_same] at h; cases h
    · rw [upd_ne q] at h; exact .inr h⟩
/-- .. it is written -/
theorem Rl.rewrite {K : PySem.W.Frag} {cc : Cc} {B : Hp} {ρ : ENV} {σ : St} {G H : Hp} {D : Addr} {o o' : HO} (r : Rl K cc (upd B D o) ρ σ G H) (hg : G D = none) : Rl K cc (upd B D o') ρ σ G (upd H D o') := by
  refine ⟨fun b u e => ?_, fun b u e => ?_, r.ln, r.sh, fun i m e => ?_, r.df, r.pa, r.kg⟩
  · by_cases q : b = D
    · subst q; rw [upd_same] at e ⊢; exact e
    · rw [upd_ne q] at e ⊢; exact r.bk b u (by rw [upd_ne q]; exact e)
  · have q : b ≠ D := fun z => by subst z; rw [hg] at e; cases e
    rw [upd_ne q]; exact r.gk b u e
  · obtain ⟨p, h1, o⟩ := r.ow i m e
    have q : p ≠ D := fun z => by
      subst z
      have := o.nb
      rw [upd_same] at this; cases this
    obtain ⟨x, hx, hm⟩ := o.at_
    exact ⟨p, h1, by have := o.nb; rw [upd_ne q] at this ⊢; exact this, o.ng, x, by rw [upd_ne q]; exact hx, hm⟩
theorem Rl.unhold {K : PySem.W.Frag} {cc : Cc} {B : Hp} {ρ : ENV} {σ : St} {G H : Hp} {D : Addr} {o : HO} (r : Rl K cc (upd B D o) ρ σ G H) (hb : B D = none) : Rl K cc B ρ σ G H ∧ ∀ (i : Nat) (m : M), ρ[i]? = some (some (.ow m)) → σ[i]? ≠ some (some (.ref D)) := by
  have ne : ∀ (i : Nat) (m : M), ρ[i]? = some (some (.ow m)) → ∀ p, σ[i]? = some (some (.ref p)) → p ≠ D ∧ Own K cc.C (upd B D o) G H p m := fun i m e p hp => by
    obtain ⟨p', h1, o'⟩ := r.ow i m e
    rw [hp] at h1; cases h1
    refine ⟨fun z => ?_, o'⟩
    subst z
    have := o'.nb
    rw [upd_same] at this; cases this
  refine ⟨⟨fun b u e => r.bk b u ?_, r.gk, r.ln, r.sh, fun i m e => ?_, r.df, r.pa, r.kg⟩, fun i m e z => (ne i m e D z).1 rfl⟩
  · have q : b ≠ D := fun z => by subst z; rw [hb] at e; cases e
    rw [upd_ne q]; exact e
  · obtain ⟨p, h1, _⟩ := r.ow i m e
    obtain ⟨h2, o'⟩ := ne i m e p h1
    exact ⟨p, h1, by have := o'.nb; rw [upd_ne h2] at this; exact this, o'.ng, o'.at_⟩
section
variable {X : Cx} {cc : Cc}
def DTs (X : Cx) (cc : Cc) (ifs : List Expr) (den : ENV → R Bool) : Prop := PTs X ifs (rT X.K cc den)
theorem PTs.imp {ifs : List Expr} {t t' : TT} (h : PTs X ifs t) (k : ∀ σ H Q, t' σ H Q → t σ H Q) : PTs X ifs t' := ⟨fun pins s σ H Q I q => h.run pins s σ H Q I (k _ _ _ q)⟩
def dYes : ENV → R Bool := fun ρ => .ok true ρ
theorem dts_nil : DTs X cc [] dYes := PTs.imp pts_nil fun σ H Q ⟨B, ρ, G, R0, h⟩ => h true G H (Ext.refl _ _) R0 rfl
theorem dts_one {c : Expr} {t : ENV → R Bool} (h : DT X cc c t) : DTs X cc [c] t := pts_one h
theorem wipeE_keep {ρ : ENV} {i : Nat} : ∀ {vs : List Nat}, i ∉ vs → (wipeE ρ vs)[i]? = ρ[i]?
  | [], _ => rfl
  | v :: vs, h => by
    unfold wipeE
    rw [List.getElem?_set_ne (fun e => h (by rw [e]; exact List.mem_cons_self)), wipeE_keep fun z => h (List.mem_cons_of_mem _ z)]
theorem wipe_none {σ : St} {i : Nat} : ∀ {vs : List Nat}, i ∈ vs → i < σ.length → (wipe σ vs)[i]? = some none
  | [], h, _ => by cases h
  | v :: vs, h, hl => by
    unfold wipe
    by_cases e : v = i
    · subst e; rw [List.getElem?_set_self (by rw [wipe_length]; exact hl)]
    · rw [List.getElem?_set_ne e]
      rcases List.mem_cons.mp h with z | z
      · exact absurd z.symm e
      · exact wipe_none z hl
theorem wipe_oth {σ σ2 : St} {sl vs : List Nat} (o : Oth sl (wipe σ vs) σ2) (hs : ∀ i ∈ sl, i ∈ vs) : wipe σ2 vs = wipe σ vs := by
  have hl : σ2.length = σ.length := by rw [o.1, wipe_length]
  refine List.ext_getElem? fun i => ?_
  by_cases h : i ∈ vs
  · by_cases hi : i < σ.length
    · rw [wipe_none h (by rw [hl]; exact hi), wipe_none h hi]
    · rw [List.getElem?_eq_none (by rw [wipe_length]; omega), List.getElem?_eq_none (by rw [wipe_length]; omega)]
  · rw [wipe_keep h, o.2 i fun z => h (hs i z)]
theorem Rl.backed {K : PySem.W.Frag} {B : Hp} {ρ1 ρi : ENV} {σ : St} {G1 H1 Gi H : Hp} {vs : List Nat} (R1 : Rl K cc B ρ1 σ G1 H1) (R : Rl K cc.inner B (wipeE ρi vs) (wipe σ vs) Gi H) (s : Same G1 Gi) : Rl K cc B (back ρ1 vs ρi) σ Gi H := by
  have one : ∀ (i : Nat) (m : M), (back ρ1 vs ρi)[i]? = some (some (.ow m)) → (wipeE ρi vs)[i]? = some (some (.ow m)) ∧ (wipe σ vs)[i]? = σ[i]? := fun i m e => by
    rcases back_some e with ⟨h1, h2⟩ | ⟨⟨d, h⟩, _⟩
    · exact ⟨by rw [wipeE_keep h2]; exact h1, wipe_keep h2⟩
    · cases h
  refine ⟨R.bk, R.gk, ?_, fun i d e => ?_, fun i m e => ?_, fun i j m m' p e1 e2 e3 e4 => ?_, R1.pa, R.kg⟩
  · have h := R.ln
    rw [wipe_length, wipeE_length] at h
    rw [back_length]; exact h
  · rcases back_some e with ⟨h1, h2⟩ | ⟨_, h⟩
    · obtain ⟨v, q1, q2⟩ := R.sh i d (by rw [wipeE_keep h2]; exact h1)
      exact ⟨v, by rw [wipe_keep h2] at q1; exact q1, q2⟩
    · obtain ⟨v, q1, q2⟩ := R1.sh i d h
      exact ⟨v, q1, q2.mono s⟩
  · obtain ⟨h1, h2⟩ := one i m e
    obtain ⟨p, q1, q2⟩ := R.ow i m h1
    exact ⟨p, by rw [h2] at q1; exact q1, q2⟩
  · obtain ⟨h1, h2⟩ := one i m e1
    obtain ⟨h3, h4⟩ := one j m' e2
    exact R.df i j m m' p h1 h3 (by rw [h2]; exact e3) (by rw [h4]; exact e4)
theorem lc_ok {di : ENV → R (List D)} {g : D → ENV → Option ENV} {tt : ENV → R Bool} {te : ENV → R D} {vs sl : List Nat} (hsl : ∀ i ∈ sl, i ∈ vs) :
    ∀ σ H Q, rF X.K cc (fLc di g tt te vs) σ H Q → tLc (rI X.K cc di) (rG X.K cc.inner sl g) (rT X.K cc.inner tt) (rE X.K cc.inner te) vs σ H Q := by
  intro σ H Q ⟨B, ρ, G, R0, h⟩
  refine ⟨B, ρ, G, R0, h.bind fun ds ρ1 G1 H1 J e1 R1 w h1 => ?_⟩
  intro Da hD
  obtain ⟨gd, Y, wlk, hgd, hY⟩ := w.ex
  split at h1
  rotate_left
  · exact h1.elim
  rename_i acc0 ρ2 hno hcomp
  have bD : B Da = none := R1.bk.free hD
  have gD : G1 Da = none := R1.gk.free hD
  refine lc_it wlk (fun i H => ∃ ρi Gi acc av, Ext B G1 Gi ∧ Gi Da = none ∧ RpL X.K cc.C Gi av acc ∧ Rl X.K cc.inner (upd B Da (.lst av)) (wipeE ρi vs) (wipe σ vs) Gi H ∧
    compL g tt te vs (ds.drop i) acc ρi = .ok acc0 ρ2) ?_ ?_ ?_ ?_
  · have R1' := (R1.grow (Grow.newO (o := .lst []) R1.gk hD)).hold upd_same (R1.notAt hD)
    exact ⟨ρ1, G1, [], [], Ext.refl _ _, gD, .nil, R1'.wiped vs, hcomp⟩
  · rintro i H _ ⟨ρi, Gi, acc, av, ex, gn, r, R, hc⟩
    exact hgd Gi H ex.gg R.gk
  · rintro i x H H' hi ⟨ρi, Gi, acc, av, ex, gn, r, R, hc⟩ y
    obtain ⟨d, G3, hd, g3, p3⟩ := hY i Gi H x H' hi ex.gg R.gk y
    have hdrop : ds.drop i = d :: ds.drop (i + 1) := by
      obtain ⟨h1, h2⟩ := List.getElem?_eq_some_iff.mp hd
      rw [← h2]; exact List.drop_eq_getElem_cons h1
    rw [hdrop] at hc
    unfold compL at hc
    cases hgd' : g d (wipeE ρi vs) with
    | none => rw [hgd'] at hc; cases hc
    | some ρ1' =>
      rw [hgd'] at hc
      dsimp only at hc
      have R' := R.grow g3
      have x3 : Ext (upd B Da (.lst av)) Gi G3 := g3.ext R.bk
      refine ⟨_, _, G3, d, ρ1', R', p3, hgd', fun σ2 R2 o2 => ?_⟩
      have hwp : wipe σ2 vs = wipe σ vs := wipe_oth o2 hsl
      refine ⟨hwp, _, ρ1', G3, R2, ?_⟩
      have fin : ∀ {G5 : Hp}, Ext (upd B Da (.lst av)) Gi G5 → G5 Da = none := fun {G5} e => by
        cases q : G5 Da with
        | none => rfl
        | some u =>
          rcases e.nb Da u q with h | h
          · rw [gn] at h; cases h
          · rw [upd_same] at h; cases h
      cases ht : tt ρ1' with
      | exc _ _ => rw [ht] at hc; cases hc
      | bot => rw [ht] at hc; cases hc
      | ok b ρ2' =>
        rw [ht] at hc
        intro b' G4 H4 e4 R4 eb
        subst eb
        cases b' with
        | false =>
          dsimp only at hc
          refine iteF ⟨ρ2', G4, acc, av, ex.trans (x3.trans e4).unhold, fin (x3.trans e4), r.mono (x3.trans e4).gg, ?_, hc⟩
          have := R4.wiped vs
          rw [hwp] at this
          exact this
        | true =>
          dsimp only at hc
          refine iteT ⟨_, ρ2', G4, R4, ?_⟩
          cases hte : te ρ2' with
          | exc _ _ => rw [hte] at hc; cases hc
          | bot => rw [hte] at hc; cases hc
          | ok yd ρ3 =>
            rw [hte] at hc
            dsimp only at hc
            split at hc
            rotate_left
            · cases hc
            rename_i hz
            intro yv G5 H5 e5 R5 p5
            have x5 := (x3.trans e4).trans e5
            refine ⟨av, R5.bk _ _ upd_same, by rw [r.length]; exact hz, ρ3, G5, acc ++ [yd], av ++ [yv], ex.trans x5.unhold, fin x5, (r.mono x5.gg).append (.cons p5 .nil), ?_, hc⟩
            have := (R5.rewrite (o' := .lst (av ++ [yv])) (fin x5)).wiped vs
            rw [hwp] at this
            exact this
  · rintro H ⟨ρi, Gi, acc, av, ex, gn, r, R, hc⟩
    rw [List.drop_length] at hc
    unfold compL at hc
    cases hc
    obtain ⟨R', hn⟩ := R.unhold bD
    have RB := Rl.backed R1 R' ex.gg
    refine h1 Da Gi H ex RB ⟨bD, gn, _, R.bk _ _ upd_same, av, rfl, r⟩ fun i m e z => ?_
    rcases back_some e with ⟨q1, q2⟩ | ⟨⟨d, q⟩, _⟩
    · exact hn i m (by rw [wipeE_keep q2]; exact q1) (by rw [wipe_keep q2]; exact z)
    · cases q
theorem df_lc {elt tg iter : Expr} {ifs : List Expr} {scope : Scope} {own : List (Str × Nat)} {pos : Pos} {di : ENV → R (List D)} {g : D → ENV → Option ENV} {tt : ENV → R Bool} {te : ENV → R D} {sl : List Nat} (hc : X.calm = true) (hN : X.N.Nodup) (hi : DI X cc tg iter di)
    (ok : BlkOk X.N X.env.scope scope own) (hsl : ∀ i ∈ sl, i ∈ own.map (·.2))
    (hg : ∀ (s : Shared) (H : Hp) (C : Addr) (cl : List (Str × Addr)) (fp : List Addr), DG (X.blk s H scope (compEnvC scope cl C X.env) fp) cc.inner tg sl g)
    (ht : ∀ (s : Shared) (H : Hp) (C : Addr) (cl : List (Str × Addr)) (fp : List Addr), DTs (X.blk s H scope (compEnvC scope cl C X.env) fp) cc.inner ifs tt)
    (he : ∀ (s : Shared) (H : Hp) (C : Addr) (cl : List (Str × Addr)) (fp : List Addr), DE (X.blk s H scope (compEnvC scope cl C X.env) fp) cc.inner elt te) (hs : ∀ x, foldedSetIterable iter X.env x = pure x := by intro _; rfl) :
    DF X cc (.ListComp elt [⟨tg, iter, ifs, 0⟩] scope pos) (fLc di g tt te (own.map (·.2))) :=
  PE.imp (pe_lc (g := rG X.K cc.inner sl g) (tt := rT X.K cc.inner tt) (te := rE X.K cc.inner te) hc hN hi ok hg ht he hs) (lc_ok hsl)
end
end Rf
set_option Elab.async false
set_option linter.all false
set_option maxRecDepth 100000
/-! Rf: statements -/
namespace Rf
open PySem PySem.Spec L2
inductive Fl where
  | nx | bk | ct | ret (v : DV)
/-- the object at p is at no owned slot -/
def NotAt (ρ : ENV) (σ : St) (p : Addr) : Prop := ∀ (i : Nat) (m' : M), ρ[i]? = some (some (.ow m')) → σ[i]? ≠ some (some (.ref p))
def PostS (K : PySem.W.Frag) (cc : Cc) (B G : Hp) (Dn : Ends) (r : R Fl) : Prop := match r with
  | .ok .nx ρ' => ∀ σ' G' H', Ext B G G' → Rl K cc B ρ' σ' G' H' → Dn.nx σ' H'
  | .ok .bk ρ' => ∀ σ' G' H', Ext B G G' → Rl K cc B ρ' σ' G' H' → Dn.bk σ' H'
  | .ok .ct ρ' => ∀ σ' G' H', Ext B G G' → Rl K cc B ρ' σ' G' H' → Dn.ct σ' H'
  | .ok (.ret (.sh d)) ρ' => ∀ v σ' G' H', Ext B G G' → Rl K cc B ρ' σ' G' H' → Rp K cc.C G' v d → Dn.rt v H'
  | .ok (.ret (.ow m)) ρ' => ∀ p σ' G' H', Ext B G G' → Rl K cc B ρ' σ' G' H' → Own K cc.C B G' H' p m → NotAt ρ' σ' p → Dn.rt (.ref p) H'
  | .exc e ρ' => ∀ cl dd σ' G' H', Ext B G G' → Rl K cc B ρ' σ' G' H' → ERp K cc.C G' e cl dd → cc.W cl dd σ' H'
  | .bot => False
theorem PostS.ext {K : PySem.W.Frag} {cc : Cc} {B G G1 : Hp} {Dn : Ends} {r : R Fl} (h : PostS K cc B G Dn r) (x : Ext B G G1) : PostS K cc B G1 Dn r := by
  cases r with
  | ok f ρ =>
    cases f with
    | nx => exact fun σ' G' H' e => h σ' G' H' (x.trans e)
    | bk => exact fun σ' G' H' e => h σ' G' H' (x.trans e)
    | ct => exact fun σ' G' H' e => h σ' G' H' (x.trans e)
    | ret v =>
      cases v with
      | sh d => exact fun v σ' G' H' e => h v σ' G' H' (x.trans e)
      | ow m => exact fun v σ' G' H' e => h v σ' G' H' (x.trans e)
  | exc e ρ => exact fun cl dd σ' G' H' e => h cl dd σ' G' H' (x.trans e)
  | bot => exact h
/-- behind an expression of a statement -/
theorem PostS.bind {α β : Type} {K : PySem.W.Frag} {cc : Cc} {V1 : Hp → β → α → Prop} {B G : Hp} {Dn : Ends} {σ : St} {Q' : β → Hp → Prop} {r : R α} {f : α → ENV → R Fl}
    (h : PostS K cc B G Dn (r.bind f))
    (k : ∀ d ρ1 G1 H1 x, Ext B G G1 → Rl K cc B ρ1 σ G1 H1 → V1 G1 x d → PostS K cc B G1 Dn (f d ρ1) → Q' x H1) : Post K cc V1 B G σ Q' r := by
  cases r with
  | ok d ρ1 =>
    intro v G1 H1 e1 R1 p1
    exact k d ρ1 G1 H1 v e1 R1 p1 (PostS.ext (show PostS K cc B G Dn (f d ρ1) from h) e1)
  | exc e ρ1 => exact fun cl dd G' H' e1 R' x => h cl dd σ G' H' e1 R' x
  | bot => exact h
theorem PostS.bindF {K : PySem.W.Frag} {cc : Cc} {B G : Hp} {Dn : Ends} {σ : St} {Q' : V → Hp → Prop} {r : R M} {f : M → ENV → R Fl}
    (h : PostS K cc B G Dn (r.bind f))
    (k : ∀ m ρ1 G1 H1 p, Ext B G G1 → Rl K cc B ρ1 σ G1 H1 → Own K cc.C B G1 H1 p m → NotAt ρ1 σ p → PostS K cc B G1 Dn (f m ρ1) → Q' (.ref p) H1) : PostF K cc B G σ Q' r := by
  cases r with
  | ok d ρ1 =>
    intro p G1 H1 e1 R1 o n
    exact k d ρ1 G1 H1 p e1 R1 o n (PostS.ext (show PostS K cc B G Dn (f d ρ1) from h) e1)
  | exc e ρ1 => exact fun cl dd G' H' e1 R' x => h cl dd σ G' H' e1 R' x
  | bot => exact h
def rS (K : PySem.W.Frag) (cc : Cc) (den : ENV → R Fl) : TS := fun Dn σ H => ∃ B ρ G, Rl K cc B ρ σ G H ∧ PostS K cc B G Dn (den ρ)
def DS (X : Cx) (cc : Cc) (st : Stmt) (den : ENV → R Fl) : Prop := PS X st (rS X.K cc den)
def DSs (X : Cx) (cc : Cc) (st : List Stmt) (den : ENV → R Fl) : Prop := PSs X st (rS X.K cc den)
theorem PostS.here {K : PySem.W.Frag} {cc : Cc} {B G H : Hp} {Dn : Ends} {ρ : ENV} {σ : St} (h : PostS K cc B G Dn (.ok .nx ρ)) (R0 : Rl K cc B ρ σ G H) : Dn.nx σ H := h σ G H (Ext.refl _ _) R0
def sNil : ENV → R Fl := fun ρ => .ok .nx ρ
def sSeq (a b : ENV → R Fl) : ENV → R Fl := fun ρ => match a ρ with
  | .ok .nx ρ1 => b ρ1
  | r => r
section
variable {X : Cx} {cc : Cc} {e o c tg : Expr} {da db : ENV → R D} {pos : Pos} {st : Stmt} {sts : List Stmt} {sa sb : ENV → R Fl} {fa : ENV → R M}
theorem dss_nil : DSs X cc [] sNil := PSs.imp pss_nil fun Dn σ H ⟨B, ρ, G, R0, h⟩ => h.here R0
theorem dss_one (h : DS X cc st sa) : DSs X cc [st] sa := pss_one h
theorem seq_core {K : PySem.W.Frag} {Dn : Ends} {B G : Hp} {ρ : ENV} (h : PostS K cc B G Dn (sSeq sa sb ρ)) : PostS K cc B G { Dn with nx := rS K cc sb Dn } (sa ρ) := by
  unfold sSeq at h
  cases hs : sa ρ with
  | ok f ρ1 =>
    rw [hs] at h
    cases f with
    | nx => exact fun σ' G' H' e R' => ⟨B, ρ1, G', R', PostS.ext h e⟩
    | bk => exact h
    | ct => exact h
    | ret v => cases v with
      | sh d => exact h
      | ow m => exact h
  | exc e ρ1 => rw [hs] at h; exact h
  | bot => rw [hs] at h; exact h
theorem dss_cons (h1 : DS X cc st sa) (h2 : DSs X cc sts sb) : DSs X cc (st :: sts) (sSeq sa sb) := PSs.imp (pss_cons h1 h2) fun Dn σ H ⟨B, ρ, G, R0, h⟩ => ⟨B, ρ, G, R0, seq_core h⟩
def sBreak : ENV → R Fl := fun ρ => .ok .bk ρ
def sCont : ENV → R Fl := fun ρ => .ok .ct ρ
theorem ds_pass : DS X cc (.Pass pos) sNil := PS.imp ps_pass fun Dn σ H ⟨B, ρ, G, R0, h⟩ => h.here R0
theorem ds_break : DS X cc (.Break pos) sBreak := PS.imp ps_break fun Dn σ H ⟨B, ρ, G, R0, h⟩ => h σ G H (Ext.refl _ _) R0
theorem ds_continue : DS X cc (.Continue pos) sCont := PS.imp ps_continue fun Dn σ H ⟨B, ρ, G, R0, h⟩ => h σ G H (Ext.refl _ _) R0
def sExpr (da : ENV → R D) : ENV → R Fl := fun ρ => (da ρ).bind fun _ ρ1 => .ok .nx ρ1
theorem ds_expr (ha : DE X cc e da) (hs : swapsWith e none pos.line X.env = pure false := by rfl) : DS X cc (.Expr e pos) (sExpr da) :=
  PS.imp (ps_expr ha hs) fun Dn σ H ⟨B, ρ, G, R0, h⟩ => ⟨B, ρ, G, R0, h.bind fun d ρ1 G1 H1 x e1 R1 p1 h1 => h1.here R1⟩
def sRet (da : ENV → R D) : ENV → R Fl := fun ρ => (da ρ).bind fun d ρ1 => .ok (.ret (.sh d)) ρ1
theorem ds_ret (ha : DE X cc e da) : DS X cc (.Return (some e) pos) (sRet da) :=
  PS.imp (ps_ret ha) fun Dn σ H ⟨B, ρ, G, R0, h⟩ => ⟨B, ρ, G, R0, h.bind fun d ρ1 G1 H1 x e1 R1 p1 h1 => h1 x σ G1 H1 (Ext.refl _ _) R1 p1⟩
def sRetF (fa : ENV → R M) : ENV → R Fl := fun ρ => (fa ρ).bind fun d ρ1 => .ok (.ret (.ow d)) ρ1
theorem ds_retF (ha : DF X cc e fa) : DS X cc (.Return (some e) pos) (sRetF fa) :=
  PS.imp (ps_ret ha) fun Dn σ H ⟨B, ρ, G, R0, h⟩ => ⟨B, ρ, G, R0, h.bindF fun d ρ1 G1 H1 p e1 R1 o n h1 => h1 p σ G1 H1 (Ext.refl _ _) R1 o n⟩
def sRetN : ENV → R Fl := fun ρ => .ok (.ret (.sh .non)) ρ
theorem ds_retN : DS X cc (.Return none pos) sRetN := PS.imp ps_retN fun Dn σ H ⟨B, ρ, G, R0, h⟩ => h .non σ G H (Ext.refl _ _) R0 .non
theorem Rl.drop {K : PySem.W.Frag} {B : Hp} {ρ : ENV} {σ : St} {G H : Hp} (r : Rl K cc B ρ σ G H) (i : Nat) : Rl K cc B (ρ.set i none) σ G H := by
  have old : ∀ {j : Nat} {x : DV}, (ρ.set i none)[j]? = some (some x) → ρ[j]? = some (some x) ∧ j ≠ i := fun {j x} e => by
    by_cases h : j = i
    · subst h
      by_cases hj : j < ρ.length
      · rw [List.getElem?_set_self hj] at e; cases e
      · rw [List.getElem?_eq_none (by rw [List.length_set]; omega)] at e; cases e
    · rw [List.getElem?_set_ne (Ne.symm h)] at e; exact ⟨e, h⟩
  exact ⟨r.bk, r.gk, by rw [List.length_set]; exact r.ln, fun j d e => r.sh j d (old e).1, fun j m e => r.ow j m (old e).1, fun j k m m' p e1 e2 e3 e4 => r.df j k m m' p (old e1).1 (old e2).1 e3 e4, r.pa, r.kg⟩
/-- return x, x an owned name -/
def sRetV (i : Nat) : ENV → R Fl := fun ρ => match ρ[i]? with
  | some (some (.ow m)) => .ok (.ret (.ow m)) (ρ.set i none)
  | _ => .bot
theorem ds_retV (i : Nat) {x : Str} {p2 : Pos} (hN : X.N[i]? = some x := by rfl) (hv : Vis X.env.scope x := by first | exact Or.inl rfl | exact Or.inr (Or.inl rfl) | exact Or.inr (Or.inr rfl)) (hd : (x == ("__debug__" : Str)) = false := by decide)
    (hcd : (x == ("__classdict__" : Str)) = false := by decide) : DS X cc (.Return (some (.Name x p2)) pos) (sRetV i) := by
  refine PS.imp (ps_ret (pe_var hN hv hd hcd)) fun Dn σ H ⟨B, ρ, G, R0, h⟩ => ?_
  unfold sRetV at h
  split at h
  · rename_i m e
    obtain ⟨p, hp, o⟩ := R0.ow i m e
    refine ⟨_, hp, h p σ G H (Ext.refl _ _) (R0.drop i) o fun j m' e' z => ?_⟩
    have hj : j ≠ i := fun z => by
      subst z
      rw [List.getElem?_set_self (List.getElem?_eq_some_iff.mp e).1] at e'; cases e'
    rw [List.getElem?_set_ne (Ne.symm hj)] at e'
    exact hj (R0.df j i m' m p e' e z hp)
  · exact h.elim
def sIf (c : ENV → R Bool) (a b : ENV → R Fl) : ENV → R Fl := fun ρ => (c ρ).bind fun x ρ1 => if x = true then a ρ1 else b ρ1
theorem ds_if {tc : ENV → R Bool} {s2 : List Stmt} (hc : DT X cc c tc) (ha : DSs X cc sts sa) (hb : DSs X cc s2 sb) : DS X cc (.If c sts s2 pos) (sIf tc sa sb) := by
  refine PS.imp (ps_if hc ha hb) fun Dn σ H ⟨B, ρ, G, R0, h⟩ => ⟨B, ρ, G, R0, h.bind fun d ρ1 G1 H1 x e1 R1 p1 h1 => ?_⟩
  subst p1
  cases x with
  | true => exact iteT ⟨B, ρ1, G1, R1, h1⟩
  | false => exact iteF ⟨B, ρ1, G1, R1, h1⟩

/-! ### stores -/
def sAsg (da : ENV → R D) (g : D → ENV → Option ENV) : ENV → R Fl := fun ρ => (da ρ).bind fun d ρ1 => match g d ρ1 with
  | some ρ2 => .ok .nx ρ2
  | none => .bot
variable {g : D → ENV → Option ENV} {sl : List Nat}
theorem asg_core {K : PySem.W.Frag} {tgt : TG} (k : ∀ v σ H Q, rG K cc sl g v σ H Q → tgt v σ H Q) : ∀ Dn σ H, rS K cc (sAsg da g) Dn σ H → tAsg (rE K cc da) tgt Dn σ H := by
  intro Dn σ H ⟨B, ρ, G, R0, h⟩
  refine ⟨B, ρ, G, R0, h.bind fun d ρ1 G1 H1 x e1 R1 p1 h1 => k _ _ _ _ ?_⟩
  cases hg : g d ρ1 with
  | none => simp only [hg] at h1; exact h1.elim
  | some ρ2 => simp only [hg] at h1; exact ⟨B, ρ1, G1, d, ρ2, R1, p1, hg, fun σ' R2 _ => h1.here R2⟩
theorem ds_asg (ha : DE X cc e da) (hg : DG X cc tg sl g) (hs : swapsWithSole [tg] e pos.line X.env = pure false := by rfl) (hw : swappedStores [tg] e X.env = pure none := by rfl)
    (h1 : (assignEach [tg] X.env).map (·.2) = [assign tg X.env] := by rfl) : DS X cc (.Assign [tg] e pos) (sAsg da g) := PS.imp (ps_asg ha hg hs hw h1) (asg_core fun _ _ _ _ h => h)
theorem gset_core {K : PySem.W.Frag} {i : Nat} (hp : i ∉ cc.pr) : ∀ v σ H Q, rG K cc [i] (gSet i) v σ H Q → gName i v σ H Q := fun v σ H Q ⟨B, ρ, G, d, ρ', R0, p, e, k⟩ => by
  unfold gSet at e
  split at e
  · rename_i h; cases e; exact k _ (R0.store h hp p) ⟨by rw [List.length_set], fun j hj => List.getElem?_set_ne (fun z => hj (by simp [z]))⟩
  · cases e
theorem ds_set {i : Nat} {x : Str} {p2 : Pos} (hN : X.N.Nodup) (ha : DE X cc e da) (hi : X.N[i]? = some x := by rfl) (hx : Loc X.env.scope x := by first | exact Or.inl rfl | exact Or.inr rfl) (hp : cc.pr.contains i = false := by rfl) (hs : swapsWith e (some (.Name x p2)) pos.line X.env = pure false := by rfl)
    (hf : X.fn x = true ∨ X.env.scope.names.lookup x = some .local := by first | exact .inl rfl | exact .inr rfl | assumption) : DS X cc (.Assign [.Name x p2] e pos) (sAsg da (gSet i)) := PS.imp (ps_set hN hi hx ha hs hf) (asg_core (gset_core (np hp)))
/-- x = a fresh object, x owned -/
def sOwn (fa : ENV → R M) (i : Nat) : ENV → R Fl := fun ρ => (fa ρ).bind fun m ρ1 => if i < ρ1.length then .ok .nx (ρ1.set i (some (.ow m))) else .bot
theorem ite_postS {K : PySem.W.Frag} {B G : Hp} {Dn : Ends} {p : Prop} [Decidable p] {r : R Fl} (h : PostS K cc B G Dn (if p then r else .bot)) : p ∧ PostS K cc B G Dn r := by
  by_cases q : p
  · rw [if_pos q] at h; exact ⟨q, h⟩
  · rw [if_neg q] at h; exact h.elim
theorem own_core {K : PySem.W.Frag} {i : Nat} (hp : i ∉ cc.pr) : ∀ Dn σ H, rS K cc (sOwn fa i) Dn σ H → tAsg (rF K cc fa) (gName i) Dn σ H := by
  intro Dn σ H ⟨B, ρ, G, R0, h⟩
  refine ⟨B, ρ, G, R0, h.bindF fun m ρ1 G1 H1 p e1 R1 o n h1 => ?_⟩
  obtain ⟨hi, h1⟩ := ite_postS h1
  exact h1.here (R1.storeO hi hp o n)
theorem ds_own {i : Nat} {x : Str} {p2 : Pos} (hN : X.N.Nodup) (ha : DF X cc e fa) (hi : X.N[i]? = some x := by rfl) (hx : Loc X.env.scope x := by first | exact Or.inl rfl | exact Or.inr rfl) (hp : cc.pr.contains i = false := by rfl) (hs : swapsWith e (some (.Name x p2)) pos.line X.env = pure false := by rfl)
    (hf : X.fn x = true ∨ X.env.scope.names.lookup x = some .local := by first | exact .inl rfl | exact .inr rfl | assumption) : DS X cc (.Assign [.Name x p2] e pos) (sOwn fa i) := PS.imp (ps_set hN hi hx ha hs hf) (own_core (np hp))
/-- x = [.. for ..] on one line -/
theorem ds_ownLc {elt iter : Expr} {ifs : List Expr} {scope : Scope} {own : List (Str × Nat)} {spos py : Pos} {di : ENV → R (List D)} {tt : ENV → R Bool} {te : ENV → R D} {i : Nat} {y : Str} (hc : X.calm = true) (hN : X.N.Nodup) (hi : DI X cc tg iter di)
    (ok : BlkOk X.N X.env.scope scope own) (hsl : ∀ i ∈ sl, i ∈ own.map (·.2))
    (hg : ∀ (s : Shared) (H : Hp) (C : Addr) (cl : List (Str × Addr)) (fp : List Addr), DG (X.blk s H scope (compEnvC scope cl C X.env) fp) cc.inner tg sl g)
    (ht : ∀ (s : Shared) (H : Hp) (C : Addr) (cl : List (Str × Addr)) (fp : List Addr), DTs (X.blk s H scope (compEnvC scope cl C X.env) fp) cc.inner ifs tt)
    (he : ∀ (s : Shared) (H : Hp) (C : Addr) (cl : List (Str × Addr)) (fp : List Addr), DE (X.blk s H scope (compEnvC scope cl C X.env) fp) cc.inner elt te)
    (hsw : swapsWith (.ListComp elt [⟨tg, iter, ifs, 0⟩] scope pos) (some (.Name y py)) spos.line X.env = pure true) (hy : X.N[i]? = some y := by rfl) (hyl : X.env.scope.names.lookup y = some .local := by rfl) (hp : cc.pr.contains i = false := by rfl) (hs : ∀ x, foldedSetIterable iter X.env x = pure x := by intro _; rfl) :
    DS X cc (.Assign [.Name y py] (.ListComp elt [⟨tg, iter, ifs, 0⟩] scope pos) spos) (sOwn (fLc di g tt te (own.map (·.2))) i) :=
  PS.imp (ps_setLc (g := rG X.K cc.inner sl g) (tt := rT X.K cc.inner tt) (te := rE X.K cc.inner te) hc hN hy hyl hsw hi ok hg ht he hs) fun Dn σ H h => lc_ok hsl _ _ _ (own_core (np hp) Dn σ H h)
theorem ds_setLc {elt iter : Expr} {ifs : List Expr} {scope : Scope} {own : List (Str × Nat)} {spos py : Pos} {di : ENV → R (List D)} {tt : ENV → R Bool} {te : ENV → R D} {i : Nat} {y : Str} (hc : X.calm = true) (hN : X.N.Nodup) (hi : DI X cc tg iter di)
    (ok : BlkOk X.N X.env.scope scope own) (hsl : ∀ i ∈ sl, i ∈ own.map (·.2))
    (hg : ∀ (s : Shared) (H : Hp) (C : Addr) (cl : List (Str × Addr)) (fp : List Addr), DG (X.blk s H scope (compEnvC scope cl C X.env) fp) cc.inner tg sl g)
    (ht : ∀ (s : Shared) (H : Hp) (C : Addr) (cl : List (Str × Addr)) (fp : List Addr), DTs (X.blk s H scope (compEnvC scope cl C X.env) fp) cc.inner ifs tt)
    (he : ∀ (s : Shared) (H : Hp) (C : Addr) (cl : List (Str × Addr)) (fp : List Addr), DE (X.blk s H scope (compEnvC scope cl C X.env) fp) cc.inner elt te)
    (hsw : swapsWith (.ListComp elt [⟨tg, iter, ifs, 0⟩] scope pos) (some (.Name y py)) spos.line X.env = pure true) (hy : X.N[i]? = some y := by rfl) (hyl : X.env.scope.names.lookup y = some .local := by rfl) (hp : cc.pr.contains i = false := by rfl) (hs : ∀ x, foldedSetIterable iter X.env x = pure x := by intro _; rfl) :
    DS X cc (.Assign [.Name y py] (.ListComp elt [⟨tg, iter, ifs, 0⟩] scope pos) spos) (sAsg (fun ρ => frz (fLc di g tt te (own.map (·.2)) ρ)) (gSet i)) := by
  refine PS.imp (ps_setLc (g := rG X.K cc.inner sl g) (tt := rT X.K cc.inner tt) (te := rE X.K cc.inner te) hc hN hy hyl hsw hi ok hg ht he hs) fun Dn σ H h => lc_ok hsl _ _ _ ?_
  obtain ⟨B, ρ, G, R0, h⟩ := h
  refine ⟨B, ρ, G, R0, ?_⟩
  dsimp only [sAsg, frz] at h
  cases hf : fLc di g tt te (own.map (·.2)) ρ with
  | ok m ρ1 =>
    rw [hf] at h
    intro p G1 H1 e1 R1 o nf
    dsimp only [R.bind, gSet] at h
    obtain ⟨x, hx, hm⟩ := o.at_
    by_cases hi : i < ρ1.length
    · rw [if_pos hi] at h
      have R2 := R1.storeO hi (np hp) o nf
      have he : (ρ1.set i (some (.ow m)))[i]? = some (some (.ow m)) := by rw [List.getElem?_set_self hi]
      obtain ⟨p', G', h1, h2, h3, h4⟩ := R2.freeze he
      rw [List.set_set] at h3
      exact h _ G' H1 (e1.trans h2) h3
    · rw [if_neg hi] at h; exact h.elim
  | exc x ρ1 =>
    rw [hf] at h
    exact fun cl dd G' H' e1 R' x => h cl dd σ G' H' e1 R' x
  | bot => rw [hf] at h; exact h.elim
/-- a, b = x, y -/
def sPar (i j : Nat) (da db : ENV → R D) : ENV → R Fl := fun ρ => (da ρ).bind fun x ρ1 => (db ρ1).bind fun y ρ2 => if i < ρ2.length ∧ j < ρ2.length then .ok .nx ((ρ2.set i (some (.sh x))).set j (some (.sh y))) else .bot
theorem ds_par {a b : Expr} {i j : Nat} {x y : Str} {px py pt : Pos} {kt k2 : Nat} {pt2 : Pos} (hc : X.calm = true) (hN : X.N.Nodup) (ha : DE X cc a da) (hb : DE X cc b db) (hi : X.N[i]? = some x := by rfl) (hj : X.N[j]? = some y := by rfl) (hij : i ≠ j := by decide)
    (hx : X.env.scope.names.lookup x = some .local := by rfl) (hy : X.env.scope.names.lookup y = some .local := by rfl)
    (hw : swappedStores [.Tuple [.Name x px, .Name y py] kt pt] (.Tuple [a, b] k2 pt2) X.env = pure (some [x, y]) := by rfl)
    (hs : swapsWithSole [.Tuple [.Name x px, .Name y py] kt pt] (.Tuple [a, b] k2 pt2) pos.line X.env = pure false := by rfl) (hpi : cc.pr.contains i = false := by rfl) (hpj : cc.pr.contains j = false := by rfl)
    (hs3 : starEach [a, b] X.env = (false, eval a X.env) :: starEach [b] X.env := by rfl) (hs4 : starEach [b] X.env = (false, eval b X.env) :: starEach [] X.env := by rfl) :
    DS X cc (.Assign [.Tuple [.Name x px, .Name y py] kt pt] (.Tuple [a, b] k2 pt2) pos) (sPar i j da db) := by
  refine PS.imp (ps_par hc hN hi hj hij hx hy (pa_cons ha (pa_cons hb pa_nil hs4) hs3) hw hs) fun Dn σ H ⟨B, ρ, G, R0, h⟩ => ⟨B, ρ, G, R0, h.bind fun d1 ρ1 G1 H1 x e1 R1 p1 h1 => ⟨B, ρ1, G1, R1, h1.bind fun d2 ρ2 G2 H2 y e2 R2 p2 h2 => ?_⟩⟩
  obtain ⟨⟨hi', hj'⟩, h2⟩ := ite_postS h2
  exact ⟨x, y, rfl, h2.here ((R2.store hi' (np hpi) (p1.mono e2.gg)).store (by rw [List.length_set]; exact hj') (np hpj) p2)⟩

/-! ### an owned list is changed -/
theorem Rl.mutate {K : PySem.W.Frag} {B : Hp} {ρ : ENV} {σ : St} {G H : Hp} {i : Nat} {p : Addr} {m m' : M} {o : HO} (r : Rl K cc B ρ σ G H) (e : ρ[i]? = some (some (.ow m))) (hp : σ[i]? = some (some (.ref p))) (hm : HoldsM K cc.C G o m') : Rl K cc B (ρ.set i (some (.ow m'))) σ G (upd H p o) := by
  obtain ⟨p', h1, ow⟩ := r.ow i m e
  rw [hp] at h1; cases h1
  have il : i < ρ.length := (List.getElem?_eq_some_iff.mp e).1
  have old : ∀ (j : Nat) (x : M), (ρ.set i (some (.ow m')))[j]? = some (some (.ow x)) → ∃ y, ρ[j]? = some (some (.ow y)) := fun j x q => by
    by_cases h : j = i
    · subst h; exact ⟨m, e⟩
    · rw [List.getElem?_set_ne (Ne.symm h)] at q; exact ⟨x, q⟩
  refine ⟨fun b u q => ?_, fun b u q => ?_, by rw [List.length_set]; exact r.ln, fun j d q => ?_, fun j x q => ?_, fun j k m1 m2 q q1 q2 q3 q4 => ?_, r.pa, r.kg⟩
  · have ne : b ≠ p := fun z => by subst z; rw [ow.nb] at q; cases q
    rw [upd_ne ne]; exact r.bk b u q
  · have ne : b ≠ p := fun z => by subst z; rw [ow.ng] at q; cases q
    rw [upd_ne ne]; exact r.gk b u q
  · by_cases h : j = i
    · subst h; rw [List.getElem?_set_self il] at q; cases q
    · rw [List.getElem?_set_ne (Ne.symm h)] at q; exact r.sh j d q
  · by_cases h : j = i
    · subst h
      rw [List.getElem?_set_self il] at q; cases q
      exact ⟨p, hp, ow.nb, ow.ng, o, upd_same, hm⟩
    · rw [List.getElem?_set_ne (Ne.symm h)] at q
      obtain ⟨p', h1, o'⟩ := r.ow j x q
      have ne : p' ≠ p := fun z => by subst z; exact h (r.df j i x m p' q e h1 hp)
      obtain ⟨y, hy, hm'⟩ := o'.at_
      exact ⟨p', h1, o'.nb, o'.ng, y, by rw [upd_ne ne]; exact hy, hm'⟩
  · obtain ⟨y1, q1⟩ := old j m1 q1
    obtain ⟨y2, q2⟩ := old k m2 q2
    exact r.df j k y1 y2 q q1 q2 q3 q4
theorem lst_ty {K : PySem.W.Frag} {H : Hp} {p : Addr} {xs : List V} (h : H p = some (.lst xs)) : tyV K "list" (.ref p) H := Or.inl ⟨rfl, _, Or.inl (Or.inl h)⟩
/-- an owned list at the slot i -/
theorem Rl.lstAt {K : PySem.W.Frag} {B : Hp} {ρ : ENV} {σ : St} {G H : Hp} {i : Nat} {ds : List D} (r : Rl K cc B ρ σ G H) (e : ρ[i]? = some (some (.ow (.lst ds)))) : ∃ p xs, σ[i]? = some (some (.ref p)) ∧ H p = some (.lst xs) ∧ RpL K cc.C G xs ds := by
  obtain ⟨p, hp, o⟩ := r.ow i _ e
  obtain ⟨x, hx, xs, rfl, rr⟩ := o.at_
  exact ⟨p, xs, hp, hx, rr⟩
/-- xs.append(e) -/
def sApp (i : Nat) (da : ENV → R D) : ENV → R Fl := fun ρ => match ρ[i]? with
  | some (some (.ow (.lst _))) => (da ρ).bind fun d ρ1 => match ρ1[i]? with
    | some (some (.ow (.lst ds))) => if ds.length < sizeLine then .ok .nx (ρ1.set i (some (.ow (.lst (ds ++ [d]))))) else .bot
    | _ => .bot
  | _ => .bot
theorem ds_app (i : Nat) {x : Str} {p2 p3 p4 : Pos} (ha : DE X cc e da) (hN : X.N[i]? = some x := by rfl) (hv : Vis X.env.scope x := by first | exact Or.inl rfl | exact Or.inr (Or.inl rfl) | exact Or.inr (Or.inr rfl)) (hd : (x == ("__debug__" : Str)) = false := by decide)
    (hcd : (x == ("__classdict__" : Str)) = false := by decide) (hs : swapsWith (.Call (.Attribute (.Name x p2) "append" p3) [e] [] p4) none pos.line X.env = pure false := by rfl)
    (hfew : ((backTo p4 (starEach (e :: []) X.env)).all (fun x => !x.1) && (backToKw p4 (keywordEach [] X.env)).all (fun x => x.1.isSome)
      && decide ((e :: []).length + ([] : List Keyword).length + (if ([] : List Keyword).isEmpty then 0 else 1) < 30)) = true := by rfl) (hline : (p3.endLine == p4.line) = true := by rfl)
    (he : starEach [e] X.env = (false, eval e X.env) :: starEach [] X.env := by rfl) (hpl : (backTo p4 (starEach [] X.env)).any (·.1) = false := by rfl) (hb : attributeBase (.Name x p2) "append" X.env (eval (.Name x p2) X.env) = eval (.Name x p2) X.env := by rfl) : DS X cc (.Expr (.Call (.Attribute (.Name x p2) "append" p3) [e] [] p4) pos) (sApp i da) := by
  refine PS.imp (ps_expr (pe_bm PySem.F.plainAttrs_list PySem.F.slot_list_append PySem.F.type_list_append mt_append (pe_var hN hv hd hcd) (pa_cons ha pa_nil he) hb hfew hline he hpl) hs) fun Dn σ H ⟨B, ρ, G, R0, h⟩ => ?_
  unfold sApp at h
  split at h
  rotate_left
  · exact h.elim
  rename_i ds0 e0
  obtain ⟨p, xs, hp, hx, _⟩ := R0.lstAt e0
  refine ⟨_, hp, lst_ty hx, B, ρ, G, R0, h.bind fun d ρ1 G1 H1 y e1 R1 p1 h1 => ?_⟩
  split at h1
  rotate_left
  · exact h1.elim
  rename_i ds e2
  obtain ⟨hz, h1⟩ := ite_postS h1
  obtain ⟨p', xs', hp', hx', rr⟩ := R1.lstAt e2
  rw [hp] at hp'; cases hp'
  exact ⟨p, xs', y, rfl, rfl, hx', by rw [rr.length]; exact hz, h1.here (R1.mutate e2 hp ⟨_, rfl, rr.append (.cons p1 .nil)⟩)⟩
/-- xs[k] = e -/
def sSub (i : Nat) (da di : ENV → R D) : ENV → R Fl := fun ρ => (da ρ).bind fun d ρ1 => match ρ1[i]? with
  | some (some (.ow (.lst _))) => (di ρ1).bind fun k ρ2 => match k, ρ2[i]? with
    | .int k, some (some (.ow (.lst ds))) => match ixN ds.length k with
      | some j => .ok .nx (ρ2.set i (some (.ow (.lst (ds.set j d)))))
      | none => .bot
    | _, _ => .bot
  | _ => .bot
theorem ds_sub (i : Nat) {x : Str} {p2 p3 : Pos} {k : Expr} {di : ENV → R D} (ha : DE X cc e da) (hk : DE X cc k di) (hN : X.N[i]? = some x := by rfl) (hv : Vis X.env.scope x := by first | exact Or.inl rfl | exact Or.inr (Or.inl rfl) | exact Or.inr (Or.inr rfl)) (hd : (x == ("__debug__" : Str)) = false := by decide)
    (hcd : (x == ("__classdict__" : Str)) = false := by decide)
    (hasg : ∀ v, assign (.Subscript (.Name x p2) k p3) X.env v = (do
      let ov ← holding [v] (eval (.Name x p2) X.env)
      let iv ← holding [v, ov] (eval k X.env)
      standAt p3
      holding [v, ov, iv] (setItem ov iv v)
      release [v, ov, iv] []) := by intro _; rfl)
    (hs : swapsWithSole [.Subscript (.Name x p2) k p3] e pos.line X.env = pure false := by rfl) (hw : swappedStores [.Subscript (.Name x p2) k p3] e X.env = pure none := by rfl)
    (h1 : (assignEach [.Subscript (.Name x p2) k p3] X.env).map (·.2) = [assign (.Subscript (.Name x p2) k p3) X.env] := by rfl) : DS X cc (.Assign [.Subscript (.Name x p2) k p3] e pos) (sSub i da di) := by
  refine PS.imp (ps_asg ha (pg_sub (pe_var hN hv hd hcd) hk set_list hasg) hs hw h1) fun Dn σ H ⟨B, ρ, G, R0, h⟩ => ⟨B, ρ, G, R0, h.bind fun d ρ1 G1 H1 y e1 R1 p1 h1 => ?_⟩
  split at h1
  rotate_left
  · exact h1.elim
  rename_i ds0 e0
  obtain ⟨p, xs, hp, hx, _⟩ := R1.lstAt e0
  refine ⟨_, hp, B, ρ1, G1, R1, h1.bind fun kd ρ2 G2 H2 kv e2 R2 p2 h2 => ?_⟩
  split at h2
  rotate_left
  · exact h2.elim
  rename_i k' ds e3
  cases p2 with
  | int k' =>
    obtain ⟨p', xs', hp', hx', rr⟩ := R2.lstAt e3
    rw [hp] at hp'; cases hp'
    cases hj : ixN ds.length k' with
    | none => simp only [hj] at h2; exact h2.elim
    | some j =>
      simp only [hj] at h2
      exact ⟨p, xs', k', j, rfl, rfl, hx', by rw [rr.length]; exact hj, h2.here (R2.mutate e3 hp ⟨_, rfl, rr.set (p1.mono e2.gg) j⟩)⟩
/-- x += e, x -= e of ints -/
def sAug (i : Nat) (f : Int → Int → Int) (da : ENV → R D) : ENV → R Fl := fun ρ => match ρ[i]? with
  | some (some (.sh (.int a))) => (da ρ).bind fun d ρ1 => match d with
    | .int b => if i < ρ1.length then .ok .nx (ρ1.set i (some (.sh (.int (f a b))))) else .bot
    | _ => .bot
  | _ => .bot
theorem ds_aug {op : Operator} {f : Int → Int → Int} (hop : PIp X op (ipI f)) {i : Nat} {x : Str} {p2 : Pos} (hN : X.N.Nodup) (ha : DE X cc e da) (hi : X.N[i]? = some x := by rfl) (hx : Loc X.env.scope x := by first | exact Or.inl rfl | exact Or.inr rfl) (hp : cc.pr.contains i = false := by rfl)
    (hf : X.fn x = true ∨ X.env.scope.names.lookup x = some .local := by first | exact .inl rfl | exact .inr rfl | assumption) : DS X cc (.AugAssign (.Name x p2) op e pos) (sAug i f da) := by
  refine PS.imp (ps_aug hN hi hx ha hop hf) fun Dn σ H ⟨B, ρ, G, R0, h⟩ => ?_
  unfold sAug at h
  split at h
  rotate_left
  · exact h.elim
  rename_i a e0
  obtain ⟨v, hv, pv⟩ := R0.sh i _ e0
  cases pv
  refine ⟨_, hv, B, ρ, G, R0, h.bind fun d ρ1 G1 H1 y e1 R1 p1 h1 => ?_⟩
  cases p1 with
  | int b =>
    obtain ⟨hi, h1⟩ := ite_postS h1
    exact ⟨a, b, rfl, rfl, h1.here (R1.store hi (np hp) (.int _))⟩
  | _ => exact h1.elim

/-! ### loops -/
def forL (g : D → ENV → Option ENV) (body : ENV → R Fl) : List D → ENV → R Fl
  | [], ρ => .ok .nx ρ
  | d :: ds, ρ => match g d ρ with
    | none => .bot
    | some ρ1 => match body ρ1 with
      | .ok .nx ρ2 => forL g body ds ρ2
      | .ok .ct ρ2 => forL g body ds ρ2
      | .ok .bk ρ2 => .ok .nx ρ2
      | .ok (.ret v) ρ2 => .ok (.ret v) ρ2
      | .exc e ρ2 => .exc e ρ2
      | .bot => .bot
def sFor (di : ENV → R (List D)) (g : D → ENV → Option ENV) (body : ENV → R Fl) : ENV → R Fl := fun ρ => (di ρ).bind fun ds ρ1 => forL g body ds ρ1
theorem ds_for {iter : Expr} {body : List Stmt} {di : ENV → R (List D)} {sb : ENV → R Fl} (hp : PassesOwn (model X.prog X.w) X.A X.env X.xe) (hc : X.calm = true) (hi : DI X cc tg iter di) (hg : DG X cc tg sl g) (hb : DSs X cc body sb)
    (hs : ∀ x, foldedSetIterable iter X.env x = pure x := by intro _; rfl) : DS X cc (.For tg iter body [] pos) (sFor di g sb) := by
  refine PS.imp (ps_for (g := rG X.K cc sl g) (tb := rS X.K cc sb) hp hc hi hg hb hs) fun Dn σ H ⟨B, ρ, G, R0, h⟩ => ⟨B, ρ, G, R0, h.bind fun ds ρ1 G1 H1 J e1 R1 w h1 => ?_⟩
  obtain ⟨gd, Y, wlk, hgd, hY⟩ := w.ex
  refine for_it wlk (fun i σ H => ∃ ρi Gi, Ext B G1 Gi ∧ Rl X.K cc B ρi σ Gi H ∧ PostS X.K cc B Gi Dn (forL g sb (ds.drop i) ρi)) ⟨ρ1, G1, Ext.refl _ _, R1, h1⟩ (fun i σ H _ ⟨ρi, Gi, ex, R, _⟩ => hgd Gi H ex.gg R.gk) ?_ ?_
  · rintro i x σ H H' hi ⟨ρi, Gi, ex, R, hq⟩ y
    obtain ⟨d, G3, hd, g3, p3⟩ := hY i Gi H x H' hi ex.gg R.gk y
    have hdrop : ds.drop i = d :: ds.drop (i + 1) := by
      obtain ⟨h1, h2⟩ := List.getElem?_eq_some_iff.mp hd
      rw [← h2]; exact List.drop_eq_getElem_cons h1
    rw [hdrop] at hq
    unfold forL at hq
    have R' := R.grow g3
    have x3 := g3.ext R.bk
    cases hgd' : g d ρi with
    | none => simp only [hgd'] at hq; exact hq.elim
    | some ρ1' =>
      simp only [hgd'] at hq
      refine ⟨B, ρi, G3, d, ρ1', R', p3, hgd', fun σ2 R2 _ => ⟨B, ρ1', G3, R2, ?_⟩⟩
      have hq := hq.ext x3
      cases hb : sb ρ1' with
      | ok f ρ2 =>
        rw [hb] at hq
        cases f with
        | nx => exact fun σ' G' H' e R4 => ⟨ρ2, G', ex.trans (x3.trans e), R4, PostS.ext hq e⟩
        | ct => exact fun σ' G' H' e R4 => ⟨ρ2, G', ex.trans (x3.trans e), R4, PostS.ext hq e⟩
        | bk => exact hq
        | ret v => cases v with
          | sh d => exact hq
          | ow m => exact hq
      | exc e ρ2 => rw [hb] at hq; exact hq
      | bot => rw [hb] at hq; exact hq
  · rintro σ H ⟨ρi, Gi, ex, R, hq⟩
    rw [List.drop_length] at hq
    exact PostS.here hq R
def whileF (c : ENV → R Bool) (body : ENV → R Fl) : Nat → ENV → R Fl
  | 0, _ => .bot
  | n + 1, ρ => (c ρ).bind fun b ρ1 => if b = true then match body ρ1 with
      | .ok .nx ρ2 => whileF c body n ρ2
      | .ok .ct ρ2 => whileF c body n ρ2
      | .ok .bk ρ2 => .ok .nx ρ2
      | r => r
    else .ok .nx ρ1
def sWhile (n : ENV → Nat) (c : ENV → R Bool) (body : ENV → R Fl) : ENV → R Fl := fun ρ => whileF c body (n ρ) ρ
theorem ds_while {body : List Stmt} {tc : ENV → R Bool} {sb : ENV → R Fl} (n : ENV → Nat) (hp : PassesOwn (model X.prog X.w) X.A X.env X.xe) (hc : DT X cc c tc) (hb : DSs X cc body sb) : DS X cc (.While c body [] pos) (sWhile n tc sb) := by
  refine PS.imp (ps_while hp hc hb) fun Dn σ H ⟨B, ρ, G, R0, h⟩ => ⟨fun m σ H => ∃ ρi Gi, Ext B G Gi ∧ Rl X.K cc B ρi σ Gi H ∧ PostS X.K cc B Gi Dn (whileF tc sb m ρi), ⟨n ρ, ρ, G, Ext.refl _ _, R0, h⟩, ?_⟩
  rintro m σ H ⟨ρi, Gi, ex, R, hq⟩
  cases m with
  | zero => exact hq.elim
  | succ m =>
    refine ⟨B, ρi, Gi, R, PostS.bind (show PostS X.K cc B Gi Dn ((tc ρi).bind _) from hq) fun b ρ1 G1 H1 b' e1 R1 eb hq => ?_⟩
    subst eb
    cases b' with
    | false =>
      exact iteF (PostS.here hq R1)
    | true =>
      refine iteT ⟨fun σ' H' => ∃ ρi Gi, Ext B G Gi ∧ Rl X.K cc B ρi σ' Gi H' ∧ PostS X.K cc B Gi Dn (whileF tc sb m ρi), fun σ' H' h => ⟨m, Nat.lt_succ_self m, h⟩, B, ρ1, G1, R1, ?_⟩
      simp only [if_true] at hq
      have x1 := ex.trans e1
      cases hb : sb ρ1 with
      | ok f ρ2 =>
        rw [hb] at hq
        cases f with
        | nx => exact fun σ' G' H' e R4 => ⟨ρ2, G', x1.trans e, R4, PostS.ext hq e⟩
        | ct => exact fun σ' G' H' e R4 => ⟨ρ2, G', x1.trans e, R4, PostS.ext hq e⟩
        | bk => exact hq
        | ret v => cases v with
          | sh d => exact hq
          | ow m => exact hq
      | exc e ρ2 => rw [hb] at hq; exact hq
      | bot => rw [hb] at hq; exact hq
end
end Rf
set_option Elab.async false
set_option linter.all false
set_option maxRecDepth 100000
/-! Rf: defs and calls -/
namespace Rf
open PySem PySem.Spec L2
/-- what a def does, from its arguments: its value and what its owned arguments hold behind it -/
inductive FO where
  | ok (v : DV) (ms : List M) | exc (e : EX) (ms : List M) | bot
inductive AR (K : PySem.W.Frag) (C : Nat → Addr) (B G H : Hp) : List V → List DV → Prop
  | nil : AR K C B G H [] []
  | sh {v : V} {d : D} {vs : List V} {ds : List DV} (h : Rp K C G v d) (r : AR K C B G H vs ds) : AR K C B G H (v :: vs) (.sh d :: ds)
  | ow {p : Addr} {m : M} {vs : List V} {ds : List DV} (h : Own K C B G H p m) (r : AR K C B G H vs ds) : AR K C B G H (.ref p :: vs) (.ow m :: ds)
inductive Outs (K : PySem.W.Frag) (C : Nat → Addr) (B G H : Hp) : List V → List DV → List M → Prop
  | nil : Outs K C B G H [] [] []
  | sh {v : V} {d : D} {vs : List V} {ds : List DV} {ms : List M} (r : Outs K C B G H vs ds ms) : Outs K C B G H (v :: vs) (.sh d :: ds) ms
  | ow {p : Addr} {m m' : M} {vs : List V} {ds : List DV} {ms : List M} (h : Own K C B G H p m') (r : Outs K C B G H vs ds ms) : Outs K C B G H (.ref p :: vs) (.ow m :: ds) (m' :: ms)
/-- owned arguments stand apart -/
def Apart (vs : List V) (ds : List DV) : Prop := ∀ (i j : Nat) (m m' : M) (p : Addr), ds[i]? = some (.ow m) → ds[j]? = some (.ow m') → vs[i]? = some (.ref p) → vs[j]? = some (.ref p) → i = j
def NotOf (vs : List V) (ds : List DV) (p : Addr) : Prop := ∀ (i : Nat) (m : M), ds[i]? = some (.ow m) → vs[i]? ≠ some (.ref p)
def ValR (K : PySem.W.Frag) (C : Nat → Addr) (B G H : Hp) (vs : List V) (ds : List DV) (x : V) : DV → Prop
  | .sh d => Rp K C G x d
  | .ow m => ∃ p, x = .ref p ∧ Own K C B G H p m ∧ NotOf vs ds p
/-- a def's promise, by what it does -/
def spF (K : PySem.W.Frag) (C : Nat → Addr) (n : Nat) (F : List DV → FO) : Sp := fun vs H Q E => ∃ ds B G, vs.length = n ∧ Same B H ∧ Same G H ∧ AR K C B G H vs ds ∧ Apart vs ds ∧
  match F ds with
  | .ok v ms => ∀ x G' H', Ext B G G' → Same B H' → Same G' H' → Outs K C B G' H' vs ds ms → ValR K C B G' H' vs ds x v → Q x H'
  | .exc e ms => ∀ cl dd G' H', Ext B G G' → Same B H' → Same G' H' → Outs K C B G' H' vs ds ms → ERp K C G' e cl dd → E cl dd H'
  | .bot => False
theorem AR.length {K : PySem.W.Frag} {C : Nat → Addr} {B G H : Hp} : ∀ {vs : List V} {ds : List DV}, AR K C B G H vs ds → vs.length = ds.length
  | _, _, .nil => rfl
  | _, _, .sh _ r => congrArg (· + 1) r.length
  | _, _, .ow _ r => congrArg (· + 1) r.length
theorem AR.getSh {K : PySem.W.Frag} {C : Nat → Addr} {B G H : Hp} : ∀ {vs : List V} {ds : List DV} {i : Nat} {d : D}, AR K C B G H vs ds → ds[i]? = some (.sh d) → ∃ v, vs[i]? = some v ∧ Rp K C G v d
  | _, _, i, d, .nil, e => by simp at e
  | _, _, 0, d, .sh h _, e => by simp at e; subst e; exact ⟨_, rfl, h⟩
  | _, _, 0, d, .ow h _, e => by simp at e
  | _, _, i + 1, d, .sh _ r, e => by obtain ⟨v, h1, h2⟩ := AR.getSh (i := i) (d := d) r (by simpa using e); exact ⟨v, by simpa using h1, h2⟩
  | _, _, i + 1, d, .ow _ r, e => by obtain ⟨v, h1, h2⟩ := AR.getSh (i := i) (d := d) r (by simpa using e); exact ⟨v, by simpa using h1, h2⟩
theorem AR.getOw {K : PySem.W.Frag} {C : Nat → Addr} {B G H : Hp} : ∀ {vs : List V} {ds : List DV} {i : Nat} {m : M}, AR K C B G H vs ds → ds[i]? = some (.ow m) → ∃ p, vs[i]? = some (.ref p) ∧ Own K C B G H p m
  | _, _, i, d, .nil, e => by simp at e
  | _, _, 0, d, .sh h _, e => by simp at e
  | _, _, 0, d, .ow h _, e => by simp at e; subst e; exact ⟨_, rfl, h⟩
  | _, _, i + 1, d, .sh _ r, e => by obtain ⟨v, h1, h2⟩ := AR.getOw (i := i) (m := d) r (by simpa using e); exact ⟨v, by simpa using h1, h2⟩
  | _, _, i + 1, d, .ow _ r, e => by obtain ⟨v, h1, h2⟩ := AR.getOw (i := i) (m := d) r (by simpa using e); exact ⟨v, by simpa using h1, h2⟩
/-- the places of owned arguments -/
def owPos : Nat → List DV → List Nat
  | _, [] => []
  | k, .sh _ :: r => owPos (k + 1) r
  | k, .ow _ :: r => k :: owPos (k + 1) r
theorem owPos_at : ∀ (ds : List DV) (k i : Nat), i ∈ owPos k ds → ∃ j m, i = k + j ∧ ds[j]? = some (.ow m)
  | [], _, _, h => by cases h
  | .sh d :: r, k, i, h => by
    obtain ⟨j, m, e, q⟩ := owPos_at r (k + 1) i h
    exact ⟨j + 1, m, by omega, by simpa using q⟩
  | .ow m :: r, k, i, h => by
    rcases List.mem_cons.mp h with h | h
    · exact ⟨0, m, by omega, rfl⟩
    · obtain ⟨j, m', e, q⟩ := owPos_at r (k + 1) i h
      exact ⟨j + 1, m', by omega, by simpa using q⟩
/-- what they hold at the end -/
def outsE : Nat → List DV → ENV → Option (List M)
  | _, [], _ => some []
  | k, .sh _ :: r, ρ => outsE (k + 1) r ρ
  | k, .ow _ :: r, ρ => match ρ[k]? with
    | some (some (.ow m)) => (outsE (k + 1) r ρ).map (m :: ·)
    | _ => none
def startE (n : Nat) (ds : List DV) : ENV := ds.map some ++ List.replicate (n - ds.length) none
def runF (pr : List Nat) (n : Nat) (den : ENV → R Fl) : List DV → FO := fun ds => if owPos 0 ds = pr then match den (startE n ds) with
  | .ok (.ret v) ρ => match outsE 0 ds ρ with | some ms => .ok v ms | none => .bot
  | .ok .nx ρ => match outsE 0 ds ρ with | some ms => .ok (.sh .non) ms | none => .bot
  | .exc e ρ => match outsE 0 ds ρ with | some ms => .exc e ms | none => .bot
  | _ => .bot
  else .bot
def adOf (vs : List V) (i : Nat) : Addr := match vs[i]? with
  | some (.ref p) => p
  | _ => 0
section
variable {P : Program} {w : World} {K : PySem.W.Frag} {mg : Str → Option Value} {base : Heap} {C : Nat → Addr}
theorem startE_get {n : Nat} {ds : List DV} {i : Nat} {x : DV} (h : (startE n ds)[i]? = some (some x)) : ds[i]? = some x := by
  unfold startE at h
  by_cases hi : i < ds.length
  · rw [List.getElem?_append_left (by rw [List.length_map]; exact hi), List.getElem?_map] at h
    cases e : ds[i]? with
    | none => rw [e] at h; cases h
    | some y => rw [e] at h; cases h; rfl
  · rw [List.getElem?_append_right (by rw [List.length_map]; omega)] at h
    obtain ⟨h1, h2⟩ := List.getElem?_eq_some_iff.mp h
    rw [List.getElem_replicate] at h2; cases h2
theorem start_get {N : List Str} {vs : List V} {i : Nat} {v : V} (h : vs[i]? = some v) : (L2.start N vs)[i]? = some (some v) := by
  unfold L2.start
  have hi := (List.getElem?_eq_some_iff.mp h).1
  rw [List.getElem?_append_left (by rw [List.length_map]; exact hi), List.getElem?_map, h]; rfl
theorem outs_of {cc : Cc} {B G' H' G0 H0 : Hp} {ρ : ENV} {σ : St} (R : Rl K cc B ρ σ G' H') : ∀ {vs : List V} {ds : List DV} {k : Nat} {ms : List M}, AR K cc.C B G0 H0 vs ds → (∀ j p, vs[j]? = some (.ref p) → (∃ m, ds[j]? = some (.ow m)) → σ[k + j]? = some (some (.ref p))) →
    outsE k ds ρ = some ms → Outs K cc.C B G' H' vs ds ms
  | _, _, k, ms, .nil, _, e => by cases e; exact .nil
  | _, _, k, ms, .sh h r, hσ, e => .sh (outs_of R (k := k + 1) r (fun j p h1 ⟨m, h2⟩ => by have := hσ (j + 1) p (by simpa using h1) ⟨m, by simpa using h2⟩; rw [show k + (j + 1) = k + 1 + j by omega] at this; exact this) e)
  | _, _, k, ms, .ow (p := p) (m := m0) h r, hσ, e => by
    unfold outsE at e
    split at e
    · rename_i m hm
      cases ho : outsE (k + 1) _ ρ with
      | none => rw [ho] at e; cases e
      | some ms' =>
        rw [ho] at e; cases e
        have hp := hσ 0 p rfl ⟨m0, rfl⟩
        obtain ⟨p', h1, o⟩ := R.ow k m hm
        rw [Nat.add_zero, h1] at hp
        cases hp
        exact .ow o (outs_of R (k := k + 1) r (fun j p h1 ⟨m, h2⟩ => by have := hσ (j + 1) p (by simpa using h1) ⟨m, by simpa using h2⟩; rw [show k + (j + 1) = k + 1 + j by omega] at this; exact this) ho)
    · cases e
/-- THE RULE: a def by the denotation of its body -/
theorem fn_ok {x qual : Str} {st : Stmt} {f : Addr} {fd : FuncData} {N ps : List Str} {k : Nat} (F : Fun K x qual st f fd) (S : FnScope N ps (defScope st)) (pr : List Nat) {den : ENV → R Fl} (hlen : ps.length ≤ N.length)
    (hb : ∀ (cdv : Value) (A : Around) (outer : List Env) (s : Shared) (H : Hp) (E : XK) (ad : Nat → Addr), Room k (A.deeper (PyProof.Rows.envOfC qual (defScope st) s.heap.objs.size f cdv)) →
      DSs (cxOf (L2.CX P w) P w K mg base N qual (defScope st) f cdv A outer s H E) ⟨C, fun cl d _ H => E cl d H, pr, ad, fun _ => none⟩ (defBody st) den) : FnOk P w K mg base (L2.CX P w) (k + 1) f fd ps (spF K C ps.length (runF pr N.length den)) := by
  refine F.okX S (fun vs H Q E h => ?_) (fun cdv A outer s H vs Q E hr h => ?_)
  · obtain ⟨ds, B, G, e, _⟩ := h
    exact e
  · obtain ⟨ds, B, G, hn, sB, sG, ar, ap, hF⟩ := h
    have hpos : owPos 0 ds = pr := by
      unfold runF at hF
      by_cases q : owPos 0 ds = pr
      · exact q
      · rw [if_neg q] at hF; exact hF.elim
    have hl := ar.length
    have R0 : Rl K ⟨C, fun cl d _ H => E cl d H, pr, adOf vs, fun _ => none⟩ B (startE N.length ds) (L2.start N vs) G H := by
      refine ⟨sB, sG, ?_, fun i d e => ?_, fun i m e => ?_, fun i j m m' p e1 e2 e3 e4 => ?_, fun i hi => ?_, fun _ _ e => nomatch e⟩
      · unfold L2.start startE
        rw [List.length_append, List.length_append, List.length_map, List.length_map, List.length_replicate, List.length_replicate, hl]
      · obtain ⟨v, h1, h2⟩ := ar.getSh (startE_get e)
        exact ⟨v, start_get h1, h2⟩
      · obtain ⟨p, h1, h2⟩ := ar.getOw (startE_get e)
        exact ⟨p, start_get h1, h2⟩
      · have g1 := startE_get e1
        have g2 := startE_get e2
        obtain ⟨p1, h1, _⟩ := ar.getOw g1
        obtain ⟨p2, h2, _⟩ := ar.getOw g2
        rw [start_get h1] at e3
        rw [start_get h2] at e4
        cases e3; cases e4
        exact ap i j m m' _ g1 g2 h1 h2
      · have hi : i ∈ pr := hi
        rw [← hpos] at hi
        obtain ⟨j, m, e, q⟩ := owPos_at ds 0 i hi
        rw [Nat.zero_add] at e
        subst e
        obtain ⟨p, h1, _⟩ := ar.getOw q
        rw [start_get h1]
        show _ = some (some (V.ref (adOf vs i)))
        unfold adOf
        rw [h1]
    refine ⟨_, hb cdv A outer s H E (adOf vs) hr, B, startE N.length ds, G, R0, ?_⟩
    unfold runF at hF
    rw [if_pos hpos] at hF
    have pos : ∀ {j : Nat} {m : M}, ds[j]? = some (.ow m) → j ∈ pr := by
      have go : ∀ (ds : List DV) (k j : Nat) (m : M), ds[j]? = some (.ow m) → k + j ∈ owPos k ds := by
        intro ds
        induction ds with
        | nil => intro k j m h; simp at h
        | cons a r ih =>
          intro k j m h
          cases j with
          | zero => simp at h; subst h; simp [owPos]
          | succ j =>
            have := ih (k + 1) j m (by simpa using h)
            rw [show k + 1 + j = k + (j + 1) by omega] at this
            cases a with
            | sh d => exact this
            | ow m' => exact List.mem_cons_of_mem _ this
      intro j m h
      have := go ds 0 j m h
      rw [hpos, Nat.zero_add] at this
      exact this
    have hσ : ∀ {σ' : St} {ρ : ENV} {G' H' : Hp}, Rl K ⟨C, fun cl d _ H => E cl d H, pr, adOf vs, fun _ => none⟩ B ρ σ' G' H' → ∀ (j : Nat) (p : Addr), vs[j]? = some (.ref p) → (∃ m, ds[j]? = some (.ow m)) → σ'[0 + j]? = some (some (.ref p)) := by
      intro σ' ρ G' H' R j p h1 ⟨m, h2⟩
      have := R.pa j (pos h2)
      rw [Nat.zero_add, this]
      show some (some (V.ref (adOf vs j))) = _
      unfold adOf
      rw [h1]
    have fin : ∀ {v : DV} {ρ : ENV}, (match (match outsE 0 ds ρ with | some ms => FO.ok v ms | none => .bot) with
        | .ok v ms => ∀ x G' H', Ext B G G' → Same B H' → Same G' H' → Outs K C B G' H' vs ds ms → ValR K C B G' H' vs ds x v → Q x H'
        | .exc e ms => ∀ cl dd G' H', Ext B G G' → Same B H' → Same G' H' → Outs K C B G' H' vs ds ms → ERp K C G' e cl dd → E cl dd H'
        | .bot => False) → ∀ x σ' G' H', Ext B G G' → Rl K ⟨C, fun cl d _ H => E cl d H, pr, adOf vs, fun _ => none⟩ B ρ σ' G' H' → ValR K C B G' H' vs ds x v → Q x H' := by
      intro v ρ h x σ' G' H' ex R hv
      cases ho : outsE 0 ds ρ with
      | none => rw [ho] at h; exact h.elim
      | some ms => rw [ho] at h; exact h x G' H' ex R.bk R.gk (outs_of R ar (hσ R) ho) hv
    cases hd : den (startE N.length ds) with
    | ok fl ρ =>
      rw [hd] at hF
      cases fl with
      | nx => exact fun σ' G' H' ex R => fin hF .non σ' G' H' ex R .non
      | bk => exact hF.elim
      | ct => exact hF.elim
      | ret v =>
        cases v with
        | sh d => exact fun v σ' G' H' ex R p => fin hF v σ' G' H' ex R p
        | ow m =>
          refine fun p σ' G' H' ex R o n => ?_
          have hF' := hF
          dsimp only at hF'
          cases ho : outsE 0 ds ρ with
          | none => simp only [ho] at hF'
          | some ms =>
            have os := outs_of R ar (hσ R) ho
            refine fin hF (.ref p) σ' G' H' ex R ⟨p, rfl, o, fun i m' e z => ?_⟩
            -- the argument at i is owned at the end
            have own : ∀ {vs : List V} {ds : List DV} {k i : Nat} {ms : List M} {m' : M}, outsE k ds ρ = some ms → ds[i]? = some (.ow m') → ∃ m'', ρ[k + i]? = some (some (.ow m'')) := by
              intro vs ds
              induction ds with
              | nil => intro k i ms m' _ h; simp at h
              | cons a r ih =>
                intro k i ms m' h1 h2
                cases a with
                | sh d =>
                  cases i with
                  | zero => simp at h2
                  | succ i =>
                    obtain ⟨m'', q⟩ := ih (k := k + 1) (i := i) (m' := m') h1 (by simpa using h2)
                    exact ⟨m'', by rw [show k + (i + 1) = k + 1 + i by omega]; exact q⟩
                | ow m0 =>
                  unfold outsE at h1
                  split at h1
                  · rename_i m1 hm
                    cases i with
                    | zero => exact ⟨m1, hm⟩
                    | succ i =>
                      cases ho : outsE (k + 1) r ρ with
                      | none => rw [ho] at h1; cases h1
                      | some ms' =>
                        obtain ⟨m'', q⟩ := ih (k := k + 1) (i := i) (m' := m') ho (by simpa using h2)
                        exact ⟨m'', by rw [show k + (i + 1) = k + 1 + i by omega]; exact q⟩
                  · cases h1
            obtain ⟨m'', q⟩ := own (vs := vs) ho e
            have h3 := hσ R i p z ⟨m', e⟩
            exact n _ m'' q h3
    | exc e ρ =>
      rw [hd] at hF
      refine fun cl dd σ' G' H' ex R er => ?_
      dsimp only at hF
      cases ho : outsE 0 ds ρ with
      | none => simp only [ho] at hF
      | some ms =>
        simp only [ho] at hF
        exact hF cl dd G' H' ex R.bk R.gk (outs_of R ar (hσ R) ho) er
    | bot => rw [hd] at hF; exact hF.elim
end
end Rf
set_option Elab.async false
set_option linter.all false
set_option maxRecDepth 100000
/-! Rf: calls -/
namespace Rf
open PySem PySem.Spec L2
abbrev Ag := Sum D Nat
inductive AgR (K : PySem.W.Frag) (C : Nat → Addr) (σ : St) (G : Hp) : List V → List Ag → Prop
  | nil : AgR K C σ G [] []
  | sh {v : V} {d : D} {vs : List V} {as : List Ag} (h : Rp K C G v d) (r : AgR K C σ G vs as) : AgR K C σ G (v :: vs) (.inl d :: as)
  | io {p : Addr} {i : Nat} {vs : List V} {as : List Ag} (h : σ[i]? = some (some (.ref p))) (r : AgR K C σ G vs as) : AgR K C σ G (.ref p :: vs) (.inr i :: as)
theorem AgR.mono {K : PySem.W.Frag} {C : Nat → Addr} {σ : St} {G G' : Hp} (s : Same G G') : ∀ {vs : List V} {as : List Ag}, AgR K C σ G vs as → AgR K C σ G' vs as
  | _, _, .nil => .nil
  | _, _, .sh h r => .sh (h.mono s) (r.mono s)
  | _, _, .io h r => .io h (r.mono s)
def rAg (K : PySem.W.Frag) (cc : Cc) (den : ENV → R (List Ag)) : TA := fun σ H Q => ∃ B ρ G, Rl K cc B ρ σ G H ∧ Post K cc (fun G' vs as => AgR K cc.C σ G' vs as) B G σ Q (den ρ)
def DAg (X : Cx) (cc : Cc) (e : List Expr) (den : ENV → R (List Ag)) : Prop := PA X e (rAg X.K cc den)
def aNil : ENV → R (List Ag) := fun ρ => .ok [] ρ
def aVal (da : ENV → R D) (dr : ENV → R (List Ag)) : ENV → R (List Ag) := fun ρ => (da ρ).bind fun x ρ1 => (dr ρ1).bind fun xs ρ2 => .ok (.inl x :: xs) ρ2
def aIo (i : Nat) (dr : ENV → R (List Ag)) : ENV → R (List Ag) := fun ρ => match ρ[i]? with
  | some (some (.ow _)) => (dr ρ).bind fun xs ρ2 => .ok (.inr i :: xs) ρ2
  | _ => .bot
section
variable {X : Cx} {cc : Cc} {e : Expr} {es : List Expr} {da : ENV → R D} {dr : ENV → R (List Ag)} {pos p : Pos}
theorem dag_nil : DAg X cc [] aNil := PA.imp pa_nil fun σ H Q ⟨B, ρ, G, R0, h⟩ => h [] G H (Ext.refl _ _) R0 .nil
theorem dag_val (ha : DE X cc e da) (hr : DAg X cc es dr) (hs : starEach (e :: es) X.env = (false, eval e X.env) :: starEach es X.env := by rfl) : DAg X cc (e :: es) (aVal da dr) := by
  refine PA.imp (pa_cons ha hr hs) fun σ H Q ⟨B, ρ, G, R0, h⟩ => ⟨B, ρ, G, R0, Post.bind (V2 := fun G' vs as => AgR X.K cc.C σ G' vs as) h fun d1 ρ1 G1 H1 x e1 R1 p1 h1 => ⟨B, ρ1, G1, R1, Post.bind (V2 := fun G' vs as => AgR X.K cc.C σ G' vs as) h1 fun d2 ρ2 G2 H2 y e2 R2 p2 h2 => ?_⟩⟩
  exact h2 (x :: y) G2 H2 (Ext.refl _ _) R2 (.sh (p1.mono e2.gg) p2)
theorem dag_io (i : Nat) {x : Str} {p2 : Pos} (hr : DAg X cc es dr) (hN : X.N[i]? = some x := by rfl) (hv : Vis X.env.scope x := by first | exact Or.inl rfl | exact Or.inr (Or.inl rfl) | exact Or.inr (Or.inr rfl)) (hd : (x == ("__debug__" : Str)) = false := by decide)
    (hcd : (x == ("__classdict__" : Str)) = false := by decide) (hs : starEach (.Name x p2 :: es) X.env = (false, eval (.Name x p2) X.env) :: starEach es X.env := by rfl) : DAg X cc (.Name x p2 :: es) (aIo i dr) := by
  refine PA.imp (pa_cons (pe_var hN hv hd hcd) hr hs) fun σ H Q ⟨B, ρ, G, R0, h⟩ => ?_
  unfold aIo at h
  split at h
  rotate_left
  · exact h.elim
  rename_i m e
  obtain ⟨q, hq, _⟩ := R0.ow i m e
  refine ⟨_, hq, B, ρ, G, R0, Post.bind (V2 := fun G' vs as => AgR X.K cc.C σ G' vs as) h fun d2 ρ2 G2 H2 y e2 R2 p2 h2 => ?_⟩
  exact h2 (.ref q :: y) G2 H2 (Ext.refl _ _) R2 (.io hq p2)
/-- the arguments' data at the call -/
def reso (ρ : ENV) : List Ag → Option (List DV)
  | [] => some []
  | .inl d :: r => (reso ρ r).map (.sh d :: ·)
  | .inr i :: r => match ρ[i]? with
    | some (some (.ow m)) => (reso ρ r).map (.ow m :: ·)
    | _ => none
def slots : List Ag → List Nat
  | [] => []
  | .inl _ :: r => slots r
  | .inr i :: r => i :: slots r
def putB : List Ag → List M → ENV → Option ENV
  | [], [], ρ => some ρ
  | .inl _ :: r, ms, ρ => putB r ms ρ
  | .inr i :: r, m :: ms, ρ => putB r ms (ρ.set i (some (.ow m)))
  | _, _, _ => none
def nodupB : List Nat → Bool
  | [] => true
  | i :: r => !r.contains i && nodupB r
def stepR (F : List DV → FO) (as : List Ag) (ρ : ENV) : R DV := match (if nodupB (slots as) = true then reso ρ as else none) with
  | some ds => match F ds with
    | .ok v ms => match putB as ms ρ with | some ρ2 => .ok v ρ2 | none => .bot
    | .exc e ms => match putB as ms ρ with | some ρ2 => .exc e ρ2 | none => .bot
    | .bot => .bot
  | none => .bot
def PostV (K : PySem.W.Frag) (cc : Cc) (B G : Hp) (σ : St) (Q : V → Hp → Prop) (r : R DV) : Prop := match r with
  | .ok (.sh d) ρ' => ∀ x G' H', Ext B G G' → Rl K cc B ρ' σ G' H' → Rp K cc.C G' x d → Q x H'
  | .ok (.ow m) ρ' => ∀ p G' H', Ext B G G' → Rl K cc B ρ' σ G' H' → Own K cc.C B G' H' p m → NotAt ρ' σ p → Q (.ref p) H'
  | .exc e ρ' => ∀ cl dd G' H', Ext B G G' → Rl K cc B ρ' σ G' H' → ERp K cc.C G' e cl dd → cc.W cl dd σ H'
  | .bot => False
def onSh : DV → ENV → R D
  | .sh d, ρ => .ok d ρ
  | .ow _, _ => .bot
def onOw : DV → ENV → R M
  | .sh _, _ => .bot
  | .ow m, ρ => .ok m ρ
theorem PostV.sh {K : PySem.W.Frag} {cc : Cc} {B G : Hp} {σ : St} {Q : V → Hp → Prop} {r : R DV} (h : Post K cc (Rp K cc.C) B G σ Q (r.bind onSh)) : PostV K cc B G σ Q r := by
  cases r with
  | ok v ρ => cases v with
    | sh d => exact h
    | ow m => exact h.elim
  | exc e ρ => exact h
  | bot => exact h
theorem PostV.ow {K : PySem.W.Frag} {cc : Cc} {B G : Hp} {σ : St} {Q : V → Hp → Prop} {r : R DV} (h : PostF K cc B G σ Q (r.bind onOw)) : PostV K cc B G σ Q r := by
  cases r with
  | ok v ρ => cases v with
    | sh d => exact h.elim
    | ow m => exact h
  | exc e ρ => exact h
  | bot => exact h
/-- the addresses at the slots -/
def addrAt (σ : St) (i : Nat) : Option Addr := match σ[i]? with
  | some (some (V.ref p)) => some p
  | _ => none
def addrs (σ : St) (as : List Ag) : List Addr := (slots as).filterMap (addrAt σ)
theorem mem_addrs {σ : St} {as : List Ag} {p : Addr} : p ∈ addrs σ as ↔ ∃ i, i ∈ slots as ∧ σ[i]? = some (some (.ref p)) := by
  unfold addrs
  rw [List.mem_filterMap]
  constructor
  · rintro ⟨i, hi, e⟩
    refine ⟨i, hi, ?_⟩
    unfold addrAt at e
    split at e
    · cases e; assumption
    · cases e
  · rintro ⟨i, hi, e⟩
    exact ⟨i, hi, by unfold addrAt; rw [e]⟩
/-- what the callee is to keep -/
def keepB (H : Hp) (σ : St) (as : List Ag) : Hp := fun b => if b ∈ addrs σ as then none else H b
section
variable {K : PySem.W.Frag} {B G H G' H' : Hp} {ρ ρ2 : ENV} {σ : St}
theorem keepB_same : Same (keepB H σ as) H := fun b u e => by
  unfold keepB at e
  split at e
  · cases e
  · exact e
theorem keepB_in {p : Addr} (h : p ∈ addrs σ as) : keepB H σ as p = none := by unfold keepB; rw [if_pos h]
theorem keepB_out {p : Addr} (h : p ∉ addrs σ as) : keepB H σ as p = H p := by unfold keepB; rw [if_neg h]
/-- the arguments as the callee sees them -/
theorem ar_of (R : Rl K cc B ρ σ G H) (B' : Hp) {vs : List V} {as : List Ag} (r : AgR K cc.C σ G vs as) : ∀ {ds : List DV}, (∀ p, (∃ i, i ∈ slots as ∧ σ[i]? = some (some (V.ref p))) → B' p = none) → reso ρ as = some ds → AR K cc.C B' G H vs ds := by
  induction r with
  | nil => intro ds _ e; cases e; exact .nil
  | @sh v d vs as h r ih =>
    intro ds hb e
    unfold reso at e
    cases hr : reso ρ as with
    | none => rw [hr] at e; cases e
    | some ds' => rw [hr] at e; cases e; exact AR.sh h (ih hb hr)
  | @io p i vs as h r ih =>
    intro ds hb e
    unfold reso at e
    split at e
    · rename_i m hm
      cases hr : reso ρ as with
      | none => rw [hr] at e; cases e
      | some ds' =>
        rw [hr] at e; cases e
        obtain ⟨p', h1, o⟩ := R.ow i m hm
        rw [h] at h1; cases h1
        exact AR.ow ⟨hb p ⟨i, List.mem_cons_self, h⟩, o.ng, o.at_⟩ (ih (fun p ⟨j, hj, q⟩ => hb p ⟨j, List.mem_cons_of_mem _ hj, q⟩) hr)
    · cases e
/-- an owned argument comes from an owned slot -/
theorem slot_of {vs : List V} {as : List Ag} {ds : List DV} (r : AgR K cc.C σ G vs as) (e : reso ρ as = some ds) : ∀ {j : Nat} {m : M}, ds[j]? = some (.ow m) → ∃ i p, as[j]? = some (.inr i) ∧ i ∈ slots as ∧ ρ[i]? = some (some (.ow m)) ∧ vs[j]? = some (.ref p) ∧ σ[i]? = some (some (.ref p)) := by
  induction r generalizing ds with
  | nil => intro j m h; cases e; simp at h
  | @sh v d vs as h r ih =>
    intro j m hj
    unfold reso at e
    cases hr : reso ρ as with
    | none => rw [hr] at e; cases e
    | some ds' =>
      rw [hr] at e; cases e
      cases j with
      | zero => simp at hj
      | succ j =>
        obtain ⟨i, p, h1, h2, h3, h4, h5⟩ := ih hr (j := j) (m := m) (by simpa using hj)
        exact ⟨i, p, by simpa using h1, h2, h3, by simpa using h4, h5⟩
  | @io p i vs as h r ih =>
    intro j m hj
    unfold reso at e
    split at e
    · rename_i m0 hm
      cases hr : reso ρ as with
      | none => rw [hr] at e; cases e
      | some ds' =>
        rw [hr] at e; cases e
        cases j with
        | zero => simp at hj; subst hj; exact ⟨i, p, rfl, List.mem_cons_self, hm, rfl, h⟩
        | succ j =>
          obtain ⟨i', p', h1, h2, h3, h4, h5⟩ := ih hr (j := j) (m := m) (by simpa using hj)
          exact ⟨i', p', by simpa using h1, List.mem_cons_of_mem _ h2, h3, by simpa using h4, h5⟩
    · cases e
theorem slots_at : ∀ {as : List Ag} {j j' i : Nat}, nodupB (slots as) = true → as[j]? = some (.inr i) → as[j']? = some (.inr i) → j = j'
  | [], j, j', i, _, h, _ => by simp at h
  | .inl d :: r, j, j', i, hn, h, h' => by
    cases j with
    | zero => simp at h
    | succ j => cases j' with
      | zero => simp at h'
      | succ j' => rw [slots_at (as := r) (j := j) (j' := j') (i := i) hn (by simpa using h) (by simpa using h')]
  | .inr k :: r, j, j', i, hn, h, h' => by
    have hn' : (!(slots r).contains k && nodupB (slots r)) = true := hn
    rw [Bool.and_eq_true, Bool.not_eq_true'] at hn'
    have nk : ∀ j : Nat, r[j]? = some (.inr k) → False := fun j h => by
      have : ∀ (r : List Ag) (j : Nat), r[j]? = some (.inr k) → k ∈ slots r := by
        intro r
        induction r with
        | nil => intro j h; simp at h
        | cons a r ih =>
          intro j h
          cases j with
          | zero => simp at h; subst h; exact List.mem_cons_self
          | succ j =>
            have := ih j (by simpa using h)
            cases a with
            | inl d => exact this
            | inr i => exact List.mem_cons_of_mem _ this
      have := this r j h
      have := hn'.1
      simp at this
      exact this ‹_›
    cases j with
    | zero =>
      simp at h; subst h
      cases j' with
      | zero => rfl
      | succ j' => exact (nk j' (by simpa using h')).elim
    | succ j => cases j' with
      | zero => simp at h'; subst h'; exact (nk j (by simpa using h)).elim
      | succ j' => rw [slots_at (as := r) (j := j) (j' := j') (i := i) hn'.2 (by simpa using h) (by simpa using h')]
/-- behind the call: one owned slot after another -/
theorem put_ok {vs : List V} {as : List Ag} (r : AgR K cc.C σ G vs as) : ∀ {ds : List DV} {ms : List M} {ρ ρ2 ρs : ENV}, reso ρs as = some ds → Outs K cc.C B G' H' vs ds ms → putB as ms ρ = some ρ2 → nodupB (slots as) = true →
    ρ2.length = ρ.length ∧ (∀ i, i ∉ slots as → ρ2[i]? = ρ[i]?) ∧ ∀ i, i ∈ slots as → i < ρ.length → ∃ m p, ρ2[i]? = some (some (DV.ow m)) ∧ σ[i]? = some (some (V.ref p)) ∧ Own K cc.C B G' H' p m := by
  induction r with
  | nil =>
    intro ds ms ρ ρ2 ρs e o h hn
    cases e
    cases o
    cases h
    exact ⟨rfl, fun _ _ => rfl, fun i hi => by cases hi⟩
  | @sh v d vs as h r ih =>
    intro ds ms ρ ρ2 ρs e o hp hn
    unfold reso at e
    cases hr : reso ρs as with
    | none => rw [hr] at e; cases e
    | some ds' =>
      rw [hr] at e; cases e
      cases o with
      | sh o => exact ih hr o hp hn
  | @io p i vs as h r ih =>
    intro ds ms ρ ρ2 ρs e o hp hn
    have hn' : (!(slots as).contains i && nodupB (slots as)) = true := hn
    rw [Bool.and_eq_true, Bool.not_eq_true'] at hn'
    have ni : i ∉ slots as := fun z => by
      have := hn'.1
      simp at this
      exact this z
    unfold reso at e
    split at e
    · rename_i m0 hm
      cases hr : reso ρs as with
      | none => rw [hr] at e; cases e
      | some ds' =>
        rw [hr] at e; cases e
        cases o with
        | ow ho o =>
          rename_i m' ms'
          obtain ⟨h1, h2, h3⟩ := ih hr o (show putB as ms' (ρ.set i (some (.ow m'))) = some ρ2 from hp) hn'.2
          rw [List.length_set] at h1
          refine ⟨h1, fun j hj => ?_, fun j hj hl => ?_⟩
          · have h4 : j ≠ i := fun z => hj (by rw [z]; exact List.mem_cons_self)
            rw [h2 j fun z => hj (List.mem_cons_of_mem _ z), List.getElem?_set_ne (Ne.symm h4)]
          · by_cases q : j = i
            · subst q
              exact ⟨m', p, by rw [h2 j ni, List.getElem?_set_self hl], h, ho⟩
            · rcases List.mem_cons.mp hj with z | z
              · exact absurd z q
              · exact h3 j z (by rw [List.length_set]; exact hl)
    · cases e
/-- the caller behind the call -/
theorem Rl.called (R : Rl K cc B ρ σ G H) {vs : List V} {as : List Ag} {ds : List DV} {ms : List M} (ag : AgR K cc.C σ G vs as) (he : reso ρ as = some ds) (hn : nodupB (slots as) = true) (hp : putB as ms ρ = some ρ2) (ho : ∀ i ∈ slots as, ∃ m, ρ[i]? = some (some (.ow m)))
    (ex : Ext (keepB H σ as) G G') (kp : Same (keepB H σ as) H') (gk : Same G' H') (os : Outs K cc.C (keepB H σ as) G' H' vs ds ms) : Ext B G G' ∧ Rl K cc B ρ2 σ G' H' := by
  have own : ∀ p, p ∈ addrs σ as → B p = none ∧ G p = none := fun p hp => by
    obtain ⟨i, hi, e⟩ := mem_addrs.mp hp
    obtain ⟨m, hm⟩ := ho i hi
    obtain ⟨p', h1, o⟩ := R.ow i m hm
    rw [e] at h1; cases h1
    exact ⟨o.nb, o.ng⟩
  have kb : ∀ b, keepB H σ as b = none → B b = none := fun b h => by
    by_cases q : b ∈ addrs σ as
    · exact (own b q).1
    · rw [keepB_out q] at h; exact R.bk.free h
  obtain ⟨h1, h2, h3⟩ := put_ok ag he os hp hn
  have old : ∀ {i : Nat} {m : M}, ρ2[i]? = some (some (.ow m)) → (i ∈ slots as ∧ ∃ m0, ρ[i]? = some (some (.ow m0))) ∨ (i ∉ slots as ∧ ρ[i]? = some (some (.ow m))) := fun {i m} e => by
    by_cases q : i ∈ slots as
    · exact .inl ⟨q, ho i q⟩
    · exact .inr ⟨q, by rw [← h2 i q]; exact e⟩
  refine ⟨⟨ex.gg, fun a u e => ?_⟩, ⟨fun b u e => ?_, gk, by rw [h1]; exact R.ln, fun i d e => ?_, fun i m e => ?_, fun i j m m' p e1 e2 e3 e4 => ?_, R.pa, R.kg.trans ex.gg⟩⟩
  · rcases ex.nb a u e with h | h
    · exact .inl h
    · exact .inr (kb a h)
  · refine kp b u ?_
    have q : b ∉ addrs σ as := fun z => by rw [(own b z).1] at e; cases e
    rw [keepB_out q]; exact R.bk b u e
  · by_cases q : i ∈ slots as
    · obtain ⟨m, hm⟩ := ho i q
      obtain ⟨m', p, h4, _⟩ := h3 i q (List.getElem?_eq_some_iff.mp hm).1
      rw [h4] at e; cases e
    · rw [h2 i q] at e
      obtain ⟨v, h4, h5⟩ := R.sh i d e
      exact ⟨v, h4, h5.mono ex.gg⟩
  · by_cases q : i ∈ slots as
    · obtain ⟨m0, hm⟩ := ho i q
      obtain ⟨m', p, h4, h5, h6⟩ := h3 i q (List.getElem?_eq_some_iff.mp hm).1
      rw [h4] at e; cases e
      exact ⟨p, h5, (own p (mem_addrs.mpr ⟨i, q, h5⟩)).1, h6.ng, h6.at_⟩
    · rw [h2 i q] at e
      obtain ⟨p, h4, o⟩ := R.ow i m e
      have np : p ∉ addrs σ as := fun z => by
        obtain ⟨j, hj, ej⟩ := mem_addrs.mp z
        obtain ⟨m0, hm⟩ := ho j hj
        exact q (by rw [R.df i j m m0 p e hm h4 ej]; exact hj)
      obtain ⟨x, hx, hm⟩ := o.at_
      refine ⟨p, h4, o.nb, ?_, x, kp p x (by rw [keepB_out np]; exact hx), hm.mono ex.gg⟩
      cases hg : G' p with
      | none => rfl
      | some u =>
        rcases ex.nb p u hg with h | h
        · rw [o.ng] at h; cases h
        · rw [keepB_out np, hx] at h; cases h
  · have g : ∀ {i : Nat} {m : M}, ρ2[i]? = some (some (.ow m)) → ∃ m0, ρ[i]? = some (some (.ow m0)) := fun {i m} e => by
      rcases old e with ⟨_, h⟩ | ⟨_, h⟩
      · exact h
      · exact ⟨m, h⟩
    obtain ⟨m1, q1⟩ := g e1
    obtain ⟨m2, q2⟩ := g e2
    exact R.df i j m1 m2 p q1 q2 e3 e4
theorem reso_own : ∀ {as : List Ag} {ds : List DV}, reso ρ as = some ds → ∀ i ∈ slots as, ∃ m, ρ[i]? = some (some (.ow m))
  | [], _, _, i, h => by cases h
  | .inl d :: r, ds, e, i, h => by
    unfold reso at e
    cases hr : reso ρ r with
    | none => rw [hr] at e; cases e
    | some ds' => exact reso_own hr i h
  | .inr k :: r, ds, e, i, h => by
    unfold reso at e
    split at e
    · rename_i m hm
      rcases List.mem_cons.mp h with z | z
      · subst z; exact ⟨m, hm⟩
      · cases hr : reso ρ r with
        | none => rw [hr] at e; cases e
        | some ds' => exact reso_own hr i z
    · cases e
/-- THE STEP: the callee's promise gives what the caller's reading wants -/
theorem call_core (F : List DV → FO) {n : Nat} {Q : V → Hp → Prop} {vs : List V} {as : List Ag} (R : Rl K cc B ρ σ G H) (ag : AgR K cc.C σ G vs as) (hl : vs.length = n)
    (h : PostV K cc B G σ Q (stepR F as ρ)) : spF K cc.C n F vs H Q (WE cc.W σ) := by
  unfold stepR at h
  by_cases hn : nodupB (slots as) = true
  rotate_left
  · rw [if_neg hn] at h; exact h.elim
  rw [if_pos hn] at h
  cases he : reso ρ as with
  | none => rw [he] at h; exact h.elim
  | some ds => ?_
  rw [he] at h
  dsimp only at h
  have ho := reso_own he
  have knb : ∀ p, (∃ i, i ∈ slots as ∧ σ[i]? = some (some (.ref p))) → keepB H σ as p = none := fun p hp => keepB_in (mem_addrs.mpr hp)
  refine ⟨ds, keepB H σ as, G, hl, keepB_same, R.gk, ar_of R _ ag knb he, fun i j m m' p e1 e2 e3 e4 => ?_, ?_⟩
  · obtain ⟨i1, p1, a1, s1, r1, v1, g1⟩ := slot_of ag he e1
    obtain ⟨i2, p2, a2, s2, r2, v2, g2⟩ := slot_of ag he e2
    rw [v1] at e3; cases e3
    rw [v2] at e4; cases e4
    have := R.df i1 i2 m m' _ r1 r2 g1 g2
    subst this
    exact slots_at hn a1 a2
  · cases hF : F ds with
    | bot => rw [hF] at h; exact h
    | exc e ms =>
      rw [hF] at h
      dsimp only at h
      refine fun cl dd G' H' ex kp gk os er => ?_
      cases hp : putB as ms ρ with
      | none => rw [hp] at h; exact h.elim
      | some ρ2 =>
        rw [hp] at h
        obtain ⟨ex', R'⟩ := R.called ag he hn hp ho ex kp gk os
        exact h cl dd G' H' ex' R' er
    | ok v ms =>
      rw [hF] at h
      dsimp only at h
      refine fun x G' H' ex kp gk os hv => ?_
      cases hp : putB as ms ρ with
      | none => rw [hp] at h; exact h.elim
      | some ρ2 =>
        rw [hp] at h
        obtain ⟨ex', R'⟩ := R.called ag he hn hp ho ex kp gk os
        cases v with
        | sh d => exact h x G' H' ex' R' hv
        | ow m =>
          obtain ⟨p, rfl, o, nf⟩ := hv
          have nb := o.nb
          -- p is no slot's object
          have notArg : p ∉ addrs σ as := fun z => by
            obtain ⟨i, hi, e⟩ := mem_addrs.mp z
            have find : ∀ {vs : List V} {as : List Ag} {ds : List DV}, AgR K cc.C σ G vs as → reso ρ as = some ds → i ∈ slots as → ∃ (j : Nat) (m : M), ds[j]? = some (DV.ow m) ∧ vs[j]? = some (V.ref p) := by
              intro vs as ds r
              induction r generalizing ds with
              | nil => intro _ h; cases h
              | @sh v d vs as h r ih =>
                intro e2 h2
                unfold reso at e2
                cases hr : reso ρ as with
                | none => rw [hr] at e2; cases e2
                | some ds' =>
                  rw [hr] at e2; cases e2
                  obtain ⟨j, m, q1, q2⟩ := ih hr h2
                  exact ⟨j + 1, m, by simpa using q1, by simpa using q2⟩
              | @io p' i' vs as h r ih =>
                intro e2 h2
                unfold reso at e2
                split at e2
                · rename_i m0 hm
                  cases hr : reso ρ as with
                  | none => rw [hr] at e2; cases e2
                  | some ds' =>
                    rw [hr] at e2; cases e2
                    rcases List.mem_cons.mp h2 with z | z
                    · subst z
                      rw [e] at h; cases h
                      exact ⟨0, m0, rfl, rfl⟩
                    · obtain ⟨j, m, q1, q2⟩ := ih hr z
                      exact ⟨j + 1, m, by simpa using q1, by simpa using q2⟩
                · cases e2
            obtain ⟨j, m, q1, q2⟩ := find ag he hi
            exact nf j m q1 q2
          rw [keepB_out notArg] at nb
          refine h p G' H' ex' R' ⟨R.bk.free nb, o.ng, o.at_⟩ fun i m' e z => ?_
          obtain ⟨p', h1, o'⟩ := R'.ow i m' e
          rw [z] at h1; cases h1
          -- the slot i was owned ahead of the call, and its object stood there
          have : ∃ m0, ρ[i]? = some (some (.ow m0)) := by
            by_cases q : i ∈ slots as
            · exact ho i q
            · obtain ⟨_, h2, _⟩ := put_ok ag he os hp hn
              exact ⟨m', by rw [← h2 i q]; exact e⟩
          obtain ⟨m0, hm0⟩ := this
          obtain ⟨p2, h3, o2⟩ := R.ow i m0 hm0
          rw [z] at h3; cases h3
          obtain ⟨y, hy, _⟩ := o2.at_
          rw [nb] at hy; cases hy
end
/-! ### f(..) -/
structure Callee (X : Cx) (cc : Cc) (x : Str) (n : Nat) (F : List DV → FO) : Prop where
  ex : ∃ (f : Addr) (fd : FuncData) (ps : List Str) (k : Nat), ps.length = n ∧ FnOk X.prog X.w X.K X.mg X.base (L2.CX X.prog X.w) k f fd ps (spF X.K cc.C n F) ∧ Room k X.A ∧ X.mg x = some (.ref f) ∧ PySem.W.keepIn X.K (.ref f) = true ∧ Binds X.K fd ps []
def dCall (F : List DV → FO) (dr : ENV → R (List Ag)) : ENV → R D := fun ρ => ((dr ρ).bind (stepR F)).bind onSh
def fCall (F : List DV → FO) (dr : ENV → R (List Ag)) : ENV → R M := fun ρ => ((dr ρ).bind (stepR F)).bind onOw
theorem AgR.length {K : PySem.W.Frag} {C : Nat → Addr} {σ : St} {G : Hp} : ∀ {vs : List V} {as : List Ag}, AgR K C σ G vs as → vs.length = as.length
  | _, _, .nil => rfl
  | _, _, .sh _ r => congrArg (· + 1) r.length
  | _, _, .io _ r => congrArg (· + 1) r.length
/-- n arguments come -/
def Many (n : Nat) (dr : ENV → R (List Ag)) : Prop := ∀ ρ as ρ1, dr ρ = .ok as ρ1 → as.length = n
theorem many_nil : Many 0 aNil := fun ρ as ρ1 e => by cases e; rfl
theorem many_val {n : Nat} (h : Many n dr) : Many (n + 1) (aVal da dr) := fun ρ as ρ1 e => by
  dsimp only [aVal] at e
  cases hd : da ρ with
  | ok d ρ2 =>
    rw [hd] at e
    dsimp only [R.bind] at e
    cases hr : dr ρ2 with
    | ok as' ρ3 => rw [hr] at e; cases e; exact congrArg (· + 1) (h _ _ _ hr)
    | exc _ _ => rw [hr] at e; cases e
    | bot => rw [hr] at e; cases e
  | exc _ _ => rw [hd] at e; cases e
  | bot => rw [hd] at e; cases e
theorem many_io {n i : Nat} (h : Many n dr) : Many (n + 1) (aIo i dr) := fun ρ as ρ1 e => by
  dsimp only [aIo] at e
  split at e
  · cases hr : dr ρ with
    | ok as' ρ3 => rw [hr] at e; cases e; exact congrArg (· + 1) (h _ _ _ hr)
    | exc _ _ => rw [hr] at e; cases e
    | bot => rw [hr] at e; cases e
  · cases e
variable {x : Str} {F : List DV → FO} {n : Nat}
theorem PostV.ext {K : PySem.W.Frag} {cc : Cc} {B G G1 : Hp} {σ : St} {Q : V → Hp → Prop} {r : R DV} (h : PostV K cc B G σ Q r) (x : Ext B G G1) : PostV K cc B G1 σ Q r := by
  cases r with
  | ok v ρ => cases v with
    | sh d => exact fun v G' H' e => h v G' H' (x.trans e)
    | ow m => exact fun v G' H' e => h v G' H' (x.trans e)
  | exc e ρ => exact fun cl dd G' H' e => h cl dd G' H' (x.trans e)
  | bot => exact h
theorem call_read {σ : St} {H : Hp} {Q : V → Hp → Prop} (hn : Many n dr) {B G : Hp} {ρ : ENV} (R0 : Rl X.K cc B ρ σ G H) (h : PostV X.K cc B G σ Q ((dr ρ).bind (stepR F))) : tCallS (spF X.K cc.C n F) (WE cc.W) (rAg X.K cc dr) σ H Q := by
  refine ⟨B, ρ, G, R0, ?_⟩
  cases hd : dr ρ with
  | exc e ρ1 => rw [hd] at h; exact h
  | bot => rw [hd] at h; exact h
  | ok as ρ1 =>
    rw [hd] at h
    intro vs G1 H1 e1 R1 ag
    exact call_core F R1 ag (ag.length.trans (hn ρ as ρ1 hd)) (PostV.ext h e1)
theorem pe_callS0 {CX : CXT} {k : Nat} {f : Addr} {fd : FuncData} {ps : List Str} {sp : Sp} {E : St → XK} (F : FnOk X.prog X.w X.K X.mg X.base CX k f fd ps sp) (hr : Room k X.A) (hg : Gl X x) (hm : X.mg x = some (.ref f)) (hk : PySem.W.keepIn X.K (.ref f) = true) (hb : Binds X.K fd ps []) (hx : ∀ σ, PassesAt CX X σ (E σ))
    (hdb : (x == ("__debug__" : Str)) = false := by decide) : PE X (.Call (.Name x p) [] [] pos) (tCallS sp E tNil) := by
  refine ⟨fun pins s σ H Q I h => ?_⟩
  refine wpAny_Call_Name_kw (ld_glob I hg hm ?_ hdb)
  exact PySem.W.callWith_K0 I.kIn hk (run_fnS (us := []) F hr hb (hx σ) I .nil h)
theorem pe_callR {e : Expr} {es : List Expr} (c : Callee X cc x n F) (tk : Takes X cc.W) (ha : DAg X cc (e :: es) dr) (hg : Gl X x)
    (hdb : (x == ("__debug__" : Str)) = false := by decide) (he : starEach (e :: es) X.env = (false, eval e X.env) :: starEach es X.env := by rfl) (hpl : (backTo pos (starEach es X.env)).any (·.1) = false := by rfl) :
    PE X (.Call (.Name x p) (e :: es) [] pos) (tCallS (spF X.K cc.C n F) (WE cc.W) (rAg X.K cc dr)) := by
  obtain ⟨f, fd, ps, k, hps, G, hr, hm, hk, hb⟩ := c.ex
  exact pe_callS G hr hg hm hk hb (fun σ => passAt tk σ) ha hdb he hpl
theorem de_call {e : Expr} {es : List Expr} (c : Callee X cc x n F) (tk : Takes X cc.W) (ha : DAg X cc (e :: es) dr) (hn : Many n dr) (hg : Gl X x := by rfl)
    (hdb : (x == ("__debug__" : Str)) = false := by decide) (he : starEach (e :: es) X.env = (false, eval e X.env) :: starEach es X.env := by rfl) (hpl : (backTo pos (starEach es X.env)).any (·.1) = false := by rfl) :
    DE X cc (.Call (.Name x p) (e :: es) [] pos) (dCall F dr) := PE.imp (pe_callR c tk ha hg hdb he hpl) fun σ H Q ⟨B, ρ, G, R0, h⟩ => call_read hn R0 (PostV.sh h)
theorem df_call {e : Expr} {es : List Expr} (c : Callee X cc x n F) (tk : Takes X cc.W) (ha : DAg X cc (e :: es) dr) (hn : Many n dr) (hg : Gl X x := by rfl)
    (hdb : (x == ("__debug__" : Str)) = false := by decide) (he : starEach (e :: es) X.env = (false, eval e X.env) :: starEach es X.env := by rfl) (hpl : (backTo pos (starEach es X.env)).any (·.1) = false := by rfl) :
    DF X cc (.Call (.Name x p) (e :: es) [] pos) (fCall F dr) := PE.imp (pe_callR c tk ha hg hdb he hpl) fun σ H Q ⟨B, ρ, G, R0, h⟩ => call_read hn R0 (PostV.ow h)
theorem pe_callR0 (c : Callee X cc x 0 F) (tk : Takes X cc.W) (hg : Gl X x) (hdb : (x == ("__debug__" : Str)) = false := by decide) :
    PE X (.Call (.Name x p) [] [] pos) (tCallS (spF X.K cc.C 0 F) (WE cc.W) tNil) := by
  obtain ⟨f, fd, ps, k, hps, G, hr, hm, hk, hb⟩ := c.ex
  exact pe_callS0 G hr hg hm hk hb (fun σ => passAt tk σ) hdb
theorem call_read0 {σ : St} {H : Hp} {Q : V → Hp → Prop} {B G : Hp} {ρ : ENV} (R0 : Rl X.K cc B ρ σ G H) (h : PostV X.K cc B G σ Q (stepR F [] ρ)) : tCallS (spF X.K cc.C 0 F) (WE cc.W) tNil σ H Q :=
  call_core F R0 .nil rfl h
theorem de_call0 (c : Callee X cc x 0 F) (tk : Takes X cc.W) (hg : Gl X x := by rfl) (hdb : (x == ("__debug__" : Str)) = false := by decide) : DE X cc (.Call (.Name x p) [] [] pos) (dCall F aNil) :=
  PE.imp (pe_callR0 c tk hg hdb) fun σ H Q ⟨B, ρ, G, R0, h⟩ => call_read0 R0 (PostV.sh h)
theorem df_call0 (c : Callee X cc x 0 F) (tk : Takes X cc.W) (hg : Gl X x := by rfl) (hdb : (x == ("__debug__" : Str)) = false := by decide) : DF X cc (.Call (.Name x p) [] [] pos) (fCall F aNil) :=
  PE.imp (pe_callR0 c tk hg hdb) fun σ H Q ⟨B, ρ, G, R0, h⟩ => call_read0 R0 (PostV.ow h)
end
end Rf
set_option Elab.async false
set_option linter.all false
set_option maxRecDepth 100000
/-! Rf: raise, try -/
namespace Rf
open PySem PySem.Spec L2
section
variable {X : Cx} {cc : Cc} {pos p : Pos}
/-- X() of an own exception class without __init__ -/
theorem pmk_own0 {C : Addr} {bmB : List Value} {B newId initId : String} {x : Str} (F : ExcBaseFacts B newId initId bmB) (q : PySem.W.excIn X.K C bmB newId = true) (gC : X.mg x = some (.ref C)) (kC : PySem.W.keepIn X.K (.ref C) = true) (r : Raises X (.ref C)) (hg : Gl X x)
    (hdb : (x == ("__debug__" : Str)) = false := by decide) : PMk X (.Call (.Name x p) [] [] pos) (fun _ H Q => Q (.ref C) none H) := by
  intro pins s σ H Q I h
  refine wpAny_Call_Name_kw (ld_glob I hg gC ?_ hdb)
  refine PySem.W.callWith_K0 I.kIn kC ?_
  obtain ⟨bm, N, nm, qn, bs, hdct, sn, sub, ab, col, dd, k0, k1, k2, k3, k5, mN, hC, hN, hni, T⟩ := exc_obj I.kIn q
  refine wpAny_call_exc_subT F T hC hN hni (fun h' e hm => ?_) (by show 0 ≤ sizeLine; exact Nat.zero_le _)
  exact mk_of I hm r h (I.hok.gone hm.new)
def sRaise (e : EX) : ENV → R Fl := fun ρ => .exc e ρ
theorem ds_raise0 {c : Nat} {e : Expr} (hc : X.calm = true) (tk : Takes X cc.W) (hm : PMk X e (fun _ H Q => Q (.ref (cc.C c)) none H)) : DS X cc (.Raise (some e) none pos) (sRaise ⟨c, []⟩) :=
  PS.imp (ps_raise hc tk hm) fun Dn σ H ⟨B, ρ, G, R0, h⟩ => h (.ref (cc.C c)) none σ G H (Ext.refl _ _) R0 ⟨rfl, .inl ⟨rfl, rfl⟩⟩
theorem Rl.toW {K : PySem.W.Frag} {B : Hp} {ρ : ENV} {σ : St} {G H : Hp} (r : Rl K cc B ρ σ G H) (W : WX) : Rl K { cc with W := W } B ρ σ G H := ⟨r.bk, r.gk, r.ln, r.sh, r.ow, r.df, r.pa, r.kg⟩
theorem Rl.ofW {K : PySem.W.Frag} {B : Hp} {ρ : ENV} {σ : St} {G H : Hp} {W : WX} (r : Rl K { cc with W := W } B ρ σ G H) : Rl K cc B ρ σ G H := ⟨r.bk, r.gk, r.ln, r.sh, r.ow, r.df, r.pa, r.kg⟩
abbrev Cc.quiet (cc : Cc) : Cc := { cc with W := fun _ _ _ _ => False }
/-- behind a body that ends in order -/
theorem PostS.toW {K : PySem.W.Frag} {B G : Hp} {Dn : Ends} {r : R Fl} {W : WX} (h : PostS K cc B G Dn r) (hx : ∀ e ρ, r = .exc e ρ → ∀ cl dd σ' G' H', Ext B G G' → Rl K cc B ρ σ' G' H' → ERp K cc.C G' e cl dd → W cl dd σ' H') : PostS K { cc with W := W } B G Dn r := by
  cases r with
  | ok f ρ =>
    cases f with
    | nx => exact fun σ' G' H' e R => h σ' G' H' e R.ofW
    | bk => exact fun σ' G' H' e R => h σ' G' H' e R.ofW
    | ct => exact fun σ' G' H' e R => h σ' G' H' e R.ofW
    | ret v => cases v with
      | sh d => exact fun v σ' G' H' e R => h v σ' G' H' e R.ofW
      | ow m => exact fun v σ' G' H' e R => h v σ' G' H' e R.ofW
  | exc e ρ => exact fun cl dd σ' G' H' ex R => hx e ρ rfl cl dd σ' G' H' ex R.ofW
  | bot => exact h
/-- try: body, except class c: suite; sub: which classes stand under which -/
def sTry (sub : Nat → Nat → Option Bool) (sb : ENV → R Fl) (c : Nat) (ss : ENV → R Fl) : ENV → R Fl := fun ρ => match sb ρ with
  | .exc e ρ1 => match sub e.c c with
    | some true => match ss ρ1 with
      | .exc _ _ => .bot
      | r => r
    | some false => .exc e ρ1
    | none => .bot
  | r => r
variable {sub : Nat → Nat → Option Bool}
theorem ds_try {x : Str} {c : Nat} {body suite : List Stmt} {b0 : Stmt} {np pos' : Pos} {sb ss : ENV → R Fl} (hs : X.stack = X.env :: X.outer) (hf : X.env.frame = some X.env.locals) (hc : Names X x (.ref (cc.C c))) (tk : Takes X cc.W)
    (hsub : ∀ i j b, sub i j = some b → PySem.W.exmOne X.K (.ref (cc.C i)) (.ref (cc.C j)) = some b)
    (hb : ∀ (W : WX) (pn : List (Addr × Obj)) (xe : Value → Shared → Prop), Takes (X.tr pn xe) W → PassesOwn (model X.prog X.w) X.A X.env xe → DSs (X.tr pn xe) { cc with W := W } body sb)
    (hsu : ∀ (a : Addr) (oe : Obj) (pn : List (Addr × Obj)), DSs (X.suite a ((a, oe) :: pn)) cc.quiet (b0 :: suite) ss) :
    DS X cc (.Try body [.ExceptHandler (some (.Name x np)) none (b0 :: suite) pos'] [] [] pos) (sTry sub sb c ss) := by
  refine PS.imp (ps_try_only (tb := fun W => rS X.K { cc with W := W } sb) (ts := fun a cls d => rS X.K cc.quiet ss) hs hf hc tk (fun W pn xe tk' po => hb W pn xe tk' po) (fun a oe cls d pn _ _ => hsu a oe pn)) fun Dn σ H ⟨B, ρ, G, R0, h⟩ => ⟨B, ρ, G, R0.toW _, ?_⟩
  unfold sTry at h
  cases hr : sb ρ with
  | bot => rw [hr] at h; exact h
  | ok f ρ1 =>
    rw [hr] at h
    exact PostS.toW h fun e ρ q => by cases q
  | exc e ρ1 =>
    rw [hr] at h
    dsimp only at h
    refine fun cl dd σ' G' H' ex R er => ?_
    cases hq : sub e.c c with
    | none => rw [hq] at h; exact h.elim
    | some b =>
      rw [hq] at h
      have hm := hsub _ _ _ hq
      obtain ⟨rfl, _⟩ := id er
      refine ⟨b, hm, fun hb a _ => ?_, fun hb => ?_⟩
      · subst hb
        dsimp only at h
        refine ⟨B, ρ1, G', R.ofW.toW _, ?_⟩
        have h := PostS.ext h ex
        cases hss : ss ρ1 with
        | bot => rw [hss] at h; exact h
        | exc _ _ => rw [hss] at h; exact h.elim
        | ok f ρ2 => rw [hss] at h; exact PostS.toW h fun e ρ q => by cases q
      · subst hb
        exact h _ _ _ _ _ ex R.ofW er
end
end Rf
set_option Elab.async false
set_option linter.all false
set_option maxRecDepth 100000
/-! Rf: owned lists looked at; a program's defs -/
namespace Rf
open PySem PySem.Spec L2
section
variable {X : Cx} {cc : Cc} {e : Expr} {da db : ENV → R D} {pos p2 : Pos}
/-- xs[k] of an owned list -/
def dIxO (i : Nat) (dk : ENV → R D) : ENV → R D := fun ρ => match ρ[i]? with
  | some (some (.ow (.lst _))) => (dk ρ).bind fun k ρ1 => match k, ρ1[i]? with
    | .int k, some (some (.ow (.lst ds))) => R.of (atI ds k) ρ1
    | _, _ => .bot
  | _ => .bot
theorem de_ixO (i : Nat) {x : Str} {k : Expr} (hk : DE X cc k da) (hN : X.N[i]? = some x := by rfl) (hv : Vis X.env.scope x := by first | exact Or.inl rfl | exact Or.inr (Or.inl rfl) | exact Or.inr (Or.inr rfl)) (hd : (x == ("__debug__" : Str)) = false := by decide)
    (hcd : (x == ("__classdict__" : Str)) = false := by decide) (hs : PlainIx k := by intro _ _; rfl) : DE X cc (.Subscript (.Name x p2) k pos) (dIxO i da) := by
  refine PE.imp (pe_ix ix_list (pe_var hN hv hd hcd) hk hs) fun σ H Q ⟨B, ρ, G, R0, h⟩ => ?_
  unfold dIxO at h
  split at h
  rotate_left
  · exact h.elim
  rename_i ds0 e0
  obtain ⟨p, xs, hp, hx, _⟩ := R0.lstAt e0
  refine ⟨_, hp, B, ρ, G, R0, h.bind fun kd ρ1 G1 H1 kv e1 R1 p1 h1 => ?_⟩
  split at h1
  rotate_left
  · exact h1.elim
  rename_i k' ds e3
  cases p1 with
  | int k' =>
    obtain ⟨p', xs', hp', hx', rr⟩ := R1.lstAt e3
    rw [hp] at hp'; cases hp'
    cases ha : atI ds k' with
    | none => rw [ha] at h1; exact h1.elim
    | some d =>
      rw [ha] at h1
      obtain ⟨y, hy, py⟩ := rr.atI ha
      exact ⟨p, xs', k', y, rfl, rfl, .inl (.inl hx'), hy, h1 y G1 H1 (Ext.refl _ _) R1 py⟩
/-- len(xs) of an owned list -/
def dLenO (i : Nat) : ENV → R D := fun ρ => match ρ[i]? with
  | some (some (.ow (.lst ds))) => .ok (.int ds.length) ρ
  | _ => .bot
theorem de_lenO (i : Nat) {x : Str} {p : Pos} (hg : Gl X "len") (hm : X.mg "len" = none) (hN : X.N[i]? = some x := by rfl) (hv : Vis X.env.scope x := by first | exact Or.inl rfl | exact Or.inr (Or.inl rfl) | exact Or.inr (Or.inr rfl)) (hd : (x == ("__debug__" : Str)) = false := by decide)
    (hcd : (x == ("__classdict__" : Str)) = false := by decide) (he : starEach [.Name x p2] X.env = (false, eval (.Name x p2) X.env) :: starEach [] X.env := by rfl) (hpl : (backTo pos (starEach [] X.env)).any (·.1) = false := by rfl) :
    DE X cc (.Call (.Name "len" p) [.Name x p2] [] pos) (dLenO i) := by
  refine PE.imp (pe_callB cr_lenS hg hm PySem.boot_len (pa_cons (pe_var hN hv hd hcd) pa_nil he) (by decide) (by decide) he hpl) fun σ H Q ⟨B, ρ, G, R0, h⟩ => ?_
  unfold dLenO at h
  split at h
  · rename_i ds e
    obtain ⟨p, xs, hp, hx, rr⟩ := R0.lstAt e
    exact ⟨_, hp, .inl ⟨p, xs, rfl, .inl (.inl (.inl hx)), by rw [rr.length]; exact h (.int _) G H (Ext.refl _ _) R0 (.int _)⟩⟩
  · exact h.elim
/-- x in xs, xs owned -/
def dInO (neg : Bool) (da : ENV → R D) (i : Nat) : ENV → R D := fun ρ => (da ρ).bind fun x ρ1 => match ρ1[i]? with
  | some (some (.ow (.lst ds))) => R.of (vIn neg x (.lst ds)) ρ1
  | _ => .bot
theorem inO_core {neg : Bool} {i : Nat} : ∀ σ H Q, rE X.K cc (dInO neg da i) σ H Q → tOp (rInA X.K neg) (rE X.K cc da) (tVar i) σ H Q := by
  intro σ H Q ⟨B, ρ, G, R0, h⟩
  refine ⟨B, ρ, G, R0, h.bind fun d1 ρ1 G1 H1 x e1 R1 p1 h1 => ?_⟩
  split at h1
  rotate_left
  · exact h1.elim
  rename_i ds e
  obtain ⟨p, xs, hp, hx, rr⟩ := R1.lstAt e
  refine ⟨_, hp, ?_⟩
  dsimp only [vIn] at h1
  split at h1
  · rename_i hh
    exact .inl ⟨_, .list (toPyL ds), _, p1.dp R1.gk (SeqAt.canLay_of_shaped hh.1), .lst (.inl (.inl hx)) (rr.dp R1.gk hh.2), .inl rfl, hh.1, hh.2, h1 _ G1 H1 (Ext.refl _ _) R1 (.bl _)⟩
  · exact h1.elim
theorem de_inO (neg : Bool) (i : Nat) {x : Str} {a : Expr} (hu : X.A.units + 65 < cLine) (ha : DE X cc a da) (hN : X.N[i]? = some x := by rfl) (hv : Vis X.env.scope x := by first | exact Or.inl rfl | exact Or.inr (Or.inl rfl) | exact Or.inr (Or.inr rfl)) (hd : (x == ("__debug__" : Str)) = false := by decide)
    (hcd : (x == ("__classdict__" : Str)) = false := by decide) : DE X cc (.Compare a [if neg then .NotIn else .In] [.Name x p2] pos) (dInO neg da i) := by
  cases neg with
  | false => exact PE.imp (pe_cmpR (op_inA hu) ha (pe_var hN hv hd hcd) rfl) inO_core
  | true => exact PE.imp (pe_cmpR (op_notInA hu) ha (pe_var hN hv hd hcd) rfl) inO_core
theorem dt_inO (neg : Bool) (i : Nat) {x : Str} {a : Expr} (hu : X.A.units + 65 < cLine) (ha : DE X cc a da) (hN : X.N[i]? = some x := by rfl) (hv : Vis X.env.scope x := by first | exact Or.inl rfl | exact Or.inr (Or.inl rfl) | exact Or.inr (Or.inr rfl)) (hd : (x == ("__debug__" : Str)) = false := by decide)
    (hcd : (x == ("__classdict__" : Str)) = false := by decide) : DT X cc (.Compare a [if neg then .NotIn else .In] [.Name x p2] pos) (dT (dInO neg da i)) := by
  cases neg with
  | false => exact PT.imp (pt_cmpR (op_inA hu) ha (pe_var hN hv hd hcd) rfl) (test_core inO_core)
  | true => exact PT.imp (pt_cmpR (op_notInA hu) ha (pe_var hN hv hd hcd) rfl) (test_core inO_core)
/-- truth of an owned list -/
def dTruO (i : Nat) : ENV → R Bool := fun ρ => match ρ[i]? with
  | some (some (.ow (.lst ds))) => .ok (!ds.isEmpty) ρ
  | _ => .bot
theorem dt_truO (i : Nat) {x : Str} (hN : X.N[i]? = some x := by rfl) (hv : Vis X.env.scope x := by first | exact Or.inl rfl | exact Or.inr (Or.inl rfl) | exact Or.inr (Or.inr rfl)) (hd : (x == ("__debug__" : Str)) = false := by decide)
    (hcd : (x == ("__classdict__" : Str)) = false := by decide) : DT X cc (.Name x p2) (dTruO i) := by
  refine PT.imp (pt_truth (pe_var hN hv hd hcd) (by intro _; rfl)) fun σ H Q ⟨B, ρ, G, R0, h⟩ => ?_
  unfold dTruO at h
  split at h
  · rename_i ds e
    obtain ⟨p, xs, hp, hx, rr⟩ := R0.lstAt e
    exact ⟨_, hp, !ds.isEmpty, .inl ⟨xs, .inl (.inl hx), by rw [rr.empty]⟩, h _ G H (Ext.refl _ _) R0 rfl⟩
  · exact h.elim
/-- a constant of the module -/
structure GC (K : PySem.W.Frag) (mg : Str → Option Value) (C : Nat → Addr) (x : Str) (d : D) : Prop where
  ex : ∃ u v, mg x = some u ∧ RelV v u ∧ ∀ G, Rp K C G v d
def dG (d : D) : ENV → R D := fun ρ => .ok d ρ
theorem de_glob {x : Str} {d : D} (g : GC X.K X.mg cc.C x d) (hg : Gl X x := by rfl) (hd : (x == ("__debug__" : Str)) = false := by decide) : DE X cc (.Name x pos) (dC d) := by
  obtain ⟨u, v, h1, h2, h3⟩ := g.ex
  exact de_k (pe_glob hg h1 h2 hd) h3
end
/-- a def of the module as the top leaves it -/
structure Df (K : PySem.W.Frag) (mg : Str → Option Value) (x : Str) (st : Stmt) (ps : List Str) : Prop where
  ex : ∃ f fd, Fun K x x st f fd ∧ mg x = some (.ref f) ∧ ∀ us : List Value, us.length = ps.length → bindArgs fd ⟨us, []⟩ = pure (ps.zip us)
theorem df_mk {K : PySem.W.Frag} {h : Heap} {mg : Str → Option Value} {x : Str} {st : Stmt} {ps : List Str} {f : Addr} {oc : Value} {od an : Option Addr} {osl : Array (Option Value)} {kV doc pm cdv ct : Value} (X : K.In h) (G : h.Ns mainGlobals mg)
    (a : PySem.W.nsIn K mainGlobals x = some (some (.ref f))) (l : K.lookup f = some ⟨oc, od, .func (PySem.W.fnOf x x (defArgs st) (defBody st) (defScope st) .none kV doc pm an cdv ct), osl⟩)
    (c : PySem.W.codeIn K cdv x = true) (k : PySem.W.keepIn K (.ref f) = true) (hb : ∀ (kV doc pm : Value) (an : Option Addr) (cdv ct : Value) (us : List Value), us.length = ps.length → bindArgs (PySem.W.fnOf x x (defArgs st) (defBody st) (defScope st) .none kV doc pm an cdv ct) ⟨us, []⟩ = pure (ps.zip us)) : Df K mg x st ps := by
  have F := fun_mk (st := st) l c k
  exact ⟨f, _, F, PySem.W.mg_of X G a, fun us hl => hb _ _ _ _ _ _ us hl⟩
/-- a def that keeps the promise of F -/
structure Fk (P : Program) (w : World) (K : PySem.W.Frag) (mg : Str → Option Value) (base : Heap) (C : Nat → Addr) (x : Str) (n k : Nat) (F : List DV → FO) : Prop where
  ex : ∃ f fd ps, ps.length = n ∧ FnOk P w K mg base (L2.CX P w) k f fd ps (spF K C n F) ∧ mg x = some (.ref f) ∧ PySem.W.keepIn K (.ref f) = true ∧ Binds K fd ps []
theorem Fk.mono {P : Program} {w : World} {K : PySem.W.Frag} {mg : Str → Option Value} {base : Heap} {C : Nat → Addr} {x : Str} {n k k' : Nat} {F : List DV → FO} (h : Fk P w K mg base C x n k F) (hk : k ≤ k') : Fk P w K mg base C x n k' F := by
  obtain ⟨f, fd, ps, h1, h2, h3⟩ := h.ex
  exact ⟨f, fd, ps, h1, h2.mono hk, h3⟩
theorem Fk.callee {X : Cx} {cc : Cc} {x : Str} {n k : Nat} {F : List DV → FO} (h : Fk X.prog X.w X.K X.mg X.base cc.C x n k F) (hr : Room k X.A) : Callee X cc x n F := by
  obtain ⟨f, fd, ps, h1, h2, h3, h4, h5⟩ := h.ex
  exact ⟨f, fd, ps, k, h1, h2, hr, h3, h4, h5⟩
section
variable {P : Program} {w : World} {K : PySem.W.Frag} {mg : Str → Option Value} {base : Heap} {C : Nat → Addr}
theorem fk_of {x : Str} {st : Stmt} {N ps : List Str} {k : Nat} (d : Df K mg x st ps) (S : FnScope N ps (defScope st)) (pr : List Nat) {den : ENV → R Fl} (hlen : ps.length ≤ N.length)
    (hb : ∀ (f : Addr) (cdv : Value) (A : Around) (outer : List Env) (s : Shared) (H : Hp) (E : XK) (ad : Nat → Addr), Room k (A.deeper (PyProof.Rows.envOfC x (defScope st) s.heap.objs.size f cdv)) →
      DSs (cxOf (L2.CX P w) P w K mg base N x (defScope st) f cdv A outer s H E) ⟨C, fun cl d _ H => E cl d H, pr, ad, fun _ => none⟩ (defBody st) den) : Fk P w K mg base C x ps.length (k + 1) (runF pr N.length den) := by
  obtain ⟨f, fd, F, hm, hbd⟩ := d.ex
  exact ⟨f, fd, ps, rfl, fn_ok F S pr hlen (hb f), hm, F.kp, .all hbd⟩
/-- the def's own object -/
noncomputable def Df.f {x : Str} {st : Stmt} {ps : List Str} (d : Df K mg x st ps) : Addr := d.ex.choose
noncomputable def Df.fd {x : Str} {st : Stmt} {ps : List Str} (d : Df K mg x st ps) : FuncData := d.ex.choose_spec.choose
theorem fnok_of {x : Str} {st : Stmt} {N ps : List Str} {k : Nat} (d : Df K mg x st ps) (S : FnScope N ps (defScope st)) (pr : List Nat) {den : ENV → R Fl} (hlen : ps.length ≤ N.length)
    (hb : ∀ (f : Addr) (cdv : Value) (A : Around) (outer : List Env) (s : Shared) (H : Hp) (E : XK) (ad : Nat → Addr), Room k (A.deeper (PyProof.Rows.envOfC x (defScope st) s.heap.objs.size f cdv)) →
      DSs (cxOf (L2.CX P w) P w K mg base N x (defScope st) f cdv A outer s H E) ⟨C, fun cl d _ H => E cl d H, pr, ad, fun _ => none⟩ (defBody st) den) : FnOk P w K mg base (L2.CX P w) (k + 1) d.f d.fd ps (spF K C ps.length (runF pr N.length den)) :=
  fn_ok d.ex.choose_spec.choose_spec.1 S pr hlen (hb d.f)
theorem hu65 {k : Nat} {A : Around} (hr : Room k A) : A.units + 65 < cLine := by have := hr.un; omega
end
end Rf
set_option Elab.async false
set_option linter.all false
set_option maxRecDepth 100000
/-! Rf: exceptions of the text, the end of a law -/
namespace Rf
open PySem PySem.Spec L2
/-- an exception class of the text over ValueError, without __init__ -/
structure ExF (K : PySem.W.Frag) (mg : Str → Option Value) (c : Addr) (x : Str) : Prop where
  q : PySem.W.excIn K c PySem.HandSPX.veTail "ValueError.__new__" = true
  gC : mg x = some (.ref c)
  kC : PySem.W.keepIn K (.ref c) = true
  bP : PySem.W.subIn K (.ref c) (.type "BaseException") = some true
  tP : PySem.W.typeIn K (.ref c) = some (.type "type")
theorem ExF.pmk {X : Cx} {c : Addr} {x : Str} {p pos : Pos} (h : ExF X.K X.mg c x) (hg : Gl X x) (hd : (x == ("__debug__" : Str)) = false := by decide) : PMk X (.Call (.Name x p) [] [] pos) (fun _ H Q => Q (.ref c) none H) :=
  pmk_own0 PySem.F.excBase_ValueError h.q h.gC h.kC (raises_own h.bP h.tP) hg hd
theorem ExF.names {X : Cx} {c : Addr} {x : Str} (h : ExF X.K X.mg c x) (hg : Gl X x) (hd : (x == ("__debug__" : Str)) = false := by decide) : Names X x (.ref c) := ⟨hg, hd, .inl h.gC⟩
theorem exm_at {K : PySem.W.Frag} {S T : Addr} {b : Bool} (h1 : PySem.W.subIn K (.ref T) (.type "BaseException") = some true) (h2 : PySem.W.isClsIn K T = true) (h3 : PySem.W.typeIn K (.ref T) = some (.type "type")) (h4 : PySem.W.subIn K (.ref S) (.ref T) = some b) :
    PySem.W.exmOne K (.ref S) (.ref T) = some b := by
  have e1 : (PySem.W.subIn K (.ref T) (.type "BaseException") == some true) = true := by rw [h1] <;> rfl
  have e2 : ((PySem.W.clsIn K T).isSome && PySem.W.typeIn K (.ref T) == some (.type "type")) = true := by
    have h2' : (PySem.W.clsIn K T).isSome = true := h2
    rw [h2', h3] <;> rfl
  show (if (PySem.W.subIn K (.ref T) (.type "BaseException") == some true) = true then (if ((PySem.W.clsIn K T).isSome && PySem.W.typeIn K (.ref T) == some (.type "type")) = true then PySem.W.subIn K (.ref S) (.ref T) else none) else none) = some b
  rw [if_pos e1, if_pos e2]
  exact h4
/-- what the law is handed: the script -/
def spScript (K : PySem.W.Frag) : Sp := fun vs H Q _ => ∃ (a : Addr) (ns : List Int), vs = [.ref a] ∧ SqL K H a (ns.map V.int) ∧ ns.length ≤ 63 ∧ ∀ H', Q (.bl true) H'
theorem rpl_ints {K : PySem.W.Frag} {C : Nat → Addr} {G : Hp} : ∀ ns : List Int, RpL K C G (ns.map V.int) (ns.map D.int)
  | [] => .nil
  | n :: ns => .cons (.int n) (rpl_ints ns)
theorem script_imp {K : PySem.W.Frag} {C : Nat → Addr} {F : List DV → FO} (ht : ∀ ns : List Int, ns.length ≤ 63 → F [.sh (.scr (ns.map D.int))] = .ok (.sh (.bl true)) []) : ∀ vs H Q E, spScript K vs H Q E → spF K C 1 F vs H Q E := by
  rintro vs H Q E ⟨a, ns, rfl, hS, hl, k⟩
  refine ⟨[.sh (.scr (ns.map D.int))], H, H, rfl, Same.refl H, Same.refl H, .sh (.scr hS (rpl_ints ns)) .nil, fun i j m m' p e1 => ?_, ?_⟩
  · cases i with
    | zero => simp at e1
    | succ i => simp at e1
  · rw [ht ns hl]
    intro x G' H' ex sb sg os hv
    cases hv
    exact k H'
theorem walk_end {l : PySem.W.OpenLaw} {k : Nat} {q : Program} {loose : List Str} {XP : (Str → Option Value) → Heap → Prop} {YP : World → Heap → Prop} {d : DefRec} {K : Params → PySem.W.Frag} {F : List DV → FO} (hn : l.most = some 63) (hdf : d.params.defaults = [])
    (hd : d.name = "law") (hr : Room k callerA) (hY : ∀ (w : World) (h : Heap), YP w h → (K w.params).In h)
    (hF : ∀ (w : World) (mg : Str → Option Value) (h : Heap), (K w.params).In h → h.Ns mainGlobals mg → ∃ (C : Nat → Addr) (st : Stmt) (df : Df (K w.params) mg "law" st ["_law_script"]), ∀ base : Heap, FnOk l.prog w (K w.params) mg base (L2.CX l.prog w) k df.f df.fd ["_law_script"] (spF (K w.params) C 1 F))
    (ht : ∀ ns : List Int, ns.length ≤ 63 → F [.sh (.scr (ns.map D.int))] = .ok (.sh (.bl true)) []) : PySem.W.WalkO q loose XP YP l.row.toRowW d [] (fun f vs => PySem.call f vs) := by
  refine L2.walk_of (n := 63) (k := k) (x := "_law_script") (CX := fun w => L2.CX l.prog w) (sp := fun w => spScript (K w.params)) hn (by decide) hdf hr hY (fun w mg fa h KX G hm => ?_) (fun w H a ns hl _ hS => ⟨a, ns, rfl, hS, hl, fun _ => rfl⟩) fun w H s e s' h => ?_
  · obtain ⟨C, st, df, h⟩ := hF w mg h KX G
    obtain ⟨hf1, hf2, hf3⟩ := df.ex.choose_spec.choose_spec
    rw [hd] at hm
    have e : Value.ref fa = Value.ref df.f := Option.some.inj (hm.symm.trans hf2)
    injection e with e
    subst e
    exact ⟨df.fd, fun s u => .of_eq (hf3 [u] rfl), fun base _ _ => (h base).imp (script_imp ht)⟩
  · obtain ⟨_, _, _, _, _, _, _, _, _, _, _, _, z⟩ := h
    exact z.elim
end Rf
set_option Elab.async false
set_option linter.all false
set_option maxRecDepth 100000
set_option maxHeartbeats 2000000
/-! Rf12: exceptions of the program that hold fields: making and raising them -/
namespace Rf
open PySem PySem.Spec L2 PyProof.Rows
/-- what the text says of an own class D over ValueError that has no __init__ of its own: D.__init__(self, ..) -/
structure BaseI (K : PySem.W.Frag) (mg : Str → Option Value) (Nm : Str) : Prop where
  ex : ∃ (D : Addr) (mc : Value), mg Nm = some (.ref D) ∧ PySem.W.specialIn K (.ref D) "__getattribute__" = some (some (.builtin "type.__getattribute__")) ∧ PySem.W.readsIn K D mc = true ∧
    PySem.W.findCls K (.ref D) mc "__init__" = some (.val (.builtin "ValueError.__init__"))
theorem pe_baseinit {X : Cx} {Nm : Str} {e : Expr} {es : List Expr} {ta : TA} {p1 p2 pos : Pos} {pl : Sem Bool} (b : BaseI X.K X.mg Nm) (hg : Gl X Nm) (ha : PA X (e :: es) ta)
    (hc : eval (.Call (.Attribute (.Name Nm p1) "__init__" p2) (e :: es) [] pos) X.env = (eval (.Name Nm p1) X.env >>= fun ov => standAt p2.atName >>= fun _ => holding [ov] (getMethod ov "__init__" pl) >>= fun fx =>
      callWith pos fx.1 fx.2 (backTo pos (starEach (e :: es) X.env)) (backToKw pos (keywordEach [] X.env))) := by rfl)
    (he : starEach (e :: es) X.env = (false, eval e X.env) :: starEach es X.env := by rfl) (hpl : (backTo pos (starEach es X.env)).any (·.1) = false := by rfl) (hdb : (Nm == ("__debug__" : Str)) = false := by decide) :
    PE X (.Call (.Attribute (.Name Nm p1) "__init__" p2) (e :: es) [] pos) (tVeI X.K ta) := by
  obtain ⟨D, mc, hm, ga, hr, vV⟩ := b.ex
  constructor
  intro pi s σ H Q I h
  refine PySem.W.methodCall_KW (ld_glob I hg hm (PySem.W.method_cls I.kIn ga (PySem.W.cls_value I.kIn hr vV (by decide +kernel) ?_)) hdb) hc
  show wpAny _ _ (callWith pos (.builtin "ValueError.__init__") [] (backTo pos (starEach (e :: es) X.env)) []) _ _ _
  refine PyProof.Rows.callWith_method1 (thn (ha.run pos pi _ σ H _ (I.tok _) h) fun us s1 x => ?_) he hpl
  obtain ⟨vs, H1, I1, r1, a, C, ws, rfl, hl, T, ea, q⟩ := x
  cases r1 with
  | @cons _ u0 _ ur ra rw' =>
    cases (show u0 = Value.ref a from ra)
    have hz : ur.length ≤ sizeLine := by
      have := Paired.length rw'
      rw [sizeLine_eq]; omega
    exact oinit_ok T I1 ea hz fun s' J => ⟨.non, H1, J, rfl, q⟩
/-- the promise of an __init__ that keeps its arguments under the names fs, in this order -/
def spI (C : Addr) (fs : List Str) : Sp := fun vs H Q _ => ∃ (a : Addr) (us : List V), vs = .ref a :: us ∧ us.length = fs.length ∧ H a = some (exo a C none) ∧
  ∀ (dx : Addr) (H' : Hp), H dx = none → dx ≠ a → H' a = some (exo a C (some dx)) → H' dx = some (exd dx (fs.zip us).reverse) → (∀ b, b ≠ a → b ≠ dx → H' b = H b) → Q .non H'
/-- an exception class of the program that holds fields -/
structure ExI (P : Program) (w : World) (K : PySem.W.Frag) (mg : Str → Option Value) (base : Heap) (C : Addr) (x : Str) (fs : List Str) (k : Nat) : Prop where
  gC : mg x = some (.ref C)
  cl : OexC K C
  ex : ∃ (fI : Addr) (fd : FuncData) (ps : List Str), PySem.W.findIn K (.ref C) "__init__" = some (some (.ref fI)) ∧ PySem.W.typeIn K (.ref fI) = some (.type "function") ∧ FnOk P w K mg base CX0 k fI fd ps (spI C fs) ∧ Binds K fd ps []
theorem RpF.zip {K : PySem.W.Frag} {C : Nat → Addr} {G : Hp} : ∀ (fs : List Str) {vs : List V} {ds : List D}, RpL K C G vs ds → RpF K C G (fs.zip vs) (fs.zip ds)
  | [], _, _, _ => by simp only [List.zip_nil_left]; exact .nil
  | _ :: _, _, _, .nil => by simp only [List.zip_nil_right]; exact .nil
  | _ :: fs, _, _, .cons h r => .cons h (RpF.zip fs r)
theorem RpF.app {K : PySem.W.Frag} {C : Nat → Addr} {G : Hp} : ∀ {a : List (Str × V)} {b : List (Str × D)} {a' : List (Str × V)} {b' : List (Str × D)}, RpF K C G a b → RpF K C G a' b' → RpF K C G (a ++ a') (b ++ b')
  | _, _, _, _, .nil, r => r
  | _, _, _, _, .cons h q, r => .cons h (q.app r)
theorem RpF.rev {K : PySem.W.Frag} {C : Nat → Addr} {G : Hp} : ∀ {a : List (Str × V)} {b : List (Str × D)}, RpF K C G a b → RpF K C G a.reverse b.reverse
  | _, _, .nil => .nil
  | _, _, .cons h r => by
    simp only [List.reverse_cons]
    exact r.rev.app (.cons h .nil)
def sRaiseF (c : Nat) (fs : List Str) (dr : ENV → R (List D)) : ENV → R Fl := fun ρ => (dr ρ).bind fun ds ρ1 => if ds.length = fs.length ∧ ds.length ≤ 1000 then .exc ⟨c, (fs.zip ds).reverse⟩ ρ1 else .bot
theorem ds_raiseF {X : Cx} {cc : Cc} {x : Str} {c : Nat} {fs : List Str} {k : Nat} {e : Expr} {es : List Expr} {dr : ENV → R (List D)} {p p2 pos : Pos} (hc : X.calm = true) (tk : Takes X cc.W) (T : ExI X.prog X.w X.K X.mg X.base (cc.C c) x fs k) (hr : Room (k + 1) X.A) (hg : Gl X x)
    (rs : Raises X (.ref (cc.C c))) (ha : DA X cc (e :: es) dr) (hdb : (x == ("__debug__" : Str)) = false := by decide) (he : starEach (e :: es) X.env = (false, eval e X.env) :: starEach es X.env := by rfl) (hpl : (backTo p2 (starEach es X.env)).any (·.1) = false := by rfl) :
    DS X cc (.Raise (some (.Call (.Name x p) (e :: es) [] p2)) none pos) (sRaiseF c fs dr) := by
  obtain ⟨fI, fd, ps, iC, tI, F1, hb⟩ := T.ex
  refine PS.imp (ps_raise hc tk (pmk_oex (dvs := []) T.cl iC tI F1 hr hb .nil pass0 hg T.gC ha hdb he hpl)) fun Dn σ H ⟨B, ρ, G, R0, h⟩ => ⟨B, ρ, G, R0, h.bind fun ds ρ1 G1 H1 vs e1 R1 p1 q1 => ?_⟩
  by_cases hd : ds.length = fs.length ∧ ds.length ≤ 1000
  · rw [if_pos hd] at q1
    have hvl := p1.length
    refine ⟨by omega, fun a hna => ⟨a, vs, by rw [List.append_nil], by omega, upd_same, fun dx H' n1 ne h1 h2 oth => ⟨rfl, dx, _, h1, h2, ?_, ?_⟩⟩⟩
    · rw [upd_ne ne] at n1; exact n1
    · have n2 : H1 dx = none := by rw [upd_ne ne] at n1; exact n1
      have same : upd (del H' a) dx (.xd (fs.zip vs).reverse) = upd H1 dx (.xd (fs.zip vs).reverse) := by
        funext b
        by_cases hb : b = dx
        · subst hb; rw [upd_same, upd_same]
        · rw [upd_ne hb, upd_ne hb]
          by_cases hba : b = a
          · subst hba; rw [del_same, hna]
          · rw [del_ne hba, oth b hba hb, upd_ne hba]
      rw [same]
      have g := Grow.new (o := .xd (fs.zip vs).reverse) R1.gk n2
      exact q1 _ _ σ _ _ (g.ext R1.bk) (R1.grow g) ⟨rfl, .inr ⟨dx, _, rfl, upd_same, ((RpF.zip fs (p1.mono g.gg)).rev)⟩⟩
  · rw [if_neg hd] at q1
    exact q1.elim
/-! ### such an __init__ -/
section
variable {K : PySem.W.Frag} {C : Addr} {f1 f2 : Str} {N : List Str} {vs : List V} {H : Hp} {Q : VK} {E : XK}
theorem spI_len {fs : List Str} (h : spI C fs vs H Q E) : vs.length = fs.length + 1 := by
  obtain ⟨a, us, rfl, hl, _⟩ := h
  rw [List.length_cons, hl]
def tBase (K : PySem.W.Frag) (m : Str) (t : TS) : TS := tSeq (tDrop (tVeI K (tCons (tVar 0) (tCons (tC (.str m)) tNil)))) t
theorem rd_base {m : Str} {t : TS} {D : Ends} {σ : L2.St} {a : Addr} (T : OexC K C) (e0 : σ[0]? = some (some (.ref a))) (ea : H a = some (exo a C none)) (h : t D σ H) : tBase K m t D σ H :=
  ⟨.ref a, e0, a, C, [.str m], rfl, (by show 1 ≤ 1000; decide), T, ea, h⟩
def tF1 (K : PySem.W.Frag) (f1 : Str) : TS := tSeq (tOst K f1 (tVar 0) (tVar 1)) tNext
def tF2 (K : PySem.W.Frag) (f1 f2 : Str) : TS := tSeq (tOst K f1 (tVar 0) (tVar 1)) (tSeq (tOst K f2 (tVar 0) (tVar 2)) tNext)
theorem rd_f1 {a : Addr} {y : V} (T : OexC K C) (h1 : PySem.W.findIn K (.ref C) f1 = some none) (ea : H a = some (exo a C none))
    (q : ∀ (dx : Addr) (H' : Hp), H dx = none → dx ≠ a → H' a = some (exo a C (some dx)) → H' dx = some (exd dx ([f1].zip [y]).reverse) → (∀ b, b ≠ a → b ≠ dx → H' b = H b) → Q .non H') :
    tF1 K f1 { nx := fun _ H' => Q .non H', rt := Q } [some (.ref a), some y] H :=
  ⟨y, rfl, .ref a, rfl, a, C, rfl, T, h1, .inl ⟨ea, fun dx n ne => q dx _ n ne upd_same (by rw [upd_ne ne, upd_same]; rfl) fun b hb hd => by rw [upd_ne hb, upd_ne hd]⟩⟩
theorem rd_f2 {a : Addr} {y z : V} (T : OexC K C) (h1 : PySem.W.findIn K (.ref C) f1 = some none) (h2 : PySem.W.findIn K (.ref C) f2 = some none) (ea : H a = some (exo a C none))
    (q : ∀ (dx : Addr) (H' : Hp), H dx = none → dx ≠ a → H' a = some (exo a C (some dx)) → H' dx = some (exd dx ([f1, f2].zip [y, z]).reverse) → (∀ b, b ≠ a → b ≠ dx → H' b = H b) → Q .non H') :
    tF2 K f1 f2 { nx := fun _ H' => Q .non H', rt := Q } [some (.ref a), some y, some z] H :=
  ⟨y, rfl, .ref a, rfl, a, C, rfl, T, h1, .inl ⟨ea, fun dx n ne => ⟨z, rfl, .ref a, rfl, a, C, rfl, T, h2, .inr ⟨dx, [(f1, y)], upd_same, by rw [upd_ne ne, upd_same], (by show 1 ≤ 900; decide), q dx _ n ne (by rw [upd_ne ne.symm, upd_same]) (by rw [upd_same]; rfl) fun b hb hd => by rw [upd_ne hd, upd_ne hb, upd_ne hd]⟩⟩⟩⟩
theorem init_b1 {m : Str} (T : OexC K C) (h1 : PySem.W.findIn K (.ref C) f1 = some none) (hN : N.length = 2) (h : spI C [f1] vs H Q E) : tBase K m (tF1 K f1) { nx := fun _ H' => Q .non H', rt := Q } (L2.start N vs) H := by
  obtain ⟨a, us, rfl, hl, ea, q⟩ := h
  match us, hl, N, hN with
  | [y], _, [_, _], _ => exact rd_base T rfl ea (rd_f1 T h1 ea q)
theorem init_n1 (T : OexC K C) (h1 : PySem.W.findIn K (.ref C) f1 = some none) (hN : N.length = 2) (h : spI C [f1] vs H Q E) : tF1 K f1 { nx := fun _ H' => Q .non H', rt := Q } (L2.start N vs) H := by
  obtain ⟨a, us, rfl, hl, ea, q⟩ := h
  match us, hl, N, hN with
  | [y], _, [_, _], _ => exact rd_f1 T h1 ea q
theorem init_b2 {m : Str} (T : OexC K C) (h1 : PySem.W.findIn K (.ref C) f1 = some none) (h2 : PySem.W.findIn K (.ref C) f2 = some none) (hN : N.length = 3) (h : spI C [f1, f2] vs H Q E) : tBase K m (tF2 K f1 f2) { nx := fun _ H' => Q .non H', rt := Q } (L2.start N vs) H := by
  obtain ⟨a, us, rfl, hl, ea, q⟩ := h
  match us, hl, N, hN with
  | [y, z], _, [_, _, _], _ => exact rd_base T rfl ea (rd_f2 T h1 h2 ea q)
theorem init_n2 (T : OexC K C) (h1 : PySem.W.findIn K (.ref C) f1 = some none) (h2 : PySem.W.findIn K (.ref C) f2 = some none) (hN : N.length = 3) (h : spI C [f1, f2] vs H Q E) : tF2 K f1 f2 { nx := fun _ H' => Q .non H', rt := Q } (L2.start N vs) H := by
  obtain ⟨a, us, rfl, hl, ea, q⟩ := h
  match us, hl, N, hN with
  | [y, z], _, [_, _, _], _ => exact rd_f2 T h1 h2 ea q
end
end Rf
set_option Elab.async false
set_option linter.all false
set_option maxRecDepth 100000
/-! Rf13: try .. except X as e; e.f and isinstance(e, Y) in the suite; several handlers -/
namespace Rf
open PySem PySem.Spec L2 PyProof.Rows
/-- the context of a suite: the exception stands at a, in slot i; what was frozen then is kept -/
def Cc.hold (cc : Cc) (i : Nat) (a : Addr) (G0 : Hp) : Cc := ⟨cc.C, fun _ _ _ _ => False, i :: cc.pr, fun j => if j = i then a else cc.ad j, G0⟩
section
variable {K : PySem.W.Frag} {cc : Cc} {B : Hp} {ρ : ENV} {σ : L2.St} {G H G0 : Hp} {i : Nat} {a : Addr}
theorem setN_some {ρ : ENV} {i j : Nat} {x : DV} (h : (ρ.set i none)[j]? = some (some x)) : j ≠ i ∧ ρ[j]? = some (some x) := by
  by_cases e : j = i
  · subst e
    by_cases hl : j < ρ.length
    · rw [List.getElem?_set_self hl] at h; cases h
    · rw [List.getElem?_eq_none (by rw [List.length_set]; omega)] at h; cases h
  · rw [List.getElem?_set_ne (Ne.symm e)] at h; exact ⟨e, h⟩
theorem Rl.enter (r : Rl K cc B ρ σ G H) (hi : i < ρ.length) : Rl K (cc.hold i a G) B (ρ.set i none) (σ.set i (some (.ref a))) G H := by
  refine ⟨r.bk, r.gk, by rw [List.length_set, List.length_set]; exact r.ln, fun j d h => ?_, fun j m h => ?_, fun j k m m' p h1 h2 h3 h4 => ?_, fun j hj => ?_, Same.refl G⟩
  · obtain ⟨ne, h⟩ := setN_some h
    obtain ⟨v, h1, h2⟩ := r.sh j d h
    exact ⟨v, by rw [List.getElem?_set_ne (Ne.symm ne)]; exact h1, h2⟩
  · obtain ⟨ne, h⟩ := setN_some h
    obtain ⟨v, h1, h2⟩ := r.ow j m h
    exact ⟨v, by rw [List.getElem?_set_ne (Ne.symm ne)]; exact h1, h2⟩
  · obtain ⟨n1, h1⟩ := setN_some h1
    obtain ⟨n2, h2⟩ := setN_some h2
    rw [List.getElem?_set_ne (Ne.symm n1)] at h3
    rw [List.getElem?_set_ne (Ne.symm n2)] at h4
    exact r.df j k m m' p h1 h2 h3 h4
  · by_cases e : j = i
    · subst e
      rw [List.getElem?_set_self (by rw [r.ln]; exact hi)]
      show _ = some (some (V.ref (if j = j then a else cc.ad j)))
      rw [if_pos rfl]
    · rw [List.getElem?_set_ne (Ne.symm e)]
      show _ = some (some (V.ref (if j = i then a else cc.ad j)))
      rw [if_neg e]
      exact r.pa j ((List.mem_cons.mp hj).resolve_left e)
theorem Rl.leave (r : Rl K (cc.hold i a G0) B ρ σ G H) (hp : i ∉ cc.pr) (hk : Same cc.kb G0) : Rl K cc B (ρ.set i none) (σ.set i none) G H := by
  refine ⟨r.bk, r.gk, by rw [List.length_set, List.length_set]; exact r.ln, fun j d h => ?_, fun j m h => ?_, fun j k m m' p h1 h2 h3 h4 => ?_, fun j hj => ?_, hk.trans r.kg⟩
  · obtain ⟨ne, h⟩ := setN_some h
    obtain ⟨v, h1, h2⟩ := r.sh j d h
    exact ⟨v, by rw [List.getElem?_set_ne (Ne.symm ne)]; exact h1, h2⟩
  · obtain ⟨ne, h⟩ := setN_some h
    obtain ⟨v, h1, h2⟩ := r.ow j m h
    exact ⟨v, by rw [List.getElem?_set_ne (Ne.symm ne)]; exact h1, h2⟩
  · obtain ⟨n1, h1⟩ := setN_some h1
    obtain ⟨n2, h2⟩ := setN_some h2
    rw [List.getElem?_set_ne (Ne.symm n1)] at h3
    rw [List.getElem?_set_ne (Ne.symm n2)] at h4
    exact r.df j k m m' p h1 h2 h3 h4
  · have e : j ≠ i := fun z => hp (z ▸ hj)
    have q := r.pa j (List.mem_cons_of_mem _ hj)
    rw [List.getElem?_set_ne (Ne.symm e), q]
    show some (some (V.ref (if j = i then a else cc.ad j))) = _
    rw [if_neg e]
/-- behind a suite -/
theorem PostS.leave {D : Ends} {f : Fl} {ρ2 : ENV} (h : PostS K cc B G0 D (.ok f (ρ2.set i none))) (hp : i ∉ cc.pr) (hk : Same cc.kb G0) :
    PostS K (cc.hold i a G0) B G0 { nx := fun σ' H' => D.nx (σ'.set i none) H', rt := D.rt, bk := fun σ' H' => D.bk (σ'.set i none) H', ct := fun σ' H' => D.ct (σ'.set i none) H' } (.ok f ρ2) := by
  cases f with
  | nx => exact fun σ' G' H' e R => h _ G' H' e (R.leave hp hk)
  | bk => exact fun σ' G' H' e R => h _ G' H' e (R.leave hp hk)
  | ct => exact fun σ' G' H' e R => h _ G' H' e (R.leave hp hk)
  | ret v => cases v with
    | sh d => exact fun v σ' G' H' e R p => h v _ G' H' e (R.leave hp hk) p
    | ow m => exact fun p σ' G' H' e R o n => h p _ G' H' e (R.leave hp hk) o fun j m' hj hs => n j m' (setN_some hj).2 (by rw [List.getElem?_set_ne (Ne.symm (setN_some hj).1)] at hs; exact hs)
end
/-- try: body, except class c as (slot i): suite -/
def sTryAs (sub : Nat → Nat → Option Bool) (sb : ENV → R Fl) (c i : Nat) (ss : EX → ENV → R Fl) : ENV → R Fl := fun ρ => match sb ρ with
  | .exc e ρ1 => match sub e.c c with
    | some true => if i < ρ1.length then match ss e (ρ1.set i none) with
      | .ok f ρ2 => .ok f (ρ2.set i none)
      | _ => .bot else .bot
    | some false => .exc e ρ1
    | none => .bot
  | r => r
theorem pss_ex {X : Cx} {st : List Stmt} {α : Type} {p : α → Prop} {t : α → TS} (h : ∀ x, p x → PSs X st (t x)) : PSs X st (fun D σ H => ∃ x, p x ∧ t x D σ H) := by
  constructor
  intro pi s σ H D I ⟨x, hx, q⟩
  exact (h x hx).run pi s σ H D I q
section
variable {X : Cx} {cc : Cc} {sub : Nat → Nat → Option Bool} {pos : Pos}
theorem ds_try_as {x n : Str} {c i : Nat} {body suite : List Stmt} {b0 : Stmt} {np pos' : Pos} {sb : ENV → R Fl} {ss : EX → ENV → R Fl} (hs : X.stack = X.env :: X.outer) (hf : X.env.frame = some X.env.locals) (hN : X.N.Nodup) (hc : Names X x (.ref (cc.C c))) (tk : Takes X cc.W)
    (hsub : ∀ i j b, sub i j = some b → PySem.W.exmOne X.K (.ref (cc.C i)) (.ref (cc.C j)) = some b)
    (hb : ∀ (W : WX) (pn : List (Addr × Obj)) (xe : Value → Shared → Prop), Takes (X.tr pn xe) W → PassesOwn (model X.prog X.w) X.A X.env xe → DSs (X.tr pn xe) { cc with W := W } body sb)
    (hsu : ∀ (e : EX) (a : Addr) (oe : Obj) (d : Option Addr) (pn : List (Addr × Obj)) (G0 : Hp), Zc (.ref (cc.C e.c)) d oe → (∃ vs, oe.data = .fields vs) → ERp X.K cc.C G0 e (.ref (cc.C e.c)) d → DSs (X.suite a ((a, oe) :: pn)) (cc.hold i a G0) (b0 :: suite) (ss e))
    (hi : X.N[i]? = some n := by rfl) (hln : X.env.kindOf n = some .local := by rfl) (hp : cc.pr.contains i = false := by rfl) :
    DS X cc (.Try body [.ExceptHandler (some (.Name x np)) (some n) (b0 :: suite) pos'] [] [] pos) (sTryAs sub sb c i ss) := by
  have hpn : i ∉ cc.pr := Rf.np hp
  refine PS.imp (ps_try_as (tb := fun W => rS X.K { cc with W := W } sb) (ts := fun a cls d D σ H => ∃ z : EX × Hp, (cls = .ref (cc.C z.1.c) ∧ ERp X.K cc.C z.2 z.1 cls d) ∧ rS X.K (cc.hold i a z.2) (ss z.1) D σ H) hs hf hN hi hln hc tk (fun W pn xe tk' po => hb W pn xe tk' po)
    (fun a oe cls d pn hz hfl => pss_ex fun z hzz => by obtain ⟨rfl, er⟩ := hzz; exact hsu z.1 a oe d pn z.2 hz hfl er)) fun Dn σ H ⟨B, ρ, G, R0, h⟩ => ⟨B, ρ, G, R0.toW _, ?_⟩
  unfold sTryAs at h
  cases hr : sb ρ with
  | bot => rw [hr] at h; exact h
  | ok f ρ1 =>
    rw [hr] at h
    exact PostS.toW h fun e ρ q => by cases q
  | exc e ρ1 =>
    rw [hr] at h
    dsimp only at h
    refine fun cl dd σ' G' H' ex R er => ?_
    cases hq : sub e.c c with
    | none => rw [hq] at h; exact h.elim
    | some b =>
      rw [hq] at h
      have hm := hsub _ _ _ hq
      obtain ⟨ecl, _⟩ := id er
      subst ecl
      refine ⟨b, hm, fun hb a _ => ?_, fun hb => ?_⟩
      · subst hb
        dsimp only at h
        obtain ⟨hlt, h⟩ := ite_postS h
        refine ⟨(e, G'), ⟨rfl, er⟩, B, ρ1.set i none, G', R.ofW.enter hlt, ?_⟩
        have h := PostS.ext h ex
        cases hss : ss e (ρ1.set i none) with
        | bot => rw [hss] at h; exact h
        | exc _ _ => rw [hss] at h; exact h.elim
        | ok f ρ2 =>
          rw [hss] at h
          exact PostS.leave h hpn R.ofW.kg
      · subst hb
        exact h _ _ _ _ _ ex R.ofW er
/-! ### in the suite -/
theorem RpF.look {K : PySem.W.Frag} {C : Nat → Addr} {G : Hp} {f : Str} : ∀ {fl : List (Str × V)} {fs : List (Str × D)} {d : D}, RpF K C G fl fs → fs.lookup f = some d → ∃ v, fl.lookup f = some v ∧ Rp K C G v d
  | _, _, _, .nil, e => by cases e
  | _, _, d, @RpF.cons _ _ _ n v d0 vs ds h r, e => by
    by_cases q : f = n
    · subst q
      rw [List.lookup_cons_self] at e
      cases e
      exact ⟨v, List.lookup_cons_self, h⟩
    · have z : (f == n) = false := by simpa using q
      rw [List.lookup_cons, z] at e
      obtain ⟨u, h1, h2⟩ := r.look e
      exact ⟨u, by rw [List.lookup_cons, z]; exact h1, h2⟩
/-- e.f -/
def dXf (ok : Nat → Bool) (f : Str) (e : EX) : ENV → R D := fun ρ => if ok e.c = true then R.of (e.fs.lookup f) ρ else .bot
structure XfOk (K : PySem.W.Frag) (C : Nat → Addr) (f : Str) (ok : Nat → Bool) : Prop where
  at_ : ∀ c, ok c = true → XfC K (C c) ∧ PySem.W.findIn K (.ref (C c)) f = some none
theorem de_xf {f n : Str} {i : Nat} {e : EX} {ok : Nat → Bool} {a : Addr} {oe : Obj} {d : Option Addr} {pn : List (Addr × Obj)} {G0 : Hp} {p : Pos} (F : XfOk X.K cc.C f ok) (hz : Zc (.ref (cc.C e.c)) d oe) (hf : ∃ vs, oe.data = .fields vs) (er : ERp X.K cc.C G0 e (.ref (cc.C e.c)) d)
    (hi : X.N[i]? = some n := by rfl) (hv : Vis X.env.scope n := by first | exact Or.inl rfl | exact Or.inr (Or.inl rfl) | exact Or.inr (Or.inr rfl)) (hd : (n == ("__debug__" : Str)) = false := by decide) (hcd : (n == ("__classdict__" : Str)) = false := by decide)
    (hb : attributeBase (.Name n p) f X.env (eval (.Name n p) X.env) = eval (.Name n p) X.env := by rfl) : DE (X.suite a ((a, oe) :: pn)) (cc.hold i a G0) (.Attribute (.Name n p) f pos) (dXf ok f e) := by
  by_cases ho : ok e.c = true
  · obtain ⟨xc, hno⟩ := F.at_ _ ho
    have te : PE (X.suite a ((a, oe) :: pn)) (.Name n p) (tVar i) := pe_var hi hv hd hcd
    refine PE.imp (pe_xf xc hno hz hf te hb) fun σ H Q ⟨B, ρ, G, R0, h⟩ => ?_
    unfold dXf at h
    rw [if_pos ho] at h
    have pa := R0.pa i List.mem_cons_self
    have hai : (cc.hold i a G0).ad i = a := if_pos rfl
    rw [hai] at pa
    cases hl : e.fs.lookup f with
    | none => rw [hl] at h; exact h.elim
    | some v =>
      rw [hl] at h
      rcases er with ⟨_, ⟨e0, _⟩ | ⟨dx, fl, hd', hg, rf⟩⟩
      · rw [e0] at hl; cases hl
      · obtain ⟨u, h1, h2⟩ := rf.look hl
        exact ⟨_, pa, rfl, rfl, dx, fl, u, hd', R0.gk _ _ (R0.kg _ _ hg), h1, h u G H (Ext.refl _ _) R0 (h2.mono R0.kg)⟩
  · refine ⟨fun pi s σ H Q I ⟨B, ρ, G, R0, h⟩ => ?_⟩
    unfold dXf at h
    rw [if_neg ho] at h
    exact h.elim
end
end Rf
set_option Elab.async false
set_option linter.all false
set_option maxRecDepth 100000
/-! Rf14: isinstance(e, Y) in the suite of try .. except X as e -/
namespace Rf
open PySem PySem.Spec L2 PyProof.Rows
/-- e's class, for isinstance -/
structure XiOk (K : PySem.W.Frag) (D : Addr) : Prop where
  cl : (PySem.W.clsIn K D).isSome = true
  ga : PySem.W.findIn K (.ref D) "__getattribute__" = some (some (.builtin "BaseException.__getattribute__"))
  gt : PySem.W.findIn K (.ref D) "__getattr__" = some none
  sb : PySem.W.subIn K (.ref D) (.type "BaseException") = some true
  ca : PySem.W.findIn K (.ref D) "__class__" = some (some (.builtin "object.__class__"))
  sp : PySem.W.specialIn K (.builtin "object.__class__") "__get__" = some (some (.builtin "getset_descriptor.__get__"))
  tk : PySem.W.takesIn K (.builtin "object.__class__") = some true
  mo : PySem.W.mroIn K D (.type "object") = some true
def rXi (K : PySem.W.Frag) (D a : Addr) (d : Option Addr) : List V → Hp → VK → Prop := fun xs H Q => ∃ (c : V) (cv : Value) (b : Bool), xs = [.ref a, c] ∧ (∀ u, RelV c u → u = cv) ∧ PySem.W.kitOne K (.ref D) cv = some b ∧ (∀ dx, d = some dx → ∃ fl, H dx = some (.xd fl)) ∧ Q (.bl b) H
theorem cr_xi {X : Cx} {a D : Addr} {oe : Obj} {d : Option Addr} {pn : List (Addr × Obj)} (C : XiOk X.K D) (hz : Zc (.ref D) d oe) (hf : ∃ vs, oe.data = .fields vs) : CallR (X.suite a ((a, oe) :: pn)) (.builtin "isinstance") (rXi X.K D a d) := by
  intro pi s σ H xs us Q I r h
  obtain ⟨c, cv, b, rfl, hcv, e, hd, q⟩ := h
  match us, r with
  | [_, _], .cons rx (.cons rt .nil) =>
    cases rx
    cases hcv _ rt
    obtain ⟨hget, _⟩ := I.pin (a, oe) (List.mem_append.mpr (.inl List.mem_cons_self))
    obtain ⟨vs, hv⟩ := hf
    have J : ∃ od, PySem.W.InstAt s.heap a oe D od := by
      obtain ⟨h1, h2⟩ := hz
      have nc : PySem.W.notCls oe = true := by unfold PySem.W.notCls; rw [hv]
      cases d with
      | none => exact ⟨none, hget, h1, nc, by rw [h2]; trivial⟩
      | some dx =>
        obtain ⟨fl, hx⟩ := hd dx rfl
        have hxx : ObjOk X.prog X.w H s.heap dx (.xd fl) := I.hok dx _ hx
        obtain ⟨mA, hns, _⟩ := hxx
        obtain ⟨od, ho, _⟩ := lookIn_ns hns
        exact ⟨some od, hget, h1, nc, by rw [h2]; exact ho⟩
    obtain ⟨od, J⟩ := J
    exact PySem.W.kia_one (PySem.W.kitx_exc C.cl C.ga C.gt C.sb C.ca C.sp C.tk C.mo) I.kIn J e (fun z => nomatch z) fun tk => ⟨.bl b, H, I.kept (t' := tk) fun _ _ z => z, rfl, q⟩
/-- isinstance(e, Y) -/
def dXi (f : Nat → Option Bool) (e : EX) : ENV → R D := fun ρ => R.of ((f e.c).map D.bl) ρ
structure XiAll (K : PySem.W.Frag) (C : Nat → Addr) (cu : Value) (f : Nat → Option Bool) : Prop where
  at_ : ∀ c b, f c = some b → XiOk K (C c) ∧ PySem.W.kitOne K (.ref (C c)) cu = some b
section
variable {X : Cx} {cc : Cc} {pos : Pos}
theorem de_xi {x y n : Str} {i : Nat} {e : EX} {f : Nat → Option Bool} {cv : V} {cu : Value} {a : Addr} {oe : Obj} {d : Option Addr} {pn : List (Addr × Obj)} {G0 : Hp} {p p1 p2 : Pos} (F : XiAll X.K cc.C cu f) (hz : Zc (.ref (cc.C e.c)) d oe) (hf : ∃ vs, oe.data = .fields vs) (er : ERp X.K cc.C G0 e (.ref (cc.C e.c)) d)
    (hc : PE (X.suite a ((a, oe) :: pn)) (.Name y p2) (tC cv)) (hk : ∀ u, RelV cv u → u = cu) (hg : Gl X x) (hm : X.mg x = none) (hvx : bootBuiltins x = some (.builtin "isinstance"))
    (hi : X.N[i]? = some n := by rfl) (hv : Vis X.env.scope n := by first | exact Or.inl rfl | exact Or.inr (Or.inl rfl) | exact Or.inr (Or.inr rfl)) (hd : (n == ("__debug__" : Str)) = false := by decide) (hcd : (n == ("__classdict__" : Str)) = false := by decide)
    (hn : x ≠ "__name__" := by decide) (hdb : (x == ("__debug__" : Str)) = false := by decide) (he : starEach [.Name n p1, .Name y p2] X.env = (false, eval (.Name n p1) X.env) :: starEach [.Name y p2] X.env := by rfl)
    (hpl : (backTo pos (starEach [.Name y p2] X.env)).any (·.1) = false := by rfl) (hs2 : starEach [.Name y p2] X.env = (false, eval (.Name y p2) X.env) :: starEach [] X.env := by rfl) :
    DE (X.suite a ((a, oe) :: pn)) (cc.hold i a G0) (.Call (.Name x p) [.Name n p1, .Name y p2] [] pos) (dXi f e) := by
  cases hfc : f e.c with
  | none =>
    refine ⟨fun pi s σ H Q I ⟨B, ρ, G, R0, h⟩ => ?_⟩
    unfold dXi at h
    rw [hfc] at h
    exact h.elim
  | some b =>
    obtain ⟨xo, hko⟩ := F.at_ _ _ hfc
    have te : PE (X.suite a ((a, oe) :: pn)) (.Name n p1) (tVar i) := pe_var hi hv hd hcd
    refine PE.imp (pe_callB (cr_xi xo hz hf) hg hm hvx (pa_cons te (pa_cons hc pa_nil hs2) he) hn hdb he hpl) fun σ H Q ⟨B, ρ, G, R0, h⟩ => ?_
    unfold dXi at h
    rw [hfc] at h
    have pa := R0.pa i List.mem_cons_self
    have hai : (cc.hold i a G0).ad i = a := if_pos rfl
    rw [hai] at pa
    refine ⟨_, pa, cv, cu, b, rfl, hk, hko, fun dx hdx => ?_, h _ G H (Ext.refl _ _) R0 (.bl b)⟩
    rcases er with ⟨_, ⟨_, e0⟩ | ⟨dx', fl, hd', hg', _⟩⟩
    · rw [e0] at hdx; cases hdx
    · rw [hd'] at hdx; cases hdx
      exact ⟨fl, R0.gk _ _ (R0.kg _ _ hg')⟩
end
end Rf
set_option Elab.async false
set_option linter.all false
set_option maxRecDepth 100000
set_option maxHeartbeats 1000000
/-! Rf15: instances of classes of the program: fields read, fields set on an owned instance, instances made -/
namespace Rf
open PySem PySem.Spec L2 PyProof.Rows
/-- classes whose instances have the field f -/
structure FlOk (K : PySem.W.Frag) (C : Nat → Addr) (f : Str) (ok : Nat → Bool) : Prop where
  at_ : ∀ c, ok c = true → Cls K (C c) ∧ NoAttr K (C c) f
def vFld (ok : Nat → Bool) (f : Str) : D → Option D
  | .ins c fs => if ok c = true then fs.lookup f else none
  | _ => none
def dFld (ok : Nat → Bool) (f : Str) (da : ENV → R D) : ENV → R D := dUn (vFld ok f) da
section
variable {X : Cx} {cc : Cc} {pos : Pos} {e : Expr} {da : ENV → R D} {ok : Nat → Bool} {f : Str}
theorem de_fld (F : FlOk X.K cc.C f ok) (ha : DE X cc e da) (hb : attributeBase e f X.env (eval e X.env) = eval e X.env := by rfl) : DE X cc (.Attribute e f pos) (dFld ok f da) := by
  refine PE.imp (pe_fld ha hb) fun σ H Q ⟨B, ρ, G, R0, h⟩ => ⟨B, ρ, G, R0, h.bind fun d ρ1 G1 H1 x e1 R1 p1 h1 => ?_⟩
  cases p1 with
  | @ins a dx c fl fs hg r =>
    by_cases ho : ok c = true
    · have e0 : vFld ok f (.ins c fs) = fs.lookup f := if_pos ho
      rw [e0] at h1
      cases hl : fs.lookup f with
      | none => rw [hl] at h1; exact h1.elim
      | some d =>
        rw [hl] at h1
        obtain ⟨u, h2, h3⟩ := r.look hl
        obtain ⟨c1, c2⟩ := F.at_ c ho
        exact ⟨a, cc.C c, dx, fl, u, rfl, R1.gk _ _ hg, c1, c2, h2, Post.fin h1 R1 (Ext.refl _ _) (Grow.refl R1.gk) h3⟩
    · have e0 : vFld ok f (.ins c fs) = none := if_neg ho
      rw [e0] at h1
      exact h1.elim
  | _ => exact h1.elim
/-! ### a field of an owned instance is set -/
def putD (f : Str) (d : D) : List (Str × D) → List (Str × D)
  | [] => [(f, d)]
  | (g, x) :: r => if g = f then (g, d) :: r else (g, x) :: putD f d r
theorem RpF.put {K : PySem.W.Frag} {C : Nat → Addr} {G : Hp} {v : V} {d : D} (p : Rp K C G v d) : ∀ {fl : List (Str × V)} {fs : List (Str × D)}, RpF K C G fl fs → RpF K C G (putF f v fl) (putD f d fs)
  | _, _, .nil => .cons p .nil
  | _, _, @RpF.cons _ _ _ n u d0 _ _ h r => by
    unfold putF putD
    by_cases q : n = f
    · rw [if_pos q, if_pos q]; exact .cons p r
    · rw [if_neg q, if_neg q]; exact .cons h (r.put p)
theorem RpF.length {K : PySem.W.Frag} {C : Nat → Addr} {G : Hp} : ∀ {fl : List (Str × V)} {fs : List (Str × D)}, RpF K C G fl fs → fl.length = fs.length
  | _, _, .nil => rfl
  | _, _, .cons _ r => congrArg (· + 1) r.length
def sFld (ok : Nat → Bool) (f : Str) (i : Nat) (da : ENV → R D) : ENV → R Fl := fun ρ => (da ρ).bind fun d ρ1 => match ρ1[i]? with
  | some (some (.ow (.ins c fs))) => if ok c = true ∧ fs.length < 1000 then .ok .nx (ρ1.set i (some (.ow (.ins c (putD f d fs))))) else .bot
  | _ => .bot
theorem ds_fld (i : Nat) {x : Str} {p2 p3 : Pos} (F : FlOk X.K cc.C f ok) (ha : DE X cc e da) (hN : X.N[i]? = some x := by rfl) (hv : Vis X.env.scope x := by first | exact Or.inl rfl | exact Or.inr (Or.inl rfl) | exact Or.inr (Or.inr rfl)) (hd : (x == ("__debug__" : Str)) = false := by decide)
    (hcd : (x == ("__classdict__" : Str)) = false := by decide) (hs : swapsWith e (some (.Attribute (.Name x p2) f p3)) pos.line X.env = pure false := by rfl) : DS X cc (.Assign [.Attribute (.Name x p2) f p3] e pos) (sFld ok f i da) := by
  refine PS.imp (ps_fld (pe_var hN hv hd hcd) ha hs) fun Dn σ H ⟨B, ρ, G, R0, h⟩ => ⟨B, ρ, G, R0, h.bind fun d ρ1 G1 H1 y e1 R1 p1 h1 => ?_⟩
  split at h1
  rotate_left
  · exact h1.elim
  rename_i c fs e0
  obtain ⟨⟨ho, hl⟩, h1⟩ := ite_postS h1
  obtain ⟨p, hp, ow⟩ := R1.ow i _ e0
  obtain ⟨o, hx, dx, fl, rfl, r⟩ := ow.at_
  obtain ⟨c1, c2⟩ := F.at_ c ho
  refine ⟨_, hp, p, cc.C c, dx, fl, rfl, hx, c1, c2, by rw [r.length]; exact hl, ?_⟩
  exact h1 σ G1 _ (Ext.refl _ _) (R1.mutate e0 hp ⟨dx, _, rfl, r.put p1⟩)
end
/-! ### made -/
structure Ik (P : Program) (w : World) (K : PySem.W.Frag) (mg : Str → Option Value) (base : Heap) (C : Nat → Addr) (x : Str) (c n k : Nat) (F : List DV → FO) : Prop where
  gC : mg x = some (.ref (C c))
  ex : ∃ f fd ps, ps.length = n ∧ Mk K (C c) f ∧ FnOk P w K mg base (L2.CX P w) k f fd ps (spF K C n F) ∧ Binds K fd ps []
def mkR (ρ1 : ENV) : FO → R M
  | .ok (.sh .non) [m] => .ok m ρ1
  | .exc e _ => .exc e ρ1
  | _ => .bot
def fMake (c n : Nat) (F : List DV → FO) (da : ENV → R (List D)) : ENV → R M := fun ρ => (da ρ).bind fun ds ρ1 => if ds.length + 1 = n then mkR ρ1 (F (.ow (.ins c []) :: ds.map DV.sh)) else .bot
section
variable {X : Cx} {cc : Cc} {pos p : Pos} {x : Str} {c n k : Nat} {F : List DV → FO}
theorem run_makeS {CX : CXT} {C f : Addr} {fd : FuncData} {ps : List Str} {sp : Sp} {E : XK} {pi : List (Addr × Obj)} {σ : L2.St} {H : Hp} {s : Shared} {Q : VK} {us : List Value} {vs : List V} (M : Mk X.K C f) (F : FnOk X.prog X.w X.K X.mg X.base CX k f fd ps sp)
    (hr : Room (k + 1) X.A) (hb : Binds X.K fd ps []) (hx : PassesAt CX X σ E) (I : Inv X pi σ H s) (r : Vals vs us)
    (h : ∀ x dx, H x = none → H dx = none → dx ≠ x → sp (.ref x :: vs) (upd (upd H dx (.own x)) x (.ins C dx [])) (fun v H2 => v = .non ∧ Q (.ref x) H2) E) :
    wpAny (model X.prog X.w) X.A (call (.ref C) us) (EP X pi σ Q) X.xe s := by
  have hq := h (s.heap.objs.size + 1) s.heap.objs.size (I.hok.fresh (Nat.le_succ _)) (I.hok.fresh (Nat.le_refl _)) (Nat.ne_of_lt (Nat.lt_succ_self _))
  have J := Inv.made (C := C) I
  have r2 : Vals (V.ref (s.heap.objs.size + 1) :: vs) (Value.ref (s.heap.objs.size + 1) :: us) := .cons rfl r
  have hl : (Value.ref (s.heap.objs.size + 1) :: us).length = ps.length := by
    have e := r2.length
    rw [F.len _ _ _ _ hq] at e
    exact e.symm
  have hbb := fun s1 k1 => hb s1 (Value.ref (s.heap.objs.size + 1) :: us) k1 (by rw [List.append_nil]; exact hl)
  rw [List.append_nil] at hbb
  refine wpAny_call (make_map (f := f) I.kIn M.makes M.init (beq_iff_eq.mp M.fn) (codeAny_mono (F.run _ X.stack _ _ ⟨Value.ref (s.heap.objs.size + 1) :: us, []⟩ (Value.ref (s.heap.objs.size + 1) :: us) _ _ E (hr.make C us []) (J.env0.make C us []) (hbb _ J.kIn) r2 hq) fun r s' hq' => ?_))
  match r, hq' with
  | .error e, hq' => exact hx pi _ _ e s' J hq'
  | .ok (.ret u), hq' =>
    obtain ⟨v, H', I3, rv, ev, q3⟩ := J.after hq'
    subst ev
    exact ⟨rv, ⟨V.ref (s.heap.objs.size + 1), H', I3, rfl, q3⟩⟩
theorem apart1 {a : Addr} {m : M} {vs : List V} {ds : List D} : Apart (.ref a :: vs) (.ow m :: ds.map DV.sh) := by
  have z : ∀ (i : Nat) (m' : M), (DV.ow m :: ds.map DV.sh)[i]? = some (.ow m') → i = 0 := fun i m' h => by
    cases i with
    | zero => rfl
    | succ i => rw [List.getElem?_cons_succ, List.getElem?_map] at h; cases q : ds[i]? <;> rw [q] at h <;> cases h
  exact fun i j m1 m2 p h1 h2 _ _ => (z i m1 h1).trans (z j m2 h2).symm
theorem AR.shs {K : PySem.W.Frag} {C : Nat → Addr} {B G H : Hp} : ∀ {vs : List V} {ds : List D}, RpL K C G vs ds → AR K C B G H vs (ds.map DV.sh)
  | _, _, .nil => .nil
  | _, _, .cons h r => .sh h (AR.shs r)
theorem df_make {e : Expr} {es : List Expr} {da : ENV → R (List D)} (T : Ik X.prog X.w X.K X.mg X.base cc.C x c n k F) (hr : Room (k + 1) X.A) (tk : Takes X cc.W) (ha : DA X cc (e :: es) da) (hg : Gl X x := by rfl)
    (hdb : (x == ("__debug__" : Str)) = false := by decide) (he : starEach (e :: es) X.env = (false, eval e X.env) :: starEach es X.env := by rfl) (hpl : (backTo pos (starEach es X.env)).any (·.1) = false := by rfl) :
    DF X cc (.Call (.Name x p) (e :: es) [] pos) (fMake c n F da) := by
  obtain ⟨f, fd, ps, hps, M, G, hb⟩ := T.ex
  constructor
  intro pi s σ H Q I ⟨B, ρ, G0, R0, h⟩
  refine wpAny_Call_Name_kw (ld_glob I hg T.gC ?_ hdb)
  refine PySem.W.callWith_K (h₀ := X.base) I.ok.mod.kin M.kp (thn (ha.run pos pi s σ H (fun vs H1 => ∀ a dx, H1 a = none → H1 dx = none → dx ≠ a → spF X.K cc.C n F (.ref a :: vs) (upd (upd H1 dx (.own a)) a (.ins (cc.C c) dx [])) (fun v H2 => v = .non ∧ Q (.ref a) H2) (WE cc.W σ)) I
    ⟨B, ρ, G0, R0, h.bind fun ds ρ1 G1 H1 vs e1 R1 p1 h1 => ?_⟩) fun us s1 ⟨vs, H1, I1, r, q⟩ => ⟨I1.kIn, run_makeS M G hr hb (passAt tk σ) I1 r q⟩) he hpl
  intro a dx na nd ne
  by_cases hz : ds.length + 1 = n
  rotate_left
  · rw [if_neg hz] at h1; exact h1.elim
  rw [if_pos hz] at h1
  have keep : Same H1 (upd (upd H1 dx (.own a)) a (.ins (cc.C c) dx [])) := (same_upd nd).trans (same_upd (by rw [upd_ne (Ne.symm ne)]; exact na))
  have owM : ∀ {G' H' : Hp}, Same G1 G' → Ext H1 G1 G' → Same H1 H' → ∀ (i : Nat) (m : Rf.M), ρ1[i]? = some (some (.ow m)) → ∃ p, σ[i]? = some (some (.ref p)) ∧ Own X.K cc.C B G' H' p m := by
    intro G' H' s1 ex k1 i m q
    obtain ⟨p, h1, o⟩ := R1.ow i m q
    obtain ⟨u, h2, h3⟩ := o.at_
    refine ⟨p, h1, o.nb, ?_, u, k1 _ _ h2, h3.mono s1⟩
    cases hg : G' p with
    | none => rfl
    | some w =>
      rcases ex.nb p w hg with z | z
      · rw [o.ng] at z; cases z
      · rw [h2] at z; cases z
  have R2 : ∀ {G' H' : Hp}, Same G1 G' → Ext H1 G1 G' → Same H1 H' → Same G' H' → Rl X.K cc B ρ1 σ G' H' := fun {G' H'} s1 ex k1 k2 =>
    ⟨R1.bk.trans k1, k2, R1.ln, fun i d q => let ⟨v, h1, h2⟩ := R1.sh i d q; ⟨v, h1, h2.mono s1⟩, owM s1 ex k1, R1.df, R1.pa, R1.kg.trans s1⟩
  have notA : ∀ (i : Nat) (m' : Rf.M), ρ1[i]? = some (some (.ow m')) → σ[i]? ≠ some (some (.ref a)) := by
    intro i m' q1 q2
    obtain ⟨p, h3, o⟩ := R1.ow i m' q1
    rw [q2] at h3
    cases h3
    obtain ⟨u, h4, _⟩ := o.at_
    rw [na] at h4
    cases h4
  refine ⟨.ow (.ins c []) :: ds.map DV.sh, H1, G1, by rw [List.length_cons, p1.length]; exact hz, keep, R1.gk.trans keep, .ow ⟨na, R1.gk.free na, _, upd_same, dx, [], rfl, .nil⟩ (AR.shs p1), apart1, ?_⟩
  generalize hF : F (.ow (.ins c []) :: ds.map DV.sh) = r at h1 ⊢
  cases r with
  | bot => exact h1.elim
  | exc ex ms =>
    exact fun cl dd G' H' e2 k1 k2 os er => h1 cl dd G' H' ⟨e2.gg, fun b o q => (e2.nb b o q).imp id fun z => R1.bk.free z⟩ (R2 e2.gg e2 k1 k2) er
  | ok v ms =>
    match v, ms, h1 with
    | .sh .non, [m], h1 =>
      intro xv G' H' e2 k1 k2 os hv
      cases hv
      refine ⟨rfl, ?_⟩
      cases os with
      | ow ho _ => exact h1 a G' H' ⟨e2.gg, fun b o q => (e2.nb b o q).imp id fun z => R1.bk.free z⟩ (R2 e2.gg e2 k1 k2) ⟨R1.bk.free na, ho.ng, ho.at_⟩ notA
end
end Rf
set_option Elab.async false
set_option linter.all false
set_option maxRecDepth 100000
set_option maxHeartbeats 1000000
/-! Rf16: defs in classes; o.m(..) of an instance, the class found by its number -/
namespace Rf
open PySem PySem.Spec L2 PyProof.Rows
/-- a def of a class of the module -/
structure Dm (K : PySem.W.Frag) (Ca : Addr) (m qual : Str) (st : Stmt) (ps : List Str) : Prop where
  ex : ∃ f fd, Fun K m qual st f fd ∧ PySem.W.findIn K (.ref Ca) m = some (some (.ref f)) ∧ PySem.W.isFn K (.ref f) = true ∧ ∀ us : List Value, us.length = ps.length → bindArgs fd ⟨us, []⟩ = pure (ps.zip us)
theorem dm_mk {K : PySem.W.Frag} {Ca : Addr} {m qual : Str} {st : Stmt} {ps : List Str} {f : Addr} {oc : Value} {od an : Option Addr} {osl : Array (Option Value)} {kV doc pm cdv ct : Value} (a : PySem.W.findIn K (.ref Ca) m = some (some (.ref f)))
    (l : K.lookup f = some ⟨oc, od, .func (PySem.W.fnOf m qual (defArgs st) (defBody st) (defScope st) .none kV doc pm an cdv ct), osl⟩) (c : PySem.W.codeIn K cdv qual = true) (k : PySem.W.keepIn K (.ref f) = true) (fn : PySem.W.isFn K (.ref f) = true)
    (hb : ∀ (kV doc pm : Value) (an : Option Addr) (cdv ct : Value) (us : List Value), us.length = ps.length → bindArgs (PySem.W.fnOf m qual (defArgs st) (defBody st) (defScope st) .none kV doc pm an cdv ct) ⟨us, []⟩ = pure (ps.zip us)) : Dm K Ca m qual st ps :=
  ⟨f, _, fun_mk (st := st) l c k, a, fn, fun us hl => hb _ _ _ _ _ _ us hl⟩
/-- how instances of a class are made -/
structure Cm (K : PySem.W.Frag) (mg : Str → Option Value) (Ca : Addr) (x : Str) : Prop where
  gC : mg x = some (.ref Ca)
  mi : PySem.W.makesIn K Ca = true
  kp : PySem.W.keepIn K (.ref Ca) = true
section
variable {P : Program} {w : World} {K : PySem.W.Frag} {mg : Str → Option Value} {base : Heap} {C : Nat → Addr}
theorem ik_of {x qual : Str} {c : Nat} {st : Stmt} {N ps : List Str} {k : Nat} (h : Cm K mg (C c) x) (d : Dm K (C c) "__init__" qual st ps) (S : FnScope N ps (defScope st)) (pr : List Nat) {den : ENV → R Fl} (hlen : ps.length ≤ N.length)
    (hb : ∀ (f : Addr) (cdv : Value) (A : Around) (outer : List Env) (s : Shared) (H : Hp) (E : XK) (ad : Nat → Addr), Room k (A.deeper (PyProof.Rows.envOfC qual (defScope st) s.heap.objs.size f cdv)) →
      DSs (cxOf (L2.CX P w) P w K mg base N qual (defScope st) f cdv A outer s H E) ⟨C, fun cl d _ H => E cl d H, pr, ad, fun _ => none⟩ (defBody st) den) : Ik P w K mg base C x c ps.length (k + 1) (runF pr N.length den) := by
  obtain ⟨f, fd, F, hi, hf, hbd⟩ := d.ex
  exact ⟨h.gC, f, fd, ps, rfl, ⟨h.mi, hi, hf, h.kp⟩, fn_ok F S pr hlen (hb f), .all hbd⟩
/-- a method of some classes, by their numbers -/
structure Mf (P : Program) (w : World) (K : PySem.W.Frag) (mg : Str → Option Value) (base : Heap) (C : Nat → Addr) (m : Str) (n k : Nat) (tab : Nat → Option (List DV → FO)) : Prop where
  at_ : ∀ c F, tab c = some F → ∃ f fd ps, Cls K (C c) ∧ Meth K (C c) m f ∧ ps.length = n ∧ FnOk P w K mg base (L2.CX P w) k f fd ps (spF K C n F) ∧ Binds K fd ps []
theorem mf_of {m qual : Str} {c : Nat} {st : Stmt} {N ps : List Str} {k : Nat} (hc : Cls K (C c)) (d : Dm K (C c) m qual st ps) (S : FnScope N ps (defScope st)) (pr : List Nat) {den : ENV → R Fl} (hlen : ps.length ≤ N.length)
    (hb : ∀ (f : Addr) (cdv : Value) (A : Around) (outer : List Env) (s : Shared) (H : Hp) (E : XK) (ad : Nat → Addr), Room k (A.deeper (PyProof.Rows.envOfC qual (defScope st) s.heap.objs.size f cdv)) →
      DSs (cxOf (L2.CX P w) P w K mg base N qual (defScope st) f cdv A outer s H E) ⟨C, fun cl d _ H => E cl d H, pr, ad, fun _ => none⟩ (defBody st) den) : Mf P w K mg base C m ps.length (k + 1) (fun j => if j = c then some (runF pr N.length den) else none) := by
  refine ⟨fun j F hj => ?_⟩
  by_cases e : j = c
  · subst e
    rw [if_pos rfl] at hj
    cases hj
    obtain ⟨f, fd, G, hi, hf, hbd⟩ := d.ex
    exact ⟨f, fd, ps, hc, ⟨hi, hf, G.kp⟩, rfl, fn_ok G S pr hlen (hb f), .all hbd⟩
  · rw [if_neg e] at hj; cases hj
theorem Mf.mono {m : Str} {n k k' : Nat} {tab : Nat → Option (List DV → FO)} (h : Mf P w K mg base C m n k tab) (hk : k ≤ k') : Mf P w K mg base C m n k' tab :=
  ⟨fun c F e => let ⟨f, fd, ps, h1, h2, h3, h4, h5⟩ := h.at_ c F e; ⟨f, fd, ps, h1, h2, h3, h4.mono hk, h5⟩⟩
/-- two tables joined -/
theorem Mf.or {m : Str} {n k : Nat} {t u : Nat → Option (List DV → FO)} (h : Mf P w K mg base C m n k t) (g : Mf P w K mg base C m n k u) : Mf P w K mg base C m n k (fun c => match t c with | some F => some F | none => u c) :=
  ⟨fun c F e => by
    cases q : t c with
    | some F' => simp only [q] at e; cases e; exact h.at_ c _ q
    | none => simp only [q] at e; exact g.at_ c F e⟩
end
theorem RpF.lookN {K : PySem.W.Frag} {C : Nat → Addr} {G : Hp} {f : Str} : ∀ {fl : List (Str × V)} {fs : List (Str × D)}, RpF K C G fl fs → fs.lookup f = none → fl.lookup f = none
  | _, _, .nil, _ => rfl
  | _, _, @RpF.cons _ _ _ n _ _ _ _ _ r, e => by
    cases z : f == n with
    | true => rw [List.lookup_cons, z] at e; cases e
    | false =>
      rw [List.lookup_cons, z] at e ⊢
      exact r.lookN e
def metOf (tab : Nat → Option (List DV → FO)) (m : Str) : D → Option (List DV → FO)
  | .ins c fs => if fs.lookup m = none then tab c else none
  | _ => none
def metK (tab : Nat → Option (List DV → FO)) (m : Str) (dr : ENV → R (List Ag)) (x : D) (ρ1 : ENV) : R D := match metOf tab m x with
  | some F => ((dr ρ1).bind fun as ρ2 => stepR F (.inl x :: as) ρ2).bind onSh
  | none => .bot
def dMet (tab : Nat → Option (List DV → FO)) (m : Str) (da : ENV → R D) (dr : ENV → R (List Ag)) : ENV → R D := fun ρ => (da ρ).bind (metK tab m dr)
section
variable {X : Cx} {cc : Cc} {pos apos : Pos} {o e : Expr} {es : List Expr} {da : ENV → R D} {dr : ENV → R (List Ag)} {m : Str} {n k : Nat} {tab : Nat → Option (List DV → FO)}
theorem met_read {σ : L2.St} {Q : VK} {B G1 H1 : Hp} {ρ1 : ENV} {F : List DV → FO} {x : V} {d : D} (hn : Many n dr) (R1 : Rl X.K cc B ρ1 σ G1 H1) (p1 : Rp X.K cc.C G1 x d) (h : Post X.K cc (Rp X.K cc.C) B G1 σ Q (((dr ρ1).bind fun as ρ2 => stepR F (.inl d :: as) ρ2).bind onSh)) :
    rAg X.K cc dr σ H1 fun vs H2 => spF X.K cc.C (n + 1) F (x :: vs) H2 Q (WE cc.W σ) := by
  refine ⟨B, ρ1, G1, R1, ?_⟩
  have h := PostV.sh h
  cases hd : dr ρ1 with
  | exc e ρ2 => rw [hd] at h; exact h
  | bot => rw [hd] at h; exact h
  | ok as ρ2 =>
    rw [hd] at h
    intro vs G2 H2 e2 R2 ag
    exact call_core F R2 (.sh (p1.mono e2.gg) ag) (by rw [List.length_cons, ag.length, hn ρ1 as ρ2 hd]) (PostV.ext h e2)
theorem de_met {pl : Sem Bool} (T : Mf X.prog X.w X.K X.mg X.base cc.C m (n + 1) k tab) (hr : Room k X.A) (tk : Takes X cc.W) (ho : DE X cc o da) (ha : DAg X cc (e :: es) dr) (hn : Many n dr)
    (hst : starEach (e :: es) X.env = (false, eval e X.env) :: starEach es X.env := by rfl) (hpl : (backTo pos (starEach es X.env)).any (·.1) = false := by rfl)
    (ht : eval (.Call (.Attribute o m apos) (e :: es) [] pos) X.env = (eval o X.env >>= fun ov => standAt apos.atName >>= fun _ => holding [ov] (getMethod ov m pl) >>= fun fx =>
      callWith pos fx.1 fx.2 (backTo pos (starEach (e :: es) X.env)) (backToKw pos (keywordEach [] X.env))) := by rfl) : DE X cc (.Call (.Attribute o m apos) (e :: es) [] pos) (dMet tab m da dr) := by
  constructor
  intro pi s σ H Q I ⟨B, ρ, G0, R0, h⟩
  refine PySem.W.methodCall_KW (pl := pl) (thn (ho.run pi s σ H (fun x H1 => ∃ (a Ca : Addr) (dx : Addr) (fl : List (Str × V)) (F : List DV → FO) (f : Addr) (fd : FuncData) (ps : List Str), x = .ref a ∧ H1 a = some (.ins Ca dx fl) ∧ fl.lookup m = none ∧ Cls X.K Ca ∧ Meth X.K Ca m f ∧
      FnOk X.prog X.w X.K X.mg X.base (L2.CX X.prog X.w) k f fd ps (spF X.K cc.C (n + 1) F) ∧ Binds X.K fd ps [] ∧ rAg X.K cc dr σ H1 fun vs H2 => spF X.K cc.C (n + 1) F (x :: vs) H2 Q (WE cc.W σ)) I
    ⟨B, ρ, G0, R0, h.bind fun d ρ1 G1 H1 x e1 R1 p1 h1 => ?_⟩) fun u s1 ⟨x, H1, I1, rx, a, Ca, dx, fl, F, f, fd, ps, ex, ea, l, c, hm, G, hb, q⟩ => ?_) ht
  · unfold metK at h1
    cases p1 with
    | @ins a dx c fl fs hg r =>
      cases q : metOf tab m (.ins c fs) with
      | none => rw [q] at h1; exact h1.elim
      | some F =>
        rw [q] at h1
        have q : (if fs.lookup m = none then tab c else none) = some F := q
        by_cases hl : fs.lookup m = none
        · rw [if_pos hl] at q
          obtain ⟨f, fd, ps, c1, c2, c3, c4, c5⟩ := T.at_ c F q
          exact ⟨a, cc.C c, dx, fl, F, f, fd, ps, rfl, R1.gk _ _ hg, r.lookN hl, c1, c2, c4, c5, met_read hn R1 (.ins hg r) h1⟩
        · rw [if_neg hl] at q; cases q
    | _ => exact h1.elim
  · subst ex
    obtain rfl : u = Value.ref a := rx
    refine getmeth_ok I1 ea c hm l ?_
    refine PySem.W.callWith_K (first := [.ref a]) (h₀ := X.base) I.ok.mod.kin hm.kp (thn (ha.run pos pi s1 σ H1 _ I1 q) fun us s2 ⟨vs, H2, I2, r, q2⟩ => ⟨I2.kIn, ?_⟩) hst hpl
    exact run_fnS (us := .ref a :: us) (vs := .ref a :: vs) (E := WE cc.W) G hr hb (passAt tk σ) I2 (.cons rfl r) q2
end
end Rf
set_option Elab.async false
set_option linter.all false
set_option maxRecDepth 100000
set_option maxHeartbeats 1000000
/-! Rf17: what the end hands over: exception classes with fields, instances' classes, constants that are tuples -/
namespace Rf
open PySem PySem.Spec L2 PyProof.Rows
/-- an exception class of the text, whatever its __init__ -/
structure ExN (K : PySem.W.Frag) (mg : Str → Option Value) (c : Addr) (x : Str) : Prop where
  gC : mg x = some (.ref c)
  kC : PySem.W.keepIn K (.ref c) = true
  bP : PySem.W.subIn K (.ref c) (.type "BaseException") = some true
  tP : PySem.W.typeIn K (.ref c) = some (.type "type")
theorem ExN.names {X : Cx} {c : Addr} {x : Str} (h : ExN X.K X.mg c x) (hg : Gl X x) (hd : (x == ("__debug__" : Str)) = false := by decide) : Names X x (.ref c) := ⟨hg, hd, .inl h.gC⟩
theorem ExN.raises {X : Cx} {c : Addr} {x : Str} (h : ExN X.K X.mg c x) : Raises X (.ref c) := raises_own h.bP h.tP
theorem oex_mk {K : PySem.W.Frag} {C N : Addr} {nm q : Str} {bs bm : List Value} {sn : List Str} {sub : List Value} {ab : Bool} {col : Option Bool} {dd : Option Addr} {k0 k1 k2 k3 k5 : Option Value}
    (l : K.lookup C = some (excClassObj nm q C N bs bm true sn sub ab col dd k0 k1 k2 k3 k5 "ValueError.__new__")) (r : PySem.HandSPX.refsVE bm = true) (sa : PySem.W.findIn K (.ref C) "__setattr__" = some (some (.builtin "object.__setattr__")))
    (e : PySem.W.subIn K (.ref C) (.type "BaseException") = some true) (t : PySem.W.typeIn K (.ref C) = some (.type "type")) (k : PySem.W.keepIn K (.ref C) = true) : OexC K C :=
  ⟨⟨nm, q, N, bs, bm, sn, sub, ab, col, dd, k0, k1, k2, k3, k5, l, r⟩, sa, e, t, k⟩
theorem exi_of {P : Program} {w : World} {K : PySem.W.Frag} {mg : Str → Option Value} {base : Heap} {Ca : Addr} {x qual : Str} {fs : List Str} {st : Stmt} {N ps : List Str} (g : ExN K mg Ca x) (cl : OexC K Ca) (d : Dm K Ca "__init__" qual st ps) (S : FnScope N ps (defScope st)) (hl : ps.length = fs.length + 1)
    (hb : ∀ (f : Addr) (cdv : Value) (A : Around) (outer : List Env) (s : Shared) (H : Hp) (vs : List V) (Q : VK) (E : XK), Room 0 (A.deeper (envOfC qual (defScope st) s.heap.objs.size f cdv)) → spI Ca fs vs H Q E →
      ∃ t, PSs (cxOf CX0 P w K mg base N qual (defScope st) f cdv A outer s H E).nox (defBody st) t ∧ t { nx := fun _ H' => Q .non H', rt := Q } (L2.start N vs) H) : ExI P w K mg base Ca x fs 1 := by
  obtain ⟨f, fd, F, hi, hf, hbd⟩ := d.ex
  exact ⟨g.gC, cl, f, fd, ps, hi, beq_iff_eq.mp hf, F.ok S (fun vs H Q E h => (spI_len h).trans hl.symm) (hb f), .all hbd⟩
/-- a constant of the module that is a tuple -/
inductive RelL : List V → List Value → Prop
  | nil : RelL [] []
  | cons {v : V} {u : Value} {vs : List V} {us : List Value} (h : RelV v u) (r : RelL vs us) : RelL (v :: vs) (u :: us)
theorem xi_mk {K : PySem.W.Frag} {C : Nat → Addr} {cu : Value} {f : Nat → Option Bool} (h : ∀ c b, f c = some b → XiOk K (C c) ∧ PySem.W.kitOne K (.ref (C c)) cu = some b) : XiAll K C cu f := ⟨h⟩
end Rf
set_option Elab.async false
set_option linter.all false
set_option maxRecDepth 100000
set_option maxHeartbeats 1000000
/-! Rf18: enumerate over lists -/
namespace Rf
open PySem PySem.Spec L2 PyProof.Rows
def pairs (ds : List D) : List D := ds.mapIdx fun i d => .tup [.int (i : Nat), d]
theorem pairs_len (ds : List D) : (pairs ds).length = ds.length := by unfold pairs; rw [List.length_mapIdx]
theorem wk_enum {K : PySem.W.Frag} {C : Nat → Addr} {G : Hp} {a : Addr} {xs : List V} {ds : List D} (h : SqL K G a xs) (r : RpL K C G xs ds) : Wk K C G (Ite K a) (pairs ds) := by
  refine ⟨_, _, by rw [pairs_len, ← r.length]; exact walk_enum (xs := xs), fun G2 H2 s s2 => Same.seq s2 (Same.seq s h), fun i G2 H2 x H3 hi s s2 y => ?_⟩
  obtain ⟨T, u, v, rfl, nT, rfl, e1, e2⟩ := y
  cases e1
  obtain ⟨d, hd, p⟩ := r.getV e2
  have g := Grow.new (o := .tup [V.int (i : Nat), v]) s2 nT
  refine ⟨.tup [.int (i : Nat), d], _, ?_, g, .tup (.inl (.inl upd_same)) (.cons (.int _) (.cons ((p.mono s).mono g.gg) .nil))⟩
  unfold pairs
  rw [List.getElem?_mapIdx, hd]
  rfl
def enumK : D → ENV → R (List D) := fun x ρ1 => match x with
  | .lst ds => .ok (pairs ds) ρ1
  | .scr ds => .ok (pairs ds) ρ1
  | _ => .bot
def dEnum (da : ENV → R D) : ENV → R (List D) := fun ρ => (da ρ).bind enumK
section
variable {X : Cx} {cc : Cc} {a : Expr} {da : ENV → R D} {pos p tpos : Pos} {elts : List Expr} {kk : Nat}
theorem di_enum (hg : Gl X "enumerate") (hm : X.mg "enumerate" = none) (ha : DE X cc a da) (hs : starEach [a] X.env = [(false, eval a X.env)] := by rfl) (hs2 : starEach [a] X.env = (false, eval a X.env) :: starEach [] X.env := by rfl) :
    DI X cc (.Tuple elts kk tpos) (.Call (.Name "enumerate" p) [a] [] pos) (dEnum da) := by
  refine PI.imp (pi_enum hg hm (pa_cons ha pa_nil hs2) hs) fun σ H Q ⟨B, ρ, G, R0, h⟩ => ⟨B, ρ, G, R0, Post.bind (V2 := fun G' J ds => Wk X.K cc.C G' J ds) h fun d1 ρ1 G1 H1 x e1 R1 p1 h1 => ?_⟩
  cases p1 with
  | lst h r => exact ⟨_, _, rfl, .inl (.inl (R1.gk _ _ h)), h1 _ G1 H1 (Ext.refl _ _) R1 (wk_enum (.inl (.inl h)) r)⟩
  | scr h r => exact ⟨_, _, rfl, Same.seq R1.gk h, h1 _ G1 H1 (Ext.refl _ _) R1 (wk_enum h r)⟩
  | _ => exact h1.elim
/-! ### a if t else b, as a test -/
def ifBK (a b : ENV → R Bool) : Bool → ENV → R Bool := fun x ρ1 => if x = true then a ρ1 else b ρ1
def dIfB (t a b : ENV → R Bool) : ENV → R Bool := fun ρ => (t ρ).bind (ifBK a b)
theorem dt_ifexp {t b : Expr} {dt dA dB : ENV → R Bool} (ht : DT X cc t dt) (ha : DT X cc a dA) (hb : DT X cc b dB) : DT X cc (.IfExp t a b pos) (dIfB dt dA dB) := by
  constructor
  intro pi s σ H Q I ⟨B, ρ, G, R0, h⟩
  refine PyProof.Rows.isTrue_IfExp (thn (ht.run pi s σ H (fun c H1 => if c = true then rT X.K cc dA σ H1 Q else rT X.K cc dB σ H1 Q) I ⟨B, ρ, G, R0, Post.bind (V2 := fun _ b c => b = c) h fun d1 ρ1 G1 H1 x e1 R1 p1 h1 => ?_⟩) fun c s1 ⟨H1, I1, q⟩ => ?_)
  · subst p1
    cases x with
    | true => exact ⟨B, ρ1, G1, R1, h1⟩
    | false => exact ⟨B, ρ1, G1, R1, h1⟩
  · cases c with
    | true => exact ha.run pi s1 σ H1 Q I1 q
    | false => exact hb.run pi s1 σ H1 Q I1 q
/-! ### isinstance(x, Y), Y a class of the program -/
def isOwn (f : Nat → Option Bool) : D → Option Bool
  | .ins c _ => f c
  | _ => some false
structure IsO (K : PySem.W.Frag) (C : Nat → Addr) (cu : Value) (f : Nat → Option Bool) : Prop where
  own : ∀ c b, f c = some b → Cls K (C c) ∧ PySem.W.findIn K (.ref (C c)) "__class__" = some (some (.builtin "object.__class__")) ∧ PySem.W.mroIn K (C c) (.type "object") = some true ∧ PySem.W.kitOne K (.ref (C c)) cu = some b
  sp : PySem.W.specialIn K (.builtin "object.__class__") "__get__" = some (some (.builtin "getset_descriptor.__get__"))
  tk : PySem.W.takesIn K (.builtin "object.__class__") = some true
  b1 : PySem.W.kitOne K (.type "NoneType") cu = some false
  b2 : PySem.W.kitOne K (.type "bool") cu = some false
  b3 : PySem.W.kitOne K (.type "int") cu = some false
  b4 : PySem.W.kitOne K (.type "str") cu = some false
  b5 : PySem.W.kitOne K (.type "tuple") cu = some false
  b6 : PySem.W.kitOne K (.type "list") cu = some false
  b7 : PySem.W.kitOne K (.type "dict") cu = some false
theorem isOwn_ok {K : PySem.W.Frag} {C : Nat → Addr} {cu : Value} {f : Nat → Option Bool} (F : IsO K C cu f) {G H : Hp} {v : V} {d : D} {b : Bool} (s : Same G H) (p : Rp K C G v d) (e : isOwn f d = some b) : ∃ t, TyX K H v t ∧ PySem.W.kitOne K t cu = some b := by
  cases p with
  | non => cases e; exact ⟨_, .base .non, F.b1⟩
  | bl b => cases e; exact ⟨_, .base (.bl b), F.b2⟩
  | int b => cases e; exact ⟨_, .base (.int b), F.b3⟩
  | str b _ => cases e; exact ⟨_, .base (.str b), F.b4⟩
  | tup h r => cases e; exact ⟨_, sqT_ty (same_seqT s h), F.b5⟩
  | lst h r => cases e; exact ⟨_, .base (.lst (s _ _ h)), F.b6⟩
  | scr h r => cases e; exact ⟨_, sqL_ty (Same.seq s h), F.b6⟩
  | dic h r => cases e; exact ⟨_, .base (.dK (s _ _ h)), F.b7⟩
  | @ins a dx c fl fs h r =>
    obtain ⟨c1, c2, c3, c4⟩ := F.own c b e
    exact ⟨_, .base (.ins (s _ _ h) c1 c2 F.sp F.tk c3), c4⟩
theorem de_isO {j : Nat} {f : Nat → Option Bool} {x y : Str} {p2 : Pos} (F : IsO X.K cc.C (.ref (cc.C j)) f) (hmy : X.mg y = some (.ref (cc.C j))) (hg : Gl X x) (hm : X.mg x = none) (hv : bootBuiltins x = some (.builtin "isinstance")) (ha : DE X cc a da) (hgy : Gl X y := by rfl) (hdy : (y == ("__debug__" : Str)) = false := by decide)
    (hn : x ≠ "__name__" := by decide) (hdb : (x == ("__debug__" : Str)) = false := by decide) (he : starEach [a, .Name y p2] X.env = (false, eval a X.env) :: starEach [.Name y p2] X.env := by rfl)
    (hpl : (backTo pos (starEach [.Name y p2] X.env)).any (·.1) = false := by rfl) (hs2 : starEach [.Name y p2] X.env = (false, eval (.Name y p2) X.env) :: starEach [] X.env := by rfl) : DE X cc (.Call (.Name x p) [a, .Name y p2] [] pos) (dIs (isOwn f) da) :=
  de_isA (cv := .ref (cc.C j)) (cu := .ref (cc.C j)) (fun s p e => isOwn_ok F s p e) (pe_glob hgy hmy rfl hdy) (.own _) hg hm hv ha hn hdb he hpl hs2
end
end Rf
set_option Elab.async false
set_option linter.all false
set_option maxRecDepth 100000
set_option maxHeartbeats 1000000
/-! Rf19: == where the left side may be an instance with an own __eq__ -/
namespace Rf
open PySem PySem.Spec L2 PyProof.Rows
/-- what F says of two values, if it says a truth -/
def saysB : FO → Option D
  | .ok (.sh (.bl b)) [] => some (.bl b)
  | _ => none
/-- may y stand on the right of an own __eq__ -/
def rightOk (ok : Nat → Bool) : D → Bool
  | .ins c _ => ok c
  | _ => true
def vEqO (tab : Nat → Option (List DV → FO)) (ok : Nat → Bool) (x y : D) : Option D := match x with
  | .ins c fs => match tab c with
    | some F => if rightOk ok y = true then saysB (F [.sh x, .sh y]) else none
    | none => none
  | _ => vEqS false x y
structure EqM (P : Program) (w : World) (K : PySem.W.Frag) (mg : Str → Option Value) (base : Heap) (C : Nat → Addr) (k : Nat) (tab : Nat → Option (List DV → FO)) (ok : Nat → Bool) : Prop where
  m : Mf P w K mg base C "__eq__" 2 k tab
  nb : ∀ c F, tab c = some F → ∀ T, T ∈ ["NoneType", "bool", "int", "str", "tuple", "list", "dict"] → PySem.W.notFirst K (C c) (.type T) = true
  no : ∀ c F c2, tab c = some F → ok c2 = true → PySem.W.notFirst K (C c) (.ref (C c2)) = true
  ty : ∀ c2, ok c2 = true → Cls K (C c2) ∧ PySem.W.findIn K (.ref (C c2)) "__class__" = some (some (.builtin "object.__class__")) ∧ PySem.W.mroIn K (C c2) (.type "object") = some true
  sp : PySem.W.specialIn K (.builtin "object.__class__") "__get__" = some (some (.builtin "getset_descriptor.__get__"))
  tk : PySem.W.takesIn K (.builtin "object.__class__") = some true
section
variable {X : Cx} {cc : Cc} {k : Nat} {tab : Nat → Option (List DV → FO)} {ok : Nat → Bool}
def rEqI (X : Cx) (C : Nat → Addr) (k : Nat) : R2 := fun x y H Q => ∃ (a Ca dx : Addr) (fl : List (Str × V)) (tb : Value) (f : Addr) (fd : FuncData) (ps : List Str) (F : List DV → FO), x = .ref a ∧ H a = some (.ins Ca dx fl) ∧ Meth X.K Ca "__eq__" f ∧
  FnOk X.prog X.w X.K X.mg X.base (L2.CX X.prog X.w) k f fd ps (spF X.K C 2 F) ∧ Binds X.K fd ps [] ∧ TyX X.K H y tb ∧ PySem.W.notFirst X.K Ca tb = true ∧ spF X.K C 2 F [x, y] H (fun v H' => (∃ b, v = .bl b) ∧ Q v H') E0
def rEqO (X : Cx) (C : Nat → Addr) (k : Nat) : R2 := fun x y H Q => (rEq x y H Q ∨ rEqD X.K x y H Q) ∨ rEqI X C k x y H Q
theorem op_eqO {C : Nat → Addr} (hr : Room k X.A) (hu : X.A.units + 65 < cLine) : OpR X (compareOp .Eq) (rEqO X C k) := by
  intro pi s σ H x y v u Q I rx ry h
  rcases h with h | ⟨a, Ca, dx, fl, tb, f, fd, ps, F, rfl, ha, hm, G, hb, ty, nf, sp⟩
  · exact (op_eq.or (op_eqD (by omega))) pi s σ H x y v u Q I rx ry h
  · obtain rfl : v = Value.ref a := rx
    obtain ⟨mA, J, _⟩ := ins_get I.hok ha
    obtain ⟨od, J, _⟩ := J.look
    obtain ⟨m0, hF⟩ := I.fr
    obtain ⟨Pk, kx, hp, _⟩ := kit_of I ry ty
    show wpAny (model X.prog X.w) X.A (richCompare .Eq (.ref a) u) (EP X pi σ Q) X.xe s
    refine PySem.W.cmp_K (op := .Eq) (tb := tb) hr.units0 hF I.ok.mod.kin J (kx.ty _ _ I.kIn hp) nf hm.at_ hm.fn ?_
    refine wpAny_mono (run_fnS (us := [.ref a, u]) (vs := [.ref a, y]) (E := fun _ => E0) G hr hb (fun pi H s e s' I h => passL pi σ H s e s' I h) I (.cons rfl (.cons ry .nil)) sp) (fun v2 s2 z => ?_) fun _ _ z => z
    obtain ⟨vv, H2, I2, rv, ⟨b, rfl⟩, q⟩ := z
    obtain rfl : v2 = Value.bool b := rv
    exact ⟨.bl b, H2, I2, rfl, q⟩
theorem eqI_of (T : EqM X.prog X.w X.K X.mg X.base cc.C k tab ok) {G H : Hp} {y : V} {dy d : D} {Q : VK} {a d0 : Addr} {c : Nat} {fl : List (Str × V)} {fs : List (Str × D)} (s : Same G H) (hg : G a = some (.ins (cc.C c) d0 fl)) (r : RpF X.K cc.C G fl fs) (py : Rp X.K cc.C G y dy) (e : vEqO tab ok (.ins c fs) dy = some d)
    (kq : ∀ v G' H', Grow G H G' H' → Rp X.K cc.C G' v d → Q v H') : (∃ F, tab c = some F) ∧ rEqI X cc.C k (.ref a) y H Q := by
  have e : (match tab c with
    | some F => if rightOk ok dy = true then saysB (F [.sh (.ins c fs), .sh dy]) else none
    | none => none) = some d := e
  cases ht : tab c with
  | none => rw [ht] at e; cases e
  | some F =>
    rw [ht] at e
    dsimp only at e
    by_cases hh : rightOk ok dy = true
    · rw [if_pos hh] at e
      obtain ⟨f, fd, ps, c1, c2, c3, c4, c5⟩ := T.m.at_ c F ht
      have hty : ∃ tb, TyX X.K H y tb ∧ PySem.W.notFirst X.K (cc.C c) tb = true := by
        cases py with
        | non => exact ⟨_, .base .non, T.nb c F ht _ (by simp)⟩
        | bl b => exact ⟨_, .base (.bl b), T.nb c F ht _ (by simp)⟩
        | int b => exact ⟨_, .base (.int b), T.nb c F ht _ (by simp)⟩
        | str b _ => exact ⟨_, .base (.str b), T.nb c F ht _ (by simp)⟩
        | tup h r => exact ⟨_, sqT_ty (same_seqT s h), T.nb c F ht _ (by simp)⟩
        | lst h r => exact ⟨_, .base (.lst (s _ _ h)), T.nb c F ht _ (by simp)⟩
        | scr h r => exact ⟨_, sqL_ty (Same.seq s h), T.nb c F ht _ (by simp)⟩
        | dic h r => exact ⟨_, .base (.dK (s _ _ h)), T.nb c F ht _ (by simp)⟩
        | @ins a2 dx2 c2 fl2 fs2 h r =>
          obtain ⟨t1, t2, t3⟩ := T.ty c2 hh
          exact ⟨_, .base (.ins (s _ _ h) t1 t2 T.sp T.tk t3), T.no c F c2 ht hh⟩
      obtain ⟨tb, ty, nf⟩ := hty
      refine ⟨⟨F, rfl⟩, a, cc.C c, d0, fl, tb, f, fd, ps, F, rfl, s _ _ hg, c2, c4, c5, ty, nf, [.sh (.ins c fs), .sh dy], H, G, rfl, Same.refl H, s, .sh (.ins hg r) (.sh py .nil), fun i j m m' p h1 => ?_, ?_⟩
      · match i with
        | 0 => simp at h1
        | 1 => simp at h1
        | i + 2 => simp at h1
      · generalize F [.sh (.ins c fs), .sh dy] = o at e ⊢
        match o, e with
        | .ok (.sh (.bl b)) [], e =>
          cases e
          intro xv G' H' ex k1 k2 os hv
          cases hv
          exact ⟨⟨b, rfl⟩, kq _ G' H' ⟨ex.gg, k1, k2, ex.nb⟩ (.bl b)⟩
    · rw [if_neg hh] at e; cases e
theorem v2_eqO (T : EqM X.prog X.w X.K X.mg X.base cc.C k tab ok) : V2 X.K cc.C (vEqO tab ok) (rEqO X cc.C k) := by
  intro G H x y dx dy d Q s px py e kq
  cases px with
  | @ins a d0 c fl fs hg r =>
    right
    exact (eqI_of T s hg r py e kq).2
  | non => exact .inl (v2_eqS s .non py e kq)
  | bl b => exact .inl (v2_eqS s (.bl b) py e kq)
  | int b => exact .inl (v2_eqS s (.int b) py e kq)
  | str b h => exact .inl (v2_eqS s (.str b h) py e kq)
  | tup h r => exact .inl (v2_eqS s (.tup h r) py e kq)
  | lst h r => exact .inl (v2_eqS s (.lst h r) py e kq)
  | scr h r => exact .inl (v2_eqS s (.scr h r) py e kq)
  | dic h r => exact .inl (v2_eqS s (.dic h r) py e kq)
variable {a b : Expr} {da db : ENV → R D} {pos : Pos}
theorem de_eqO (T : EqM X.prog X.w X.K X.mg X.base cc.C k tab ok) (hr : Room k X.A) (hu : X.A.units + 65 < cLine) (ha : DE X cc a da) (hb : DE X cc b db) (hm : behindInMarks .Eq b = false := by rfl) : DE X cc (.Compare a [.Eq] [b] pos) (dOp (vEqO tab ok) da db) := de_cmp (op_eqO hr hu) (v2_eqO T) hm ha hb
theorem dt_eqO (T : EqM X.prog X.w X.K X.mg X.base cc.C k tab ok) (hr : Room k X.A) (hu : X.A.units + 65 < cLine) (ha : DE X cc a da) (hb : DE X cc b db) (hm : behindInMarks .Eq b = false := by rfl) : DT X cc (.Compare a [.Eq] [b] pos) (dT (dOp (vEqO tab ok) da db)) := dt_cmp (op_eqO hr hu) (v2_eqO T) hm ha hb
end
end Rf
set_option Elab.async false
set_option linter.all false
set_option maxRecDepth 100000
set_option maxHeartbeats 1000000
/-! Rf20: != where the left side is an instance with an own __eq__ and no __ne__ -/
namespace PySem
namespace NeK
open PySem.Spec PyProof.Rows Builtin
section
variable {prog : Program} {w : World} {A : Around} {E : Value → Shared → Prop} {s : Shared} {K : W.Frag} {x C f : Addr} {ox : Obj} {od : Option Obj} {b : Value}
theorem bound_ne {M : Model} {args : List Value} {Q : Option Value → Shared → Prop} (X : K.In s.heap) (I : W.InstAt s.heap x ox C od) (hs : W.findIn K (.ref C) "__ne__" = some (some (.builtin "object.__ne__")))
    (h : wpAny M A (call (.builtin "object.__ne__") (.ref x :: args)) (fun v s' => Q (some v) s') E s) : wpAny M A (callSpecialIfBound? (.ref x) "__ne__" args) Q E s := by
  have last : wpAny M A (call (.builtin "object.__ne__") ([.ref x] ++ args) >>= fun v => pure (some v)) Q E s := wpAny_bind (wpAny_mono h (fun _ _ z => wpAny_pure z) fun _ _ z => z)
  simp only [callSpecialIfBound?, bindSpecialIfBound?]
  refine wpAny_holding (wpAny_bind (wpAny_bind (wpAny_bind (I.type.here ((W.looks_findIn X hs).here (wpAny_bind (wpAny_askSetting (wpAny_ite ?_))))))))
  split
  · exact wpAny_bind (wpAny_of_eq (F.cmp_object.ne.bind _) (wpAny_pure (by exact last)))
  · exact wpAny_tryCatch (wpAny_bind (wpAny_of_eq (F.cmp_object.ne.bind _) (wpAny_pure (by exact last))))
theorem body_ne {Q : Fin → Shared → Prop} (hu : A.units < cLine) (X : K.In s.heap) (I : W.InstAt s.heap x ox C od) (he : W.findIn K (.ref C) "__eq__" = some (some (.ref f))) (hf : W.isFn K (.ref f) = true)
    (h : wpAny (model prog w) A (call (.ref f) [.ref x, b]) (fun v s' => ∃ r, v = .bool r ∧ Q (.done (.ret (.bool (!r)))) s') E s) : wpAny (model prog w) A (Builtin.«object.__ne__» ⟨[.ref x, b], []⟩) Q E s := by
  have h2 : wpAny (model prog w) A (callSpecialIfBound? (.ref x) (Str.ofString "__eq__") [b]) (fun o s' => ∃ r, o = some (.bool r) ∧ Q (.done (.ret (.bool (!r)))) s') E s :=
    W.ifBound_K X I he hf (wpAny_mono h (fun v s' z => by obtain ⟨r, rfl, q⟩ := z; exact ⟨r, rfl, q⟩) fun _ _ z => z)
  unfold Builtin.«object.__ne__»
  repeat (first
    | with_reducible refine wpAny_cRoomFor hu ?_
    | (refine wpAny_bind (m := callSpecialIfBound? (.ref x) (Str.ofString "__eq__") [b]) (wpAny_mono h2 (fun o s' z => ?_) fun _ _ z => z))
    | wp_step)
  obtain ⟨r, rfl, q⟩ := z
  repeat (first | exact q | exact wpAny_pure q | exact wpAny_truthy_bool q | (refine wpAny_bind (m := truthy (.bool _)) (wpAny_truthy_bool ?_)) | wp_step)
theorem try_ne {Q : Option Value → Shared → Prop} (hu : A.units + 1 < cLine) (X : K.In s.heap) (I : W.InstAt s.heap x ox C od) (hm : W.mroIn K C (.type "object") = some true) (hs : W.findIn K (.ref C) "__ne__" = some (some (.builtin "object.__ne__")))
    (he : W.findIn K (.ref C) "__eq__" = some (some (.ref f))) (hf : W.isFn K (.ref f) = true)
    (h : wpAny (model prog w) A.in1 (call (.ref f) [.ref x, b]) (fun v s' => ∃ r, v = .bool r ∧ Q (some (.bool (!r))) s') E s) : wpAny (model prog w) A (tryCompare (.ref x) "__ne__" b) Q E s := by
  unfold tryCompare
  refine wpAny_bind (bound_ne X I hs (wpAny_call (codeAny_call_builtin F.cmp_object.ne.plain F.cmpEntry_ne (W.check_slot F.cmpKind_ne F.cmpSplit_ne (I.type.andThen (W.looks_mroIn X hm)) (F.cmpArgs_ne _ _) (body_ne (A := A.in1) hu X I he hf (wpAny_mono h (fun v s' z => ?_) fun _ _ z => z))))))
  obtain ⟨r, rfl, q⟩ := z
  first | exact ⟨r, rfl, wpAny_pure q⟩ | exact ⟨r, rfl, wpAny_pure (wpAny_pure q)⟩ | exact ⟨r, rfl, q⟩
theorem rich_ne {tb : Value} {Q : Value → Shared → Prop} (hu : A.units + 1 < cLine) (X : K.In s.heap) (I : W.InstAt s.heap x ox C od) (hb : W.Looks (model prog w) s.heap (typeOf b) tb) (hn : W.notFirst K C tb = true) (hm : W.mroIn K C (.type "object") = some true)
    (hs : W.findIn K (.ref C) "__ne__" = some (some (.builtin "object.__ne__"))) (he : W.findIn K (.ref C) "__eq__" = some (some (.ref f))) (hf : W.isFn K (.ref f) = true)
    (h : wpAny (model prog w) A.in1 (call (.ref f) [.ref x, b]) (fun v s' => ∃ r, v = .bool r ∧ Q (.bool (!r)) s') E s) : wpAny (model prog w) A (richCompare .NotEq (.ref x) b) Q E s := by
  have one : wpAny (model prog w) A (tryCompare (.ref x) "__ne__" b) (fun o s' => ∃ v, o = some v ∧ Q v s') E s :=
    try_ne hu X I hm hs he hf (wpAny_mono h (fun v s' z => by obtain ⟨r, rfl, q⟩ := z; exact ⟨r, rfl, _, rfl, q⟩) fun _ _ z => z)
  unfold richCompare
  simp only [oneThing_ref]
  refine wpAny_holding (wpAny_bind (wpAny_cRoomFor (Nat.lt_of_succ_lt hu) (wpAny_bind (I.type.here (wpAny_bind (hb.here ?_))))))
  have last : ∀ {o : Option Value} {s' : Shared}, (∃ v, o = some v ∧ Q v s') → ∃ v, o = some v ∧ Q v s' := id
  split
  · rename_i q
    have e : W.subIn K tb (.ref C) = some false := by
      rcases Bool.or_eq_true_iff.mp hn with e | e
      · rw [beq_iff_eq.mp e] at q; simp at q
      · exact beq_iff_eq.mp e
    refine wpAny_bind ((W.looks_subIn X e).here ?_)
    simp only [Bool.false_eq_true, if_false]
    refine wpAny_bind (wpAny_mono one (fun o s' z => ?_) fun _ _ z => z)
    obtain ⟨v, rfl, hq⟩ := last z
    exact wpAny_pure hq
  · refine wpAny_bind (wpAny_pure ?_)
    simp only [Bool.false_eq_true, if_false]
    refine wpAny_bind (wpAny_mono one (fun o s' z => ?_) fun _ _ z => z)
    obtain ⟨v, rfl, hq⟩ := last z
    exact wpAny_pure hq
end
end NeK
end PySem

namespace Rf
open PySem PySem.Spec L2 PyProof.Rows
def negD : D → Option D
  | .bl b => some (.bl !b)
  | _ => none
def vNeO (tab : Nat → Option (List DV → FO)) (ok : Nat → Bool) (x y : D) : Option D := match x with
  | .ins _ _ => (vEqO tab ok x y).bind negD
  | _ => vEqS true x y
structure NeM (K : PySem.W.Frag) (C : Nat → Addr) (tab : Nat → Option (List DV → FO)) : Prop where
  at_ : ∀ c F, tab c = some F → PySem.W.findIn K (.ref (C c)) "__ne__" = some (some (.builtin "object.__ne__")) ∧ PySem.W.mroIn K (C c) (.type "object") = some true
section
variable {X : Cx} {cc : Cc} {k : Nat} {tab : Nat → Option (List DV → FO)} {ok : Nat → Bool}
theorem run_in1 {f : Addr} {fd : FuncData} {ps : List Str} {sp : Sp} {pi : List (Addr × Obj)} {σ : L2.St} {H : Hp} {s : Shared} {Q : VK} {us : List Value} {vs : List V} (F : FnOk X.prog X.w X.K X.mg X.base (L2.CX X.prog X.w) k f fd ps sp) (hr : Room (k + 1) X.A) (hb : Binds X.K fd ps []) (I : Inv X pi σ H s)
    (r : Vals vs us) (h : sp vs H Q E0) : wpAny (model X.prog X.w) X.A.in1 (call (.ref f) us) (EP X pi σ Q) X.xe s := by
  have hl : us.length = ps.length := by rw [← r.length]; exact F.len _ _ _ _ h
  have b := hb s us I.kIn (by rw [List.append_nil]; exact hl)
  rw [List.append_nil] at b
  have e1 : Env0 X.prog X.w X.K X.mg X.base X.A.in1 X.stack s H := by
    have e := I.env0
    exact ⟨e.frames, e.mod, e.bs, e.bsz, e.funs, e.frf, e.hok, e.bare⟩
  refine wpAny_call (codeAny_mono (F.run X.A.in1 X.stack s H ⟨us, []⟩ us vs Q E0 hr.in1 e1 b r h) fun o s' hq => ?_)
  match o, hq with
  | .error e, hq => exact passL pi σ H s e s' I hq
  | .ok (.ret u), hq => exact I.after hq
def rNeO (X : Cx) (C : Nat → Addr) (k : Nat) : R2 := fun x y H Q => (rNe x y H Q ∨ rNeD X.K x y H Q) ∨ ∃ (a Ca dx : Addr) (fl : List (Str × V)) (tb : Value) (f : Addr) (fd : FuncData) (ps : List Str) (F : List DV → FO), x = .ref a ∧ H a = some (.ins Ca dx fl) ∧ Meth X.K Ca "__eq__" f ∧
  FnOk X.prog X.w X.K X.mg X.base (L2.CX X.prog X.w) k f fd ps (spF X.K C 2 F) ∧ Binds X.K fd ps [] ∧ TyX X.K H y tb ∧ PySem.W.notFirst X.K Ca tb = true ∧ (PySem.W.findIn X.K (.ref Ca) "__ne__" = some (some (.builtin "object.__ne__")) ∧ PySem.W.mroIn X.K Ca (.type "object") = some true) ∧
  spF X.K C 2 F [x, y] H (fun v H' => ∃ b, v = .bl b ∧ Q (.bl !b) H') E0
theorem op_neO {C : Nat → Addr} (hr : Room (k + 1) X.A) (hu : X.A.units + 65 < cLine) : OpR X (compareOp .NotEq) (rNeO X C k) := by
  intro pi s σ H x y v u Q I rx ry h
  rcases h with h | ⟨a, Ca, dx, fl, tb, f, fd, ps, F, rfl, ha, hm, G, hb, ty, nf, ⟨hne, hmr⟩, sp⟩
  · exact (op_ne.or (op_neD (by omega))) pi s σ H x y v u Q I rx ry h
  · obtain rfl : v = Value.ref a := rx
    obtain ⟨mA, J, _⟩ := ins_get I.hok ha
    obtain ⟨od, J, _⟩ := J.look
    obtain ⟨Pk, kx, hp, _⟩ := kit_of I ry ty
    show wpAny (model X.prog X.w) X.A (richCompare .NotEq (.ref a) u) (EP X pi σ Q) X.xe s
    refine PySem.NeK.rich_ne (tb := tb) (by omega) I.kIn J (kx.ty _ _ I.kIn hp) nf hmr hne hm.at_ hm.fn ?_
    refine wpAny_mono (run_in1 (us := [.ref a, u]) (vs := [.ref a, y]) G hr hb I (.cons rfl (.cons ry .nil)) sp) (fun v2 s2 z => ?_) fun _ _ z => z
    obtain ⟨vv, H2, I2, rv, b, rfl, q⟩ := z
    obtain rfl : v2 = Value.bool b := rv
    exact ⟨b, rfl, .bl !b, H2, I2, rfl, q⟩
theorem v2_neO (T : EqM X.prog X.w X.K X.mg X.base cc.C k tab ok) (N : NeM X.K cc.C tab) : V2 X.K cc.C (vNeO tab ok) (rNeO X cc.C k) := by
  intro G H x y dx dy d Q s px py e kq
  cases px with
  | @ins a d0 c fl fs hg r =>
    have e : (vEqO tab ok (.ins c fs) dy).bind negD = some d := e
    cases hv : vEqO tab ok (.ins c fs) dy with
    | none => rw [hv] at e; cases e
    | some d1 =>
      rw [hv] at e
      obtain ⟨⟨F0, ht⟩, a', Ca, dx', fl', tb, f, fd, ps, F, e1, e2, c2, c4, c5, ty, nf, sp⟩ := eqI_of T (Q := fun v H' => ∃ b, v = .bl b ∧ Q (.bl !b) H') s hg r py hv (fun v G' H' g p => by
        match d1, e, p with
        | .bl b, e, p =>
          cases p
          cases e
          exact ⟨b, rfl, kq _ G' H' g (.bl !b)⟩)
      cases e1
      have hins : H a = some (.ins (cc.C c) d0 fl) := s _ _ hg
      rw [hins] at e2
      cases e2
      refine .inr ⟨a, _, d0, fl, tb, f, fd, ps, F, rfl, hins, c2, c4, c5, ty, nf, N.at_ c F0 ht, ?_⟩
      obtain ⟨ds, B, G1, h1, h2, h3, h4, h5, h6⟩ := sp
      refine ⟨ds, B, G1, h1, h2, h3, h4, h5, ?_⟩
      revert h6
      cases F ds with
      | ok v ms => exact fun h6 xv G' H' ex k1 k2 os hv => (h6 xv G' H' ex k1 k2 os hv).2
      | exc e ms => exact id
      | bot => exact id
  | non => exact .inl (v2_neS s .non py e kq)
  | bl b => exact .inl (v2_neS s (.bl b) py e kq)
  | int b => exact .inl (v2_neS s (.int b) py e kq)
  | str b h => exact .inl (v2_neS s (.str b h) py e kq)
  | tup h r => exact .inl (v2_neS s (.tup h r) py e kq)
  | lst h r => exact .inl (v2_neS s (.lst h r) py e kq)
  | scr h r => exact .inl (v2_neS s (.scr h r) py e kq)
  | dic h r => exact .inl (v2_neS s (.dic h r) py e kq)
variable {a b : Expr} {da db : ENV → R D} {pos : Pos}
theorem de_neO (T : EqM X.prog X.w X.K X.mg X.base cc.C k tab ok) (N : NeM X.K cc.C tab) (hr : Room (k + 1) X.A) (hu : X.A.units + 65 < cLine) (ha : DE X cc a da) (hb : DE X cc b db) (hm : behindInMarks .NotEq b = false := by rfl) : DE X cc (.Compare a [.NotEq] [b] pos) (dOp (vNeO tab ok) da db) := de_cmp (op_neO hr hu) (v2_neO T N) hm ha hb
theorem dt_neO (T : EqM X.prog X.w X.K X.mg X.base cc.C k tab ok) (N : NeM X.K cc.C tab) (hr : Room (k + 1) X.A) (hu : X.A.units + 65 < cLine) (ha : DE X cc a da) (hb : DE X cc b db) (hm : behindInMarks .NotEq b = false := by rfl) : DT X cc (.Compare a [.NotEq] [b] pos) (dT (dOp (vNeO tab ok) da db)) := dt_cmp (op_neO hr hu) (v2_neO T N) hm ha hb
end
end Rf
set_option Elab.async false
set_option linter.all false
set_option maxRecDepth 100000
set_option maxHeartbeats 1000000
/-! Rf21: enumerate over tuples -/
namespace Rf
open PySem PySem.Spec L2 PyProof.Rows
theorem enum_new1 {v0 : Value} {ob : Obj} {Z : Heap → Prop} (BB : Begins v0 ob Z) :
    Meets (Builtin.«enumerate.__new__» ⟨[.type "enumerate", v0], []⟩) (fun _ R s => Z s.heap ∧ R (.ok (.ret (.ref (s.heap.push ob).objs.size)))
      { s with heap := (s.heap.push ob).push { cls := .type "enumerate", data := .fields #[.none, .bool false, .ref s.heap.objs.size, rawInt 0, .none, .none] } }) :=
  .of_wp fun pg ww AA RR st hst => by
    obtain ⟨hp, gg, dd, tkk, oss⟩ := st; obtain ⟨z1, hst⟩ := hst
    have hsu := sub_enumerate
    have qq : ∀ {A' : Around} {E' Q' : Value → Shared → Prop}, Q' (.ref hp.objs.size) ⟨hp.push ob, gg, dd, tkk, oss⟩ → wpAny (model pg ww) A' (pyIter v0) Q' E' ⟨hp, gg, dd, tkk, oss⟩ :=
      fun q' => BB.iter pg ww _ _ ⟨hp, gg, dd, tkk, oss⟩ _ z1 q'
    wp_walk using qq
    refine wpAny_stack_any fun _ => wpAny_pure ?_
    split
    · rename_i c _ _ _ _ _
      by_cases hc : (c == Value.type "enumerate") = true
      · rw [hc]; wp_walk using qq; exact ⟨_, rfl, hst⟩
      · rw [Bool.eq_false_iff.mpr hc]; wp_walk using qq; exact ⟨_, rfl, hst⟩
    · wp_walk using qq; exact ⟨_, rfl, hst⟩
theorem call_enum1 {pg : Program} {ww : World} {AA : Around} {EE QQ : Value → Shared → Prop} {st : Shared} {v0 : Value} {ob : Obj} {Z : Heap → Prop} (BB : Begins v0 ob Z) (z1 : Z st.heap)
    (hQ : ∀ h', IsEnum h' (st.heap.objs.size + 1) st.heap.objs.size 0 .none → h'.get? st.heap.objs.size = some ob → (∀ b o, st.heap.get? b = some o → h'.get? b = some o) → QQ (.ref (st.heap.objs.size + 1)) { st with heap := h' }) :
    wpAny (model pg ww) AA (call (.type "enumerate") [v0]) QQ EE st := by
  refine callType_new F.called_enumerate (by decide) (F.typeCall_enumerate_1 _) (F.newCall_enumerate_1 _) (fun obj => F.args_object_init_2 obj _) F.entry_enumerate_new (enum_new1 BB) ⟨z1, ?_⟩
  have sz : (st.heap.push ob).objs.size = st.heap.objs.size + 1 := Heap.size_push ..
  show _ ∧ _
  rw [sz]
  have ie : IsEnum ((st.heap.push ob).push { cls := .type "enumerate", data := .fields #[.none, .bool false, .ref st.heap.objs.size, rawInt 0, .none, .none] }) (st.heap.objs.size + 1) st.heap.objs.size 0 .none := by
    have := Heap.get?_push_size (st.heap.push ob) (o := { cls := .type "enumerate", data := .fields #[.none, .bool false, .ref st.heap.objs.size, rawInt 0, .none, .none] }) rfl
    rw [sz] at this; exact this
  exact ⟨⟨_, ie, rfl⟩, hQ _ ie (Heap.get?_push_of_some _ (Heap.get?_push_size _ BB.free)) fun b o x => Heap.get?_push_of_some _ (Heap.get?_push_of_some _ x)⟩
/-- enumerate over the tuple at a -/
def Itet (K : PySem.W.Frag) (a : Addr) : It := ⟨fun i H => ∃ (xs : List V) (x : V), SqT K H a xs ∧ xs[i]? = some x,
  fun i H v H' => ∃ T x, v = .ref T ∧ H T = none ∧ H' = upd H T (.tup [.int (i : Nat), x]) ∧ ∀ xs, SqT K H a xs → xs[i]? = some x, fun i H => ∃ xs : List V, SqT K H a xs ∧ xs.length = i⟩
theorem walk_enumT {K : PySem.W.Frag} {a : Addr} {xs : List V} : Walk (Itet K a) xs.length (fun H => SqT K H a xs) (YPair (fun i => some (.int (i : Nat))) (fun i => xs[i]?)) := by
  refine ⟨fun i _ hi q => ⟨xs, xs[i], q, by simp [hi]⟩, fun _ q => ⟨xs, q, rfl⟩, fun i H v H' _ q y => ?_⟩
  obtain ⟨T, x, h1, h2, h3, h4⟩ := y
  exact ⟨T, .int (i : Nat), x, h1, h2, h3, rfl, h4 xs q⟩
theorem turn_enumT {P : Program} {w : World} {K : PySem.W.Frag} {elts : List Expr} {kk : Nat} {tpos : Pos} (a e it : Addr) :
    Turn P w K (.Tuple elts kk tpos) (Itet K a) [e, it] e (fun i h => (∃ old, IsEnum h e it ((i : Nat) : Int) old) ∧ h.IsTupleIter it a i ∧ e ≠ it) where
  mem := by simp
  obj := fun i h st b hb => by
    obtain ⟨⟨old, he⟩, ⟨o, ho, hc, hd⟩, _⟩ := st
    rcases (show b = e ∨ b = it by simpa using hb) with z | z
    · rw [z]; exact ⟨_, he, fun v q => nomatch q⟩
    · rw [z]; exact ⟨o, ho, fun v q => by rw [hd] at q; cases q⟩
  keep := fun i h h' st k => let ⟨⟨old, he⟩, hi, hne⟩ := st; ⟨⟨old, k e (by simp) _ he⟩, hi.at fun o q => k it (by simp) o q, hne⟩
  item := by
    intro X hP hw hK hc i pins s σ H E I hf st hg
    subst hP hw hK
    obtain ⟨⟨old, he⟩, hit, hne⟩ := st
    obtain ⟨xs, x, hq, hx⟩ := hg
    obtain ⟨its, rv, p, hz⟩ := I.tuple hq
    obtain ⟨u, hu, ru⟩ := rv.get hx
    have p : s.heap.IsTuple a its.toArray := p
    have hel : e < s.heap.objs.size := Heap.lt_size he
    have hil : it < s.heap.objs.size := by obtain ⟨_, q, _⟩ := hit; exact Heap.lt_size q
    have hea : e ≠ a := fun z => by
      subst z
      obtain ⟨o, ho, hc, _⟩ := p
      rw [show s.heap.get? e = _ from he] at ho
      cases ho
      have hc : Value.type "enumerate" = Value.type "tuple" := hc
      exact absurd hc (by decide)
    have hia : a ≠ it := fun z => by
      subst z
      obtain ⟨o, ho, hc, _⟩ := p
      obtain ⟨o2, ho2, hc2, _⟩ := hit
      rw [ho] at ho2
      cases ho2
      rw [hc] at hc2
      exact absurd hc2 (by decide)
    have Dr := Draws.tuple (prog := X.prog) (w := X.w) (A := X.A.in1) (show X.A.in1.handled = none from I.ok.hd hc) it a hia its.toArray
    obtain ⟨hl, hu'⟩ := List.getElem?_eq_some_iff.mp hu
    refine wpAny_pyNext_enum_itemD Dr he ⟨hit, p⟩ (by simpa using hl) hne (by simp [hne, hea]) fun v h' tk hP ho hit' hT hsz hk => ?_
    have hv : v = u := by simpa [hu] using hP.symm
    subst hv
    refine ⟨_, rfl, wpAny_letOwnedTupleGo_enum (s := { s with heap := h', toks := tk + 1 }) ho fun h'' he' sb => ?_⟩
    have hT2 : h''.get? s.heap.objs.size = some { cls := .type "tuple", data := .seq #[.int i tk, v] } := (sb.2 _ (Nat.ne_of_gt hel)).trans hT
    have new : ObjOk X.prog X.w (upd H s.heap.objs.size (.tup [.int (i : Nat), x])) h'' s.heap.objs.size (.tup [.int (i : Nat), x]) :=
      ⟨by show 2 ≤ sizeLine; decide, [.int i tk, v], .cons ⟨_, rfl⟩ (.cons ru .nil), ⟨_, hT2, rfl, _, rfl⟩⟩
    have I1 : Inv X pins σ (upd H s.heap.objs.size (.tup [.int (i : Nat), x])) { s with heap := h'', toks := tk + 1 } :=
      I.turnedNew (ch := [e, it]) (fun b ob hb q => (sb.2 b (fun z => hb (by simp [z]))).trans (hk b ob (fun z => hb (by simp [z])) (fun z => hb (by simp [z])) q)) hf (Nat.le_refl _) new
    refine ⟨.ref s.heap.objs.size, _, I1, rfl, ⟨_, x, rfl, I.hok.fresh (Nat.le_refl _), rfl, fun ys hy => ?_⟩, ⟨⟨v, ?_⟩, hit'.1.at fun o q => (sb.2 it (Ne.symm hne)).trans q, hne⟩, fun b hb => ?_⟩
    · obtain rfl : ys = xs := I.tuple_inj hy hq
      exact hx
    · have e1 : ((i + 1 : Nat) : Int) = (i : Int) + 1 := by omega
      rw [e1]; exact he'
    · have hb' : b < s.heap.objs.size := by
        rcases (show b = e ∨ b = it by simpa using hb) with z | z
        · rw [z]; exact hel
        · rw [z]; exact hil
      rw [upd_ne (Nat.ne_of_lt hb')]
      exact (hf b hb).1
  done := by
    intro X hP hw hK hc i pins s σ H E I hf st hg
    subst hP hw hK
    obtain ⟨⟨old, he⟩, hit, hne⟩ := st
    obtain ⟨xs, hq, hx⟩ := hg
    obtain ⟨its, rv, p, hz⟩ := I.tuple hq
    have p : s.heap.IsTuple a its.toArray := p
    obtain ⟨f0, f1, f2, f3, f4, f5⟩ := hf it (by simp)
    have hl := rv.length
    have hia : a ≠ it := fun z => by
      subst z
      obtain ⟨o, ho, hc, _⟩ := p
      obtain ⟨o2, ho2, hc2, _⟩ := hit
      rw [ho] at ho2
      cases ho2
      rw [hc] at hc2
      exact absurd hc2 (by decide)
    have Dr := Draws.tuple (prog := X.prog) (w := X.w) (A := X.A.in1) (show X.A.in1.handled = none from I.ok.hd hc) it a hia its.toArray
    have hn : its.toArray.size = i := by simp; omega
    exact wpAny_pyNext_enum_endD Dr he ⟨by rw [hn]; exact hit, p⟩ fun h' eb => ⟨rfl, I.turned (t' := s.toks) (fun b o hb q => eb b o hb q) f0 f1 f3 f4 f5⟩
  self := fun A i s Q E st h => let ⟨⟨_, he⟩, _⟩ := st; wpAny_pyIter_enum he h
def iEnumT (K : PySem.W.Frag) (ta : TA) : TI := fun σ H R => ta σ H fun vs H1 => ∃ a, vs = [.ref a] ∧ ((∃ xs, SqL K H1 a xs ∧ R (Ite K a) H1) ∨ ∃ xs, SqT K H1 a xs ∧ R (Itet K a) H1)
theorem pi_enumT {X : Cx} {e : Expr} {ta : TA} {p pos tpos : Pos} {elts : List Expr} {kk : Nat} (hg : Gl X "enumerate") (hm : X.mg "enumerate" = none) (ha : PA X [e] ta) (hs : starEach [e] X.env = [(false, eval e X.env)] := by rfl) :
    PI X (.Tuple elts kk tpos) (.Call (.Name "enumerate" p) [e] [] pos) (iEnumT X.K ta) := by
  refine ⟨fun pins s σ H R I h => ?_⟩
  refine Call_ (ld_blt I hg hm boot_enumerate (PyProof.Rows.callWith_type1 (thn (ha.run pos pins s σ H _ I h) fun us s1 ⟨vs, H1, I1, r1, q1⟩ => ?_) hs rfl))
  obtain ⟨a, ex, q⟩ := q1
  subst ex
  cases r1 with
  | cons r rr =>
    cases rr
    cases r
    rcases q with ⟨xs, hq, q⟩ | ⟨xs, hq, q⟩
    · obtain ⟨its, rv, p', hz⟩ := I1.list hq
      refine call_enum1 (begins_list a its.toArray) p'.isList fun h' he hit hk => wpAny_pyIter_enum he ?_
      have I2 : Inv X pins σ H1 { s1 with heap := h' } := I1.kept (t' := s1.toks) hk
      refine ⟨s1.heap.objs.size + 1, [s1.heap.objs.size + 1, s1.heap.objs.size], _, _, H1, rfl, I2, turn_enum a (s1.heap.objs.size + 1) s1.heap.objs.size, ⟨⟨.none, he⟩, ⟨_, hit, rfl, rfl⟩, Nat.succ_ne_self _⟩, fun b hb => ?_, q⟩
      have hle : s1.heap.objs.size ≤ b := by
        rcases (show b = s1.heap.objs.size + 1 ∨ b = s1.heap.objs.size by simpa using hb) with z | z
        · rw [z]; exact Nat.le_add_right _ _
        · rw [z]; exact Nat.le_refl _
      exact I1.fpOk hle (I1.hok.fresh hle)
    · obtain ⟨its, rv, p', hz⟩ := I1.tuple hq
      refine call_enum1 (begins_tuple a its.toArray) (show s1.heap.IsTuple a its.toArray from p') fun h' he hit hk => wpAny_pyIter_enum he ?_
      have I2 : Inv X pins σ H1 { s1 with heap := h' } := I1.kept (t' := s1.toks) hk
      refine ⟨s1.heap.objs.size + 1, [s1.heap.objs.size + 1, s1.heap.objs.size], _, _, H1, rfl, I2, turn_enumT a (s1.heap.objs.size + 1) s1.heap.objs.size, ⟨⟨.none, he⟩, ⟨_, hit, rfl, rfl⟩, Nat.succ_ne_self _⟩, fun b hb => ?_, q⟩
      have hle : s1.heap.objs.size ≤ b := by
        rcases (show b = s1.heap.objs.size + 1 ∨ b = s1.heap.objs.size by simpa using hb) with z | z
        · rw [z]; exact Nat.le_add_right _ _
        · rw [z]; exact Nat.le_refl _
      exact I1.fpOk hle (I1.hok.fresh hle)
theorem wk_enumT {K : PySem.W.Frag} {C : Nat → Addr} {G : Hp} {a : Addr} {xs : List V} {ds : List D} (h : SqT K G a xs) (r : RpL K C G xs ds) : Wk K C G (Itet K a) (pairs ds) := by
  refine ⟨_, _, by rw [pairs_len, ← r.length]; exact walk_enumT (xs := xs), fun G2 H2 s s2 => same_seqT s2 (same_seqT s h), fun i G2 H2 x H3 hi s s2 y => ?_⟩
  obtain ⟨T, u, v, rfl, nT, rfl, e1, e2⟩ := y
  cases e1
  obtain ⟨d, hd, p⟩ := r.getV e2
  have g := Grow.new (o := .tup [V.int (i : Nat), v]) s2 nT
  refine ⟨.tup [.int (i : Nat), d], _, ?_, g, .tup (.inl (.inl upd_same)) (.cons (.int _) (.cons ((p.mono s).mono g.gg) .nil))⟩
  unfold pairs
  rw [List.getElem?_mapIdx, hd]
  rfl
def enumKT : D → ENV → R (List D) := fun x ρ1 => match x with
  | .lst ds => .ok (pairs ds) ρ1
  | .scr ds => .ok (pairs ds) ρ1
  | .tup ds => .ok (pairs ds) ρ1
  | _ => .bot
def dEnumT (da : ENV → R D) : ENV → R (List D) := fun ρ => (da ρ).bind enumKT
theorem di_enumT {X : Cx} {cc : Cc} {a : Expr} {da : ENV → R D} {pos p tpos : Pos} {elts : List Expr} {kk : Nat} (hg : Gl X "enumerate") (hm : X.mg "enumerate" = none) (ha : DE X cc a da) (hs : starEach [a] X.env = [(false, eval a X.env)] := by rfl)
    (hs2 : starEach [a] X.env = (false, eval a X.env) :: starEach [] X.env := by rfl) : DI X cc (.Tuple elts kk tpos) (.Call (.Name "enumerate" p) [a] [] pos) (dEnumT da) := by
  refine PI.imp (pi_enumT hg hm (pa_cons ha pa_nil hs2) hs) fun σ H Q ⟨B, ρ, G, R0, h⟩ => ⟨B, ρ, G, R0, Post.bind (V2 := fun G' J ds => Wk X.K cc.C G' J ds) h fun d1 ρ1 G1 H1 x e1 R1 p1 h1 => ?_⟩
  cases p1 with
  | lst h r => exact ⟨_, rfl, .inl ⟨_, .inl (.inl (R1.gk _ _ h)), h1 _ G1 H1 (Ext.refl _ _) R1 (wk_enum (.inl (.inl h)) r)⟩⟩
  | scr h r => exact ⟨_, rfl, .inl ⟨_, Same.seq R1.gk h, h1 _ G1 H1 (Ext.refl _ _) R1 (wk_enum h r)⟩⟩
  | tup h r => exact ⟨_, rfl, .inr ⟨_, same_seqT R1.gk h, h1 _ G1 H1 (Ext.refl _ _) R1 (wk_enumT h r)⟩⟩
  | _ => exact h1.elim
end Rf
set_option Elab.async false
set_option linter.all false
set_option maxRecDepth 100000
set_option maxHeartbeats 1000000
/-! Rf22: d.get(k) of a written dict, a list's item at a truth, repr, a text times a number, isinstance with two classes -/
namespace Rf
open PySem PySem.Spec L2 PyProof.Rows
/-! ### a written dict of texts -/
inductive RelD : D → Value → Prop
  | int (i : Int) (t : Tok) : RelD (.int i) (.int i t)
  | str (x : Str) (t : Tok) (h : x.length ≤ sizeLine) : RelD (.str x) (.str x t)
inductive KRows : List DictEntry → List (Str × D) → Prop
  | nil : KRows [] []
  | cons {h : Int} {x : Str} {t : Tok} {v : Value} {d : D} {es : List DictEntry} {tab : List (Str × D)} (q : RelD d v) (r : KRows es tab) : KRows (⟨h, .str x t, v⟩ :: es) ((x, d) :: tab)
structure KTb (K : PySem.W.Frag) (a : Addr) (tab : List (Str × D)) : Prop where
  low : (a == sysModules) = false
  ex : ∃ (es : Array DictEntry) (n : Nat), K.lookup a = some ⟨.type "dict", none, .dict es n, #[]⟩ ∧ KRows es.toList tab
def lkS (k : Str) : List (Str × D) → Option D
  | [] => none
  | (x, d) :: r => if k = x then some d else lkS k r
def kD (tab : List (Str × D)) : List (Str × KTD.Dat) := tab.map fun p => (p.1, .flat p.2.toPy)
theorem KRows.rows {h : Heap} : ∀ {es : List DictEntry} {tab : List (Str × D)}, KRows es tab → KTD.Rows (KTD.Dat.At h) es (kD tab)
  | _, _, .nil => .nil
  | _, _, .cons q r => by
    refine .cons rfl ?_ r.rows
    cases q with
    | int i t => exact PyProof.V.Flat.int i t
    | str x t _ => exact PyProof.V.Flat.str x t
theorem KRows.each {h : Heap} {k : Str} {P : Value → Prop} {els : Prop} : ∀ {es : List DictEntry} {tab : List (Str × D)}, KRows es tab → (∀ d u, lkS k tab = some d → RelD d u → P u) → (lkS k tab = none → els) → KTD.Each h k P els (kD tab)
  | _, _, .nil, _, h2 => h2 rfl
  | _, _, @KRows.cons _ x _ v d _ tab q r, h1, h2 => by
    unfold lkS at h1 h2
    show (if decide (k = x) = true then KTD.Opened h P (.flat d.toPy) else KTD.Each h k P els (kD tab))
    by_cases e : k = x
    · rw [if_pos (decide_eq_true e)]
      simp only [if_pos e] at h1
      cases q with
      | int i t => exact fun t' => h1 _ _ rfl (.int i t')
      | str y t hy => exact fun t' => h1 _ _ rfl (.str y t' hy)
    · rw [if_neg (by simp [e])]
      simp only [if_neg e] at h1 h2
      exact r.each h1 h2
def vOf : D → V
  | .int i => .int i
  | .str x => .str x
  | _ => .non
def tKGet (tab : List (Str × D)) (te : TE) : TE := fun σ H Q => te σ H fun y H2 => ∃ k, y = .str k ∧ (∀ v, (∀ d u, lkS k tab = some d → RelD d u → v = vOf d) → (lkS k tab = none → v = .non) → Q v H2)
theorem pe_kget {X : Cx} {o e : Expr} {te : TE} {a : Addr} {tab : List (Str × D)} {apos cpos : Pos} (T : KTb X.K a tab) (ho : PE X o (tC (.ref a))) (he : PE X e te) (m : M1 X o "get" apos e cpos) : PE X (.Call (.Attribute o "get" apos) [e] [] cpos) (tKGet tab te) := by
  refine ⟨fun pins s σ H Q I h => ?_⟩
  obtain ⟨es, n, hk, hr⟩ := T.ex
  have here : ∀ {H' : Hp} {s' : Shared}, L2.Inv X pins σ H' s' → KTD.Here s'.heap s'.heap a (kD tab) := fun J => ⟨⟨T.low, _, es, n, J.kIn _ _ hk, ⟨rfl, rfl, rfl⟩, rfl, hr.rows⟩, fun _ _ z => z⟩
  refine wpAny_Call_method m.base m.few m.line PySem.F.plainAttrs_dict PySem.F.slot_dict_get PySem.F.type_dict_get (thn (ho.run pins s σ H (fun x H1 => x = .ref a ∧ tKGet tab te σ H1 Q) I ⟨rfl, h⟩) fun u s1 ⟨x, H1, I1, rx, ex, q1⟩ => ?_)
  subst ex
  obtain rfl : u = Value.ref a := rx
  refine ⟨(here I1).typeIs, (here I1).noDict, ?_⟩
  rw [m.trees]
  refine Calls.callWith_builtin rfl (Calls.evalArgs_plain (Calls.spliced_cons (thn (he.run pins s1 σ H1 _ I1 q1) fun iv s2 ⟨y, H2, I2, ry, k, ek, q2⟩ => Calls.spliced_nil ?_)))
  subst ek
  obtain ⟨t, rfl⟩ := ry
  refine KTD.get1_text (here I2) (hr.each (fun d u hd hu => ?_) fun hn => ?_)
  · have q3 := q2 (vOf d) (fun d' u' e' _ => by rw [hd] at e'; cases e'; rfl) (fun e' => by rw [hd] at e'; cases e')
    cases hu with
    | int i t => exact ⟨.int i, H2, I2.tok _, ⟨_, rfl⟩, q3⟩
    | str x t hx => exact ⟨.str x, H2, I2.tok _, ⟨_, rfl⟩, q3⟩
  · exact ⟨.non, H2, I2.tok _, rfl, q2 .non (fun d' u' e' _ => by rw [hn] at e'; cases e') fun _ => rfl⟩
def getK (tab : List (Str × D)) : D → ENV → R D := fun x ρ1 => match x with
  | .str k => .ok ((lkS k tab).getD .non) ρ1
  | _ => .bot
def dGetK (tab : List (Str × D)) (da : ENV → R D) : ENV → R D := fun ρ => (da ρ).bind (getK tab)
theorem KRows.at_ {k : Str} {d : D} : ∀ {es : List DictEntry} {tab : List (Str × D)}, KRows es tab → lkS k tab = some d → ∃ u, RelD d u
  | _, _, .nil, e => nomatch e
  | _, _, @KRows.cons _ x _ v d _ tab q r, e => by
    unfold lkS at e
    by_cases z : k = x
    · rw [if_pos z] at e; cases e; exact ⟨_, q⟩
    · rw [if_neg z] at e; exact r.at_ e
theorem de_kget {X : Cx} {cc : Cc} {x : Str} {e : Expr} {a : Addr} {tab : List (Str × D)} {de : ENV → R D} {p apos cpos : Pos} (T : KTb X.K a tab) (hg : Gl X x) (hm : X.mg x = some (.ref a)) (he : DE X cc e de) (m : M1 X (.Name x p) "get" apos e cpos)
    (hd : (x == ("__debug__" : Str)) = false := by decide) : DE X cc (.Call (.Attribute (.Name x p) "get" apos) [e] [] cpos) (dGetK tab de) := by
  refine PE.imp (pe_kget T (pe_glob hg hm rfl hd) he m) fun σ H Q ⟨B, ρ, G, R0, h⟩ => ⟨B, ρ, G, R0, h.bind fun d1 ρ1 G1 H1 y e1 R1 p1 h1 => ?_⟩
  cases p1 with
  | str k hk =>
    refine ⟨k, rfl, fun v h2 h3 => ?_⟩
    obtain ⟨es, n, _, hr⟩ := T.ex
    cases hl : lkS k tab with
    | none =>
      have h1 : Post X.K cc (Rp X.K cc.C) B G1 σ Q (.ok ((lkS k tab).getD .non) ρ1) := h1
      rw [hl] at h1
      rw [h3 hl]
      exact h1 .non G1 H1 (Ext.refl _ _) R1 .non
    | some d =>
      have h1 : Post X.K cc (Rp X.K cc.C) B G1 σ Q (.ok ((lkS k tab).getD .non) ρ1) := h1
      rw [hl] at h1
      obtain ⟨u, hu⟩ := hr.at_ hl
      rw [h2 d u hl hu]
      cases hu with
      | int i t => exact h1 (.int i) G1 H1 (Ext.refl _ _) R1 (.int i)
      | str z t hz => exact h1 (.str z) G1 H1 (Ext.refl _ _) R1 (.str z hz)
  | _ => exact h1.elim
/-! ### xs[truth] -/
theorem list_sub_bool {M : Model} {A : Around} {E : Value → Shared → Prop} {s : Shared} {b : Bool} {Q : Option Int → Shared → Prop} (h : Q (some (if b then 1 else 0)) s) : wpAny M A (Builtin.List.listSubscript? (.bool b)) Q E s := by
  unfold Builtin.List.listSubscript?
  refine wpAny_bind (wpAny_specialOf (T := "bool") (PySem.typeIs_bool s b) F.slot_bool_index.lookup ?_)
  show wpAny M A (asIndex (.bool b) >>= _) Q E s
  refine wpAny_bind (wpAny_of_eq (a := if b then 1 else 0) (by cases b <;> rfl) ?_)
  show wpAny M A (if (!Builtin.List.listFitsIndex (if b then 1 else 0)) = true then _ else _) Q E s
  rw [if_neg (by cases b <;> decide)]
  exact wpAny_pure h
theorem getItem_list_bool {prog : Program} {w : World} {A : Around} {E : Value → Shared → Prop} {s : Shared} {l : Addr} {items : Array Value} {b : Bool} {x : Value} {Q : Value → Shared → Prop} (hl : s.heap.IsList l items)
    (hx : items[if b then 1 else 0]? = some x) (h : Q x s) : wpAny (model prog w) A (getItem (.ref l) (.bool b)) Q E s := by
  obtain ⟨o, ho, hc, ne, hd⟩ := id hl
  unfold getItem
  try with_reducible refine wpAny_holding ?_
  first | refine wpAny_bind (wpAny_pure ?_) | skip
  refine wpAny_bind (wpAny_sequenceKey hl.typeIs (by decide) ?_)
  refine wpAny_bind (wpAny_callSpecial?_slot (name := Str.ofString "__getitem__") hl.typeIs slot_list_getitem (wpAny_call_entry slot_list_getitem hl.typeIs entry_list_getitem ?_ (args_list_getitem _ _)))
  show wpAny _ _ (Builtin.List.listSubscript? (.bool b) >>= _) _ _ s
  refine wpAny_bind (list_sub_bool ?_)
  have e : ((if b then 1 else 0 : Int)) = ((if b then 1 else 0 : Nat) : Int) := by cases b <;> rfl
  rw [e]
  show wpAny _ _ ((seqItemAt l (if b then 1 else 0) >>= fun r => pure (r.map ((if b then 1 else 0), ·))) >>= _) _ _ s
  refine wpAny_bind (wpAny_bind (wpAny_seqItemAt ho hd (wpAny_pure ?_)))
  rw [hx]
  first
    | exact wpAny_bind (wpAny_pure (wpAny_pure ⟨x, rfl, wpAny_pure h⟩))
    | exact wpAny_pure ⟨x, rfl, wpAny_pure h⟩
def rIxLB (K : PySem.W.Frag) : R2 := fun x y H Q => ∃ p xs b z, x = .ref p ∧ y = .bl b ∧ SqL K H p xs ∧ xs[if b then 1 else 0]? = some z ∧ Q z H
theorem ix_listB {X : Cx} : IxR X (rIxLB X.K) := by
  intro value slice pins s σ H x y v u Q I rx ry h hs
  obtain ⟨p, xs, b, z, rfl, rfl, hq, he, q⟩ := h
  cases rx
  cases ry
  obtain ⟨its, r, pl, hz⟩ := I.list hq
  obtain ⟨w, ew, rw'⟩ := r.get he
  exact subscriptTail_builtinR (x := w) pl.isList.typeIs slot_list_getitem.lookup (getItem_list_bool (Q := fun r s' => r = w ∧ EP X pins σ Q r s') pl.isList (by simpa using ew) ⟨rfl, z, H, I, rw', q⟩) hs
def vIxB : D → D → Option D
  | .lst ds, .bl b => ds[if b then 1 else 0]?
  | _, _ => none
theorem v2_ixB {K : PySem.W.Frag} {C : Nat → Addr} : V2 K C vIxB (rIxLB K) := by
  intro G H x y dx dy d Q s px py e k
  cases px with
  | lst h r =>
    cases py with
    | bl b =>
      obtain ⟨z, h1, h2⟩ := r.get (show _ = some d from e)
      exact ⟨_, _, b, z, rfl, rfl, .inl (.inl (s _ _ h)), h1, Grow.here s k h2⟩
    | _ => cases e
  | _ => cases py <;> cases e
theorem de_ixB {X : Cx} {cc : Cc} {a b : Expr} {da db : ENV → R D} {pos : Pos} (ha : DE X cc a da) (hb : DE X cc b db) (hs : PlainIx b := by intro _ _; rfl) : DE X cc (.Subscript a b pos) (dOp vIxB da db) := PE.imp (pe_ix ix_listB ha hb hs) (op_core v2_ixB)
/-! ### repr -/
def rRepr : List V → Hp → VK → Prop := fun xs H Q => (∃ i, xs = [.int i] ∧ i.natAbs.log2 < 1920 ∧ Q (.str (toString i)) H) ∨ ∃ z, xs = [.str z] ∧ (reprText z).length ≤ sizeLine ∧ Q (.str (reprText z)) H
theorem call_reprS {X : Cx} : CallR X (.builtin "repr") rRepr := by
  intro pins s σ H xs us Q I r h
  rcases h with ⟨i, rfl, hz, q⟩ | ⟨z, rfl, hz, q⟩
  · obtain ⟨u, rfl, t, rfl⟩ := vals1 r
    exact PySem.P.repr_of_int hz ⟨.str _, H, I.tok _, ⟨_, rfl⟩, q⟩
  · obtain ⟨u, rfl, t, rfl⟩ := vals1 r
    exact PySem.P.repr_of_str ⟨.str _, H, I.tok _, ⟨_, rfl⟩, q⟩ hz
def fRepr : List D → Option D
  | [.int i] => if i.natAbs.log2 < 1920 ∧ (toString i : Str).length ≤ sizeLine then some (.str (toString i)) else none
  | [.str z] => if (reprText z).length ≤ sizeLine then some (.str (reprText z)) else none
  | _ => none
theorem vb_repr {K : PySem.W.Frag} {C : Nat → Addr} : VB K C fRepr rRepr := by
  intro G H xs ds d Q s r e k
  cases r with
  | nil => cases e
  | cons h t =>
    cases t with
    | cons _ _ => cases h <;> cases e
    | nil =>
      cases h with
      | int i =>
        have e : (if i.natAbs.log2 < 1920 ∧ (toString i : Str).length ≤ sizeLine then some (D.str (toString i)) else none) = some d := e
        split at e
        · rename_i q; cases e; exact .inl ⟨i, rfl, q.1, Grow.here s k (.str _ q.2)⟩
        · cases e
      | str z hz =>
        have e : (if (reprText z).length ≤ sizeLine then some (D.str (reprText z)) else none) = some d := e
        split at e
        · rename_i q; cases e; exact .inr ⟨z, rfl, q, Grow.here s k (.str _ q)⟩
        · cases e
      | _ => cases e
/-! ### text * number -/
def repS (z : Str) (n : Nat) : Str := ⟨(List.replicate n z.cps).foldl (· ++ ·) #[]⟩
def rMulS : R2 := fun x y H Q => ∃ z n, x = .str z ∧ y = .int n ∧ 1 < n ∧ n < 2 ^ 24 ∧ 0 < z.length ∧ z.length * n.toNat ≤ sizeLine ∧ (repS z n.toNat).length ≤ sizeLine ∧ Q (.str (repS z n.toNat)) H
theorem op_mulS {X : Cx} : OpR X (binaryOp .Mult) rMulS := by
  intro pins s σ H x y v u Q I rx ry h
  obtain ⟨z, n, rfl, rfl, h1, h2, h3, h4, h5, q⟩ := h
  obtain ⟨t, rfl⟩ := rx
  obtain ⟨t', rfl⟩ := ry
  have hz : (z.length : Int) ≤ 2 ^ 24 := by
    have : z.length ≤ z.length * n.toNat := Nat.le_mul_of_pos_right _ (by omega)
    rw [sizeLine_eq] at h4
    omega
  refine PySem.P.mul_str ?_ (fun _ _ => ?_) (fun _ _ => ?_) ?_
  · rw [decide_eq_false (by omega), decide_eq_false (by omega)]; rfl
  · have h6 : (2 ^ 24 : Int) ≤ (2 ^ 63 - 1) / n := by
      rw [Int.le_ediv_iff_mul_le (by omega)]
      have : (2 ^ 24 : Int) * n ≤ 2 ^ 24 * 2 ^ 24 := Int.mul_le_mul_of_nonneg_left (by omega) (by decide)
      omega
    omega
  · exact decide_eq_false (Nat.not_lt.mpr h4)
  · rw [if_neg (by omega), if_neg (by simp; omega)]
    exact ⟨h5, .str _, H, I.tok _, ⟨_, rfl⟩, q⟩
def vMulS : D → D → Option D
  | .str z, .int n => if 1 < n ∧ n < 2 ^ 24 ∧ 0 < z.length ∧ z.length * n.toNat ≤ sizeLine ∧ (repS z n.toNat).length ≤ sizeLine then some (.str (repS z n.toNat)) else none
  | _, _ => none
theorem v2_mulS {K : PySem.W.Frag} {C : Nat → Addr} : V2 K C vMulS rMulS := by
  intro G H x y dx dy d Q s px py e k
  cases px with
  | str z hz =>
    cases py with
    | int n =>
      have e : (if 1 < n ∧ n < 2 ^ 24 ∧ 0 < z.length ∧ z.length * n.toNat ≤ sizeLine ∧ (repS z n.toNat).length ≤ sizeLine then some (D.str (repS z n.toNat)) else none) = some d := e
      split at e
      · rename_i q; cases e; exact ⟨z, n, rfl, rfl, q.1, q.2.1, q.2.2.1, q.2.2.2.1, q.2.2.2.2, Grow.here s k (.str _ q.2.2.2.2)⟩
      · cases e
    | _ => cases e
  | _ => cases py <;> cases e
theorem de_mulS {X : Cx} {cc : Cc} {a b : Expr} {da db : ENV → R D} {pos : Pos} (ha : DE X cc a da) (hb : DE X cc b db) : DE X cc (.BinOp a .Mult b pos) (dOp vMulS da db) := de_op op_mulS v2_mulS ha hb
/-! ### isinstance(a, (y1, y2)) -/
def or2 (f g : D → Option Bool) : D → Option Bool := fun d => match f d, g d with
  | some a, some b => some (a || b)
  | _, _ => none
theorem de_is2 {X : Cx} {cc : Cc} {x y1 y2 : Str} {a : Expr} {da : ENV → R D} {p p1 p2 p3 pos : Pos} {k : Nat} {f1 f2 : D → Option Bool} {cv1 cv2 : V} {cu1 cu2 : Value}
    (hf : ∀ {G H : Hp} {v : V} {d : D} {b1 b2 : Bool}, Same G H → Rp X.K cc.C G v d → f1 d = some b1 → f2 d = some b2 → ∃ t, TyX X.K H v t ∧ PySem.W.kitOne X.K t cu1 = some b1 ∧ PySem.W.kitOne X.K t cu2 = some b2)
    (hc1 : PE X (.Name y1 p1) (tC cv1)) (hk1 : ClsV cv1 cu1) (hc2 : PE X (.Name y2 p2) (tC cv2)) (hk2 : ClsV cv2 cu2) (hg : Gl X x) (hm : X.mg x = none) (hv : bootBuiltins x = some (.builtin "isinstance")) (ha : DE X cc a da)
    (hn : x ≠ "__name__" := by decide) (hdb : (x == ("__debug__" : Str)) = false := by decide)
    (he : starEach [a, .Tuple [.Name y1 p1, .Name y2 p2] k p3] X.env = (false, eval a X.env) :: starEach [.Tuple [.Name y1 p1, .Name y2 p2] k p3] X.env := by rfl)
    (hpl : (backTo pos (starEach [.Tuple [.Name y1 p1, .Name y2 p2] k p3] X.env)).any (·.1) = false := by rfl)
    (hs2 : starEach [.Tuple [.Name y1 p1, .Name y2 p2] k p3] X.env = (false, eval (.Tuple [.Name y1 p1, .Name y2 p2] k p3) X.env) :: starEach [] X.env := by rfl)
    (hs3 : starEach [.Name y1 p1, .Name y2 p2] X.env = (false, eval (.Name y1 p1) X.env) :: starEach [.Name y2 p2] X.env := by rfl) (hs4 : starEach [.Name y2 p2] X.env = (false, eval (.Name y2 p2) X.env) :: starEach [] X.env := by rfl) :
    DE X cc (.Call (.Name x p) [a, .Tuple [.Name y1 p1, .Name y2 p2] k p3] [] pos) (dIs (or2 f1 f2) da) := by
  refine PE.imp (pe_callB call_isiT hg hm hv (pa_cons ha (pa_cons (pe_tup (pa_cons hc1 (pa_cons hc2 pa_nil hs4) hs3)) pa_nil hs2) he) hn hdb he hpl) fun σ H Q ⟨B, ρ, G, R0, h⟩ => ⟨B, ρ, G, R0, h.bind fun d1 ρ1 G1 H1 v e1 R1 p1 h1 => ?_⟩
  cases hb1 : f1 d1 with
  | none => simp only [or2, hb1, Option.map_none] at h1; exact h1.elim
  | some b1 =>
    cases hb2 : f2 d1 with
    | none => simp only [or2, hb1, hb2, Option.map_none] at h1; exact h1.elim
    | some b2 =>
      simp only [or2, hb1, hb2, Option.map_some] at h1
      refine ⟨by rw [sizeLine_eq]; show 2 ≤ _; decide, fun tp htp => ?_⟩
      have sG : Same G1 (upd H1 tp (.tup [cv1, cv2])) := R1.gk.trans (same_upd htp)
      obtain ⟨t, ht, hko, hko2⟩ := hf sG p1 hb1 hb2
      refine ⟨v, tp, [cv1, cv2], t, [cu1, cu2], b1 || b2, rfl, upd_same, .cons hk1 (.cons hk2 .nil), ht, ?_, Post.fin h1 R1 (Ext.refl _ _) (Grow.newO R1.gk htp) (.bl _)⟩
      refine kitAny_cons hko (fun e => ?_) (fun e => by rw [e]; rfl)
      subst e
      refine kitAny_cons hko2 (fun e => ?_) (fun e => by rw [e]; rfl)
      subst e
      exact kitAny_nil
theorem isTy2_ok {K : PySem.W.Frag} {C : Nat → Addr} {T1 T2 : String} {G H : Hp} {v : V} {d : D} {b1 b2 : Bool} (s : Same G H) (p : Rp K C G v d) (e1 : isTy T1 d = some b1) (e2 : isTy T2 d = some b2) :
    ∃ t, TyX K H v t ∧ PySem.W.kitOne K t (.type T1) = some b1 ∧ PySem.W.kitOne K t (.type T2) = some b2 := by
  cases p with
  | non => exact ⟨_, .base .non, kit_ty e1, kit_ty e2⟩
  | bl b => exact ⟨_, .base (.bl b), kit_ty e1, kit_ty e2⟩
  | int b => exact ⟨_, .base (.int b), kit_ty e1, kit_ty e2⟩
  | str b _ => exact ⟨_, .base (.str b), kit_ty e1, kit_ty e2⟩
  | tup h r => exact ⟨_, sqT_ty (same_seqT s h), kit_ty e1, kit_ty e2⟩
  | lst h r => exact ⟨_, .base (.lst (s _ _ h)), kit_ty e1, kit_ty e2⟩
  | scr h r => exact ⟨_, sqL_ty (Same.seq s h), kit_ty e1, kit_ty e2⟩
  | dic h r => exact ⟨_, .base (.dK (s _ _ h)), kit_ty e1, kit_ty e2⟩
  | ins h r => cases e1
theorem de_isT2 {X : Cx} {cc : Cc} {T1 T2 : String} {x y1 y2 : Str} {a : Expr} {da : ENV → R D} {p p1 p2 p3 pos : Pos} {k : Nat} (hg : Gl X x) (hm : X.mg x = none) (hv : bootBuiltins x = some (.builtin "isinstance")) (hg1 : Gl X y1) (hm1 : X.mg y1 = none) (hv1 : bootBuiltins y1 = some (.type T1))
    (hg2 : Gl X y2) (hm2 : X.mg y2 = none) (hv2 : bootBuiltins y2 = some (.type T2)) (ha : DE X cc a da)
    (hn : x ≠ "__name__" := by decide) (hdb : (x == ("__debug__" : Str)) = false := by decide) (hn1 : y1 ≠ "__name__" := by decide) (hdb1 : (y1 == ("__debug__" : Str)) = false := by decide) (hn2 : y2 ≠ "__name__" := by decide) (hdb2 : (y2 == ("__debug__" : Str)) = false := by decide)
    (he : starEach [a, .Tuple [.Name y1 p1, .Name y2 p2] k p3] X.env = (false, eval a X.env) :: starEach [.Tuple [.Name y1 p1, .Name y2 p2] k p3] X.env := by rfl)
    (hpl : (backTo pos (starEach [.Tuple [.Name y1 p1, .Name y2 p2] k p3] X.env)).any (·.1) = false := by rfl)
    (hs2 : starEach [.Tuple [.Name y1 p1, .Name y2 p2] k p3] X.env = (false, eval (.Tuple [.Name y1 p1, .Name y2 p2] k p3) X.env) :: starEach [] X.env := by rfl)
    (hs3 : starEach [.Name y1 p1, .Name y2 p2] X.env = (false, eval (.Name y1 p1) X.env) :: starEach [.Name y2 p2] X.env := by rfl) (hs4 : starEach [.Name y2 p2] X.env = (false, eval (.Name y2 p2) X.env) :: starEach [] X.env := by rfl) :
    DE X cc (.Call (.Name x p) [a, .Tuple [.Name y1 p1, .Name y2 p2] k p3] [] pos) (dIs (or2 (isTy T1) (isTy T2)) da) :=
  de_is2 (cv1 := .ty T1) (cv2 := .ty T2) (cu1 := .type T1) (cu2 := .type T2) (fun s p e1 e2 => isTy2_ok s p e1 e2) (pe_bltn hg1 hm1 hv1 rfl hn1 hdb1) (.ty T1) (pe_bltn hg2 hm2 hv2 rfl hn2 hdb2) (.ty T2) hg hm hv ha hn hdb he hpl hs2 hs3 hs4
theorem relS (x : Str) (t : Tok) : RelV (.str x) (.str x t) := ⟨t, rfl⟩
theorem relI (x : Int) (t : Tok) : RelV (.int x) (.int x t) := ⟨t, rfl⟩
/-- a written dict of the module -/
structure KG (K : PySem.W.Frag) (mg : Str → Option Value) (x : Str) (tab : List (Str × D)) : Prop where
  ex : ∃ a, mg x = some (.ref a) ∧ KTb K a tab
theorem de_kgetG {X : Cx} {cc : Cc} {x : Str} {e : Expr} {tab : List (Str × D)} {de : ENV → R D} {p apos cpos : Pos} (T : KG X.K X.mg x tab) (hg : Gl X x) (he : DE X cc e de) (m : M1 X (.Name x p) "get" apos e cpos)
    (hd : (x == ("__debug__" : Str)) = false := by decide) : DE X cc (.Call (.Attribute (.Name x p) "get" apos) [e] [] cpos) (dGetK tab de) := by
  obtain ⟨a, hm, t⟩ := T.ex
  exact de_kget t hg hm he m hd
end Rf
set_option Elab.async false
set_option linter.all false
set_option maxRecDepth 100000
/-! RfS: rewriting a denotation on given slots, as an interpreter does -/
namespace Rf
open PySem PySem.Spec L2
section
variable {α β : Type}
theorem e_bind (a : α) (ρ : ENV) (f : α → ENV → R β) : (R.ok a ρ).bind f = f a ρ := rfl
theorem e_bindX (e : EX) (ρ : ENV) (f : α → ENV → R β) : (R.exc e ρ).bind f = .exc e ρ := rfl
theorem e_bindB (f : α → ENV → R β) : (R.bot : R α).bind f = .bot := rfl
theorem e_of (a : α) (ρ : ENV) : R.of (some a) ρ = .ok a ρ := rfl
theorem c_bind {r r' : R α} {f : α → ENV → R β} (h : r = r') : r.bind f = r'.bind f := by rw [h]
/-! ### expressions -/
def look (o : Option (Option DV)) (i : Nat) (ρ : ENV) : R D := match o with
  | some (some (.sh d)) => .ok d ρ
  | some (some (.ow m)) => .ok m.toD (ρ.set i (some (.sh m.toD)))
  | _ => .bot
theorem e_var (i : Nat) (ρ : ENV) : dVar i ρ = look ρ[i]? i ρ := rfl
theorem e_lookS (d : D) (i : Nat) (ρ : ENV) : look (some (some (.sh d))) i ρ = .ok d ρ := rfl
theorem e_lookO (m : M) (i : Nat) (ρ : ENV) : look (some (some (.ow m))) i ρ = .ok m.toD (ρ.set i (some (.sh m.toD))) := rfl
theorem e_C (d : D) (ρ : ENV) : dC d ρ = .ok d ρ := rfl
def op2 (f : D → D → Option D) (db : ENV → R D) : D → ENV → R D := fun x ρ1 => (db ρ1).bind fun y ρ2 => R.of (f x y) ρ2
theorem e_op (f : D → D → Option D) (da db : ENV → R D) (ρ : ENV) : dOp f da db ρ = (da ρ).bind (op2 f db) := rfl
def op1 (f : D → Option D) : D → ENV → R D := fun y ρ2 => R.of (f y) ρ2
theorem e_op2 (f : D → D → Option D) (db : ENV → R D) (x : D) (ρ : ENV) : op2 f db x ρ = (db ρ).bind (op1 (f x)) := rfl
theorem e_op1 (f : D → Option D) (y : D) (ρ : ENV) : op1 f y ρ = R.of (f y) ρ := rfl
theorem e_un (f : D → Option D) (da : ENV → R D) (ρ : ENV) : dUn f da ρ = (da ρ).bind (op1 f) := rfl
theorem e_is (f : D → Option Bool) (da : ENV → R D) (ρ : ENV) : dIs f da ρ = (da ρ).bind (op1 fun d => (f d).map D.bl) := rfl
def toB : D → ENV → R Bool
  | .bl b, ρ => .ok b ρ
  | _, _ => .bot
theorem e_T (da : ENV → R D) (ρ : ENV) : dT da ρ = (da ρ).bind toB := by
  unfold dT asT
  cases da ρ with
  | ok d ρ => cases d <;> rfl
  | exc e ρ => rfl
  | bot => rfl
theorem e_toB (b : Bool) (ρ : ENV) : toB (.bl b) ρ = .ok b ρ := rfl
def truB : D → ENV → R Bool := fun d ρ => R.of (tru d) ρ
theorem e_Tru (da : ENV → R D) (ρ : ENV) : dTru da ρ = (da ρ).bind truB := rfl
theorem e_truB (d : D) (ρ : ENV) : truB d ρ = R.of (tru d) ρ := rfl
def andK (db : ENV → R Bool) : Bool → ENV → R Bool := fun x ρ1 => if x = true then db ρ1 else .ok false ρ1
def orK (db : ENV → R Bool) : Bool → ENV → R Bool := fun x ρ1 => if x = true then .ok true ρ1 else db ρ1
theorem e_And (da db : ENV → R Bool) (ρ : ENV) : dAnd da db ρ = (da ρ).bind (andK db) := rfl
theorem e_Or (da db : ENV → R Bool) (ρ : ENV) : dOr da db ρ = (da ρ).bind (orK db) := rfl
theorem e_andT (db : ENV → R Bool) (ρ : ENV) : andK db true ρ = db ρ := rfl
theorem e_andF (db : ENV → R Bool) (ρ : ENV) : andK db false ρ = .ok false ρ := rfl
theorem e_orT (db : ENV → R Bool) (ρ : ENV) : orK db true ρ = .ok true ρ := rfl
theorem e_orF (db : ENV → R Bool) (ρ : ENV) : orK db false ρ = db ρ := rfl
def notK : Bool → ENV → R Bool := fun x ρ1 => .ok (!x) ρ1
theorem e_Not (da : ENV → R Bool) (ρ : ENV) : dNot da ρ = (da ρ).bind notK := rfl
theorem e_notK (x : Bool) (ρ : ENV) : notK x ρ = .ok (!x) ρ := rfl
def andVK (db : ENV → R D) : D → ENV → R D := fun x ρ1 => match tru x with
  | some true => db ρ1
  | some false => .ok x ρ1
  | none => .bot
def orVK (db : ENV → R D) : D → ENV → R D := fun x ρ1 => match tru x with
  | some true => .ok x ρ1
  | some false => db ρ1
  | none => .bot
theorem e_AndV (da db : ENV → R D) (ρ : ENV) : dAndV da db ρ = (da ρ).bind (andVK db) := rfl
theorem e_OrV (da db : ENV → R D) (ρ : ENV) : dOrV da db ρ = (da ρ).bind (orVK db) := rfl
theorem e_andVT (db : ENV → R D) (ρ : ENV) : andVK db (.bl true) ρ = db ρ := rfl
theorem e_andVF (db : ENV → R D) (ρ : ENV) : andVK db (.bl false) ρ = .ok (.bl false) ρ := rfl
theorem e_orVT (db : ENV → R D) (ρ : ENV) : orVK db (.bl true) ρ = .ok (.bl true) ρ := rfl
theorem e_orVF (db : ENV → R D) (ρ : ENV) : orVK db (.bl false) ρ = db ρ := rfl
def notVK : D → ENV → R D := fun x ρ1 => R.of ((tru x).map fun k => .bl (!k)) ρ1
theorem e_NotV (da : ENV → R D) (ρ : ENV) : dNotV da ρ = (da ρ).bind notVK := rfl
theorem e_notVK (x : Bool) (ρ : ENV) : notVK (.bl x) ρ = .ok (.bl (!x)) ρ := rfl
def ifK (da db : ENV → R D) : Bool → ENV → R D := fun x ρ1 => if x = true then da ρ1 else db ρ1
theorem e_If (t : ENV → R Bool) (da db : ENV → R D) (ρ : ENV) : dIf t da db ρ = (t ρ).bind (ifK da db) := rfl
theorem e_ifT (da db : ENV → R D) (ρ : ENV) : ifK da db true ρ = da ρ := rfl
theorem e_ifF (da db : ENV → R D) (ρ : ENV) : ifK da db false ρ = db ρ := rfl
theorem e_Nil (ρ : ENV) : dNil ρ = .ok [] ρ := rfl
def consK (dr : ENV → R (List D)) : D → ENV → R (List D) := fun x ρ1 => (dr ρ1).bind fun xs ρ2 => .ok (x :: xs) ρ2
def consK2 (x : D) : List D → ENV → R (List D) := fun xs ρ2 => .ok (x :: xs) ρ2
theorem e_Cons (da : ENV → R D) (dr : ENV → R (List D)) (ρ : ENV) : dCons da dr ρ = (da ρ).bind (consK dr) := rfl
theorem e_consK (dr : ENV → R (List D)) (x : D) (ρ : ENV) : consK dr x ρ = (dr ρ).bind (consK2 x) := rfl
theorem e_consK2 (x : D) (xs : List D) (ρ : ENV) : consK2 x xs ρ = .ok (x :: xs) ρ := rfl
def tupK : List D → ENV → R D := fun xs ρ1 => if xs.length ≤ sizeLine then .ok (.tup xs) ρ1 else .bot
def lstK : List D → ENV → R D := fun xs ρ1 => if xs.length ≤ sizeLine then .ok (.lst xs) ρ1 else .bot
def lstF : List D → ENV → R M := fun xs ρ1 => if xs.length ≤ sizeLine then .ok (.lst xs) ρ1 else .bot
theorem e_Tup (dr : ENV → R (List D)) (ρ : ENV) : dTup dr ρ = (dr ρ).bind tupK := rfl
theorem e_Lst (dr : ENV → R (List D)) (ρ : ENV) : dLst dr ρ = (dr ρ).bind lstK := rfl
theorem e_LstF (dr : ENV → R (List D)) (ρ : ENV) : fLst dr ρ = (dr ρ).bind lstF := rfl
theorem e_tupK (xs : List D) (ρ : ENV) (h : xs.length ≤ sizeLine) : tupK xs ρ = .ok (.tup xs) ρ := by unfold tupK; rw [if_pos h]
theorem e_lstK (xs : List D) (ρ : ENV) (h : xs.length ≤ sizeLine) : lstK xs ρ = .ok (.lst xs) ρ := by unfold lstK; rw [if_pos h]
theorem e_lstF (xs : List D) (ρ : ENV) (h : xs.length ≤ sizeLine) : lstF xs ρ = .ok (.lst xs) ρ := by unfold lstF; rw [if_pos h]
/-- short written displays -/
theorem e_tup0 (ρ : ENV) : tupK [] ρ = .ok (.tup []) ρ := rfl
theorem e_lst0 (ρ : ENV) : lstK [] ρ = .ok (.lst []) ρ := rfl
theorem e_lstF0 (ρ : ENV) : lstF [] ρ = .ok (.lst []) ρ := rfl
def bK (f : List D → Option D) : List D → ENV → R D := fun xs ρ1 => R.of (f xs) ρ1
theorem e_B (f : List D → Option D) (dr : ENV → R (List D)) (ρ : ENV) : dB f dr ρ = (dr ρ).bind (bK f) := rfl
theorem e_bK (f : List D → Option D) (xs : List D) (ρ : ENV) : bK f xs ρ = R.of (f xs) ρ := rfl
/-- owned lists -/
def ixO (i : Nat) : D → ENV → R D := fun k ρ1 => match k, ρ1[i]? with
  | .int k, some (some (.ow (.lst ds))) => R.of (atI ds k) ρ1
  | _, _ => .bot
theorem e_ixO (i : Nat) (dk : ENV → R D) (ρ : ENV) (ds : List D) (h : ρ[i]? = some (some (.ow (.lst ds)))) : dIxO i dk ρ = (dk ρ).bind (ixO i) := by
  unfold dIxO; rw [h]; rfl
theorem e_ixO2 (i : Nat) (k : Int) (ρ : ENV) (ds : List D) (h : ρ[i]? = some (some (.ow (.lst ds)))) : ixO i (.int k) ρ = R.of (atI ds k) ρ := by
  unfold ixO; rw [h]
theorem e_lenO (i : Nat) (ρ : ENV) (ds : List D) (h : ρ[i]? = some (some (.ow (.lst ds)))) : dLenO i ρ = .ok (.int ds.length) ρ := by unfold dLenO; rw [h]
theorem at0 {α : Type} (x : α) (xs : List α) : L2.atI (x :: xs) 0 = some x := by
  unfold L2.atI ixN
  rw [if_pos (Int.le_refl 0), if_pos (by simp only [List.length_cons]; omega)]; rfl
theorem at1 {α : Type} (x y : α) (xs : List α) : L2.atI (x :: y :: xs) 1 = some y := by
  unfold L2.atI ixN
  rw [if_pos (by decide), if_pos (by simp only [List.length_cons]; omega)]; rfl
theorem at2 {α : Type} (x y z : α) (xs : List α) : L2.atI (x :: y :: z :: xs) 2 = some z := by
  unfold L2.atI ixN
  rw [if_pos (by decide), if_pos (by simp only [List.length_cons]; omega)]; rfl
theorem at3 {α : Type} (x y z u : α) (xs : List α) : L2.atI (x :: y :: z :: u :: xs) 3 = some u := by
  unfold L2.atI ixN
  rw [if_pos (by decide), if_pos (by simp only [List.length_cons]; omega)]; rfl
theorem atN {α : Type} {xs : List α} {i : Int} {x : α} (h0 : 0 ≤ i) (h : xs[i.toNat]? = some x) : L2.atI xs i = some x := by
  obtain ⟨hl, _⟩ := List.getElem?_eq_some_iff.mp h
  unfold L2.atI ixN
  rw [if_pos h0, if_pos (by omega)]
  exact h
theorem e_vEq (neg : Bool) (i j : Int) : vEq neg (.int i) (.int j) = some (.bl (if neg then !(i == j) else (i == j))) := by cases neg <;> rfl
theorem e_eqI (i j : Int) : CK.f .eq (.int i) (.int j) = some (.bl (i == j)) := rfl
theorem e_neI (i j : Int) : CK.f .ne (.int i) (.int j) = some (.bl (!(i == j))) := rfl
theorem e_ltI (i j : Int) : CK.f .lt (.int i) (.int j) = some (.bl (decide (i < j))) := rfl
theorem e_leI (i j : Int) : CK.f .le (.int i) (.int j) = some (.bl (decide (i ≤ j))) := rfl
theorem e_gtI (i j : Int) : CK.f .gt (.int i) (.int j) = some (.bl (decide (j < i))) := rfl
theorem e_geI (i j : Int) : CK.f .ge (.int i) (.int j) = some (.bl (decide (j ≤ i))) := rfl
theorem e_add (i j : Int) : vAdd (.int i) (.int j) = some (.int (i + j)) := rfl
theorem e_vI (f : Int → Int → Int) (i j : Int) : vI f (.int i) (.int j) = some (.int (f i j)) := rfl
theorem e_vIc (c : Int → Int → Bool) (f : Int → Int → Int) (i j : Int) (h : c i j = true) : vIc c f (.int i) (.int j) = some (.int (f i j)) := by
  show (if c i j = true then some (D.int (f i j)) else none) = _
  rw [if_pos h]
theorem e_neg (i : Int) : vNeg (.int i) = some (.int (-i)) := rfl
theorem e_fInt (i : Int) : fInt [.int i] = some (.int i) := rfl
theorem e_fIntB (b : Bool) : fInt [.bl b] = some (.int (if b then 1 else 0)) := rfl
theorem e_lenL (ds : List D) : fLen [.lst ds] = some (.int ds.length) := rfl
theorem e_lenT (ds : List D) : fLen [.tup ds] = some (.int ds.length) := rfl
theorem e_lenR (ds : List D) : fLen [.scr ds] = some (.int ds.length) := rfl
theorem e_lenS (z : Str) : fLen [.str z] = some (.int z.length) := rfl
theorem e_ixL (ds : List D) (i : Int) : vIxI (.lst ds) (.int i) = atI ds i := rfl
theorem e_ixT (ds : List D) (i : Int) : vIxI (.tup ds) (.int i) = atI ds i := rfl
theorem e_tupL (ds : List D) : fTuple [.lst ds] = some (.tup ds) := rfl
theorem e_tupT (ds : List D) : fTuple [.tup ds] = some (.tup ds) := rfl
theorem e_lstT (ds : List D) : fList [.tup ds] = some (.lst ds) := rfl
/-! ### statements -/
def sqK (b : ENV → R Fl) : Fl → ENV → R Fl
  | .nx, ρ => b ρ
  | f, ρ => .ok f ρ
theorem e_Seq (a b : ENV → R Fl) (ρ : ENV) : sSeq a b ρ = (a ρ).bind (sqK b) := by
  unfold sSeq
  cases a ρ with
  | ok f ρ => cases f <;> rfl
  | exc e ρ => rfl
  | bot => rfl
theorem e_sqN (b : ENV → R Fl) (ρ : ENV) : sqK b .nx ρ = b ρ := rfl
theorem e_sqR (b : ENV → R Fl) (v : DV) (ρ : ENV) : sqK b (.ret v) ρ = .ok (.ret v) ρ := rfl
theorem e_sqB (b : ENV → R Fl) (ρ : ENV) : sqK b .bk ρ = .ok .bk ρ := rfl
theorem e_sqC (b : ENV → R Fl) (ρ : ENV) : sqK b .ct ρ = .ok .ct ρ := rfl
theorem e_sNil (ρ : ENV) : sNil ρ = .ok .nx ρ := rfl
def sifK (a b : ENV → R Fl) : Bool → ENV → R Fl := fun x ρ1 => if x = true then a ρ1 else b ρ1
theorem e_sIf (c : ENV → R Bool) (a b : ENV → R Fl) (ρ : ENV) : sIf c a b ρ = (c ρ).bind (sifK a b) := rfl
theorem e_sifT (a b : ENV → R Fl) (ρ : ENV) : sifK a b true ρ = a ρ := rfl
theorem e_sifF (a b : ENV → R Fl) (ρ : ENV) : sifK a b false ρ = b ρ := rfl
def retK : D → ENV → R Fl := fun d ρ1 => .ok (.ret (.sh d)) ρ1
def retFK : M → ENV → R Fl := fun d ρ1 => .ok (.ret (.ow d)) ρ1
theorem e_Ret (da : ENV → R D) (ρ : ENV) : sRet da ρ = (da ρ).bind retK := rfl
theorem e_retK (d : D) (ρ : ENV) : retK d ρ = .ok (.ret (.sh d)) ρ := rfl
theorem e_RetF (da : ENV → R M) (ρ : ENV) : sRetF da ρ = (da ρ).bind retFK := rfl
theorem e_retFK (d : M) (ρ : ENV) : retFK d ρ = .ok (.ret (.ow d)) ρ := rfl
def exprK : D → ENV → R Fl := fun _ ρ1 => .ok .nx ρ1
theorem e_Expr (da : ENV → R D) (ρ : ENV) : sExpr da ρ = (da ρ).bind exprK := rfl
theorem e_exprK (d : D) (ρ : ENV) : exprK d ρ = .ok .nx ρ := rfl
def stK (o : Option ENV) : R Fl := match o with
  | some ρ => .ok .nx ρ
  | none => .bot
def asgK (g : D → ENV → Option ENV) : D → ENV → R Fl := fun d ρ1 => stK (g d ρ1)
theorem e_Asg (da : ENV → R D) (g : D → ENV → Option ENV) (ρ : ENV) : sAsg da g ρ = (da ρ).bind (asgK g) := by
  unfold sAsg
  cases da ρ with
  | ok d ρ => show (match g d ρ with | some ρ2 => R.ok Fl.nx ρ2 | none => .bot) = stK (g d ρ); unfold stK; cases g d ρ <;> rfl
  | exc e ρ => rfl
  | bot => rfl
theorem e_asgK (g : D → ENV → Option ENV) (d : D) (ρ : ENV) : asgK g d ρ = stK (g d ρ) := rfl
theorem e_stK (ρ : ENV) : stK (some ρ) = .ok .nx ρ := rfl
theorem e_gSet (i : Nat) (d : D) (ρ : ENV) (h : i < ρ.length) : gSet i d ρ = some (ρ.set i (some (.sh d))) := by unfold gSet; rw [if_pos h]
def ownK (i : Nat) : M → ENV → R Fl := fun m ρ1 => if i < ρ1.length then .ok .nx (ρ1.set i (some (.ow m))) else .bot
theorem e_Own (fa : ENV → R M) (i : Nat) (ρ : ENV) : sOwn fa i ρ = (fa ρ).bind (ownK i) := rfl
theorem e_ownK (i : Nat) (m : M) (ρ : ENV) (h : i < ρ.length) : ownK i m ρ = .ok .nx (ρ.set i (some (.ow m))) := by unfold ownK; rw [if_pos h]
/-- xs[k] = e -/
def subK (i : Nat) (di : ENV → R D) : D → ENV → R Fl := fun d ρ1 => match ρ1[i]? with
  | some (some (.ow (.lst _))) => (di ρ1).bind fun k ρ2 => match k, ρ2[i]? with
    | .int k, some (some (.ow (.lst ds))) => match ixN ds.length k with
      | some j => .ok .nx (ρ2.set i (some (.ow (.lst (ds.set j d)))))
      | none => .bot
    | _, _ => .bot
  | _ => .bot
theorem e_Sub (i : Nat) (da di : ENV → R D) (ρ : ENV) : sSub i da di ρ = (da ρ).bind (subK i di) := rfl
/-- .. at a written place -/
theorem e_subK (i : Nat) (k : Int) (d : D) (ρ : ENV) (ds : List D) (h : ρ[i]? = some (some (.ow (.lst ds)))) (hk : 0 ≤ k) (hl : k < ds.length) : subK i (dC (.int k)) d ρ = .ok .nx (ρ.set i (some (.ow (.lst (ds.set k.toNat d))))) := by
  unfold subK
  rw [h]
  dsimp only [dC, R.bind]
  rw [h]
  dsimp only [ixN]
  rw [if_pos hk, if_pos hl]
def appK (i : Nat) : D → ENV → R Fl := fun d ρ1 => match ρ1[i]? with
  | some (some (.ow (.lst ds))) => if ds.length < sizeLine then .ok .nx (ρ1.set i (some (.ow (.lst (ds ++ [d]))))) else .bot
  | _ => .bot
theorem e_App (i : Nat) (da : ENV → R D) (ρ : ENV) (ds : List D) (h : ρ[i]? = some (some (.ow (.lst ds)))) : sApp i da ρ = (da ρ).bind (appK i) := by
  unfold sApp; rw [h]; rfl
theorem e_appK (i : Nat) (d : D) (ρ : ENV) (ds : List D) (h : ρ[i]? = some (some (.ow (.lst ds)))) (hl : ds.length < sizeLine) : appK i d ρ = .ok .nx (ρ.set i (some (.ow (.lst (ds ++ [d]))))) := by
  unfold appK; rw [h]; dsimp only; rw [if_pos hl]
def forK (g : D → ENV → Option ENV) (body : ENV → R Fl) : List D → ENV → R Fl := fun ds ρ1 => forL g body ds ρ1
theorem e_For (di : ENV → R (List D)) (g : D → ENV → Option ENV) (body : ENV → R Fl) (ρ : ENV) : sFor di g body ρ = (di ρ).bind (forK g body) := rfl
def itK : D → ENV → R (List D) := fun x ρ1 => R.of (items x) ρ1
theorem e_Items (da : ENV → R D) (ρ : ENV) : dItems da ρ = (da ρ).bind itK := rfl
theorem e_itL (ds : List D) (ρ : ENV) : itK (.lst ds) ρ = .ok ds ρ := rfl
theorem e_itT (ds : List D) (ρ : ENV) : itK (.tup ds) ρ = .ok ds ρ := rfl
theorem e_itR (ds : List D) (ρ : ENV) : itK (.scr ds) ρ = .ok ds ρ := rfl
/-! ### calls -/
theorem e_Call (F : List DV → FO) (dr : ENV → R (List Ag)) (ρ : ENV) : dCall F dr ρ = ((dr ρ).bind (stepR F)).bind onSh := rfl
theorem e_CallF (F : List DV → FO) (dr : ENV → R (List Ag)) (ρ : ENV) : fCall F dr ρ = ((dr ρ).bind (stepR F)).bind onOw := rfl
theorem e_aNil (ρ : ENV) : aNil ρ = .ok [] ρ := rfl
def aVK (dr : ENV → R (List Ag)) : D → ENV → R (List Ag) := fun x ρ1 => (dr ρ1).bind fun xs ρ2 => .ok (.inl x :: xs) ρ2
def aVK2 (x : Ag) : List Ag → ENV → R (List Ag) := fun xs ρ2 => .ok (x :: xs) ρ2
theorem e_aVal (da : ENV → R D) (dr : ENV → R (List Ag)) (ρ : ENV) : aVal da dr ρ = (da ρ).bind (aVK dr) := rfl
theorem e_aVK (dr : ENV → R (List Ag)) (x : D) (ρ : ENV) : aVK dr x ρ = (dr ρ).bind (aVK2 (.inl x)) := rfl
theorem e_aVK2 (x : Ag) (xs : List Ag) (ρ : ENV) : aVK2 x xs ρ = .ok (x :: xs) ρ := rfl
theorem e_aIo (i : Nat) (dr : ENV → R (List Ag)) (ρ : ENV) (m : M) (h : ρ[i]? = some (some (.ow m))) : aIo i dr ρ = (dr ρ).bind (aVK2 (.inr i)) := by unfold aIo; rw [h]; rfl
def outK (as : List Ag) (ρ : ENV) : FO → R DV
  | .ok v ms => match putB as ms ρ with | some ρ2 => .ok v ρ2 | none => .bot
  | .exc e ms => match putB as ms ρ with | some ρ2 => .exc e ρ2 | none => .bot
  | .bot => .bot
/-- values alone -/
def vals : List Ag → Option (List DV)
  | [] => some []
  | .inl d :: r => (vals r).map (.sh d :: ·)
  | .inr _ :: _ => none
theorem step0 (F : List DV → FO) (ρ : ENV) : stepR F [] ρ = outK [] ρ (F []) := by show (match F [] with | .ok v ms => _ | .exc e ms => _ | .bot => _) = _; cases F [] <;> rfl
theorem step1 (F : List DV → FO) (a : D) (ρ : ENV) : stepR F [.inl a] ρ = outK [.inl a] ρ (F [.sh a]) := by show (match F [.sh a] with | .ok v ms => _ | .exc e ms => _ | .bot => _) = _; cases F [.sh a] <;> rfl
theorem step2 (F : List DV → FO) (a b : D) (ρ : ENV) : stepR F [.inl a, .inl b] ρ = outK [.inl a, .inl b] ρ (F [.sh a, .sh b]) := by show (match F [.sh a, .sh b] with | .ok v ms => _ | .exc e ms => _ | .bot => _) = _; cases F [.sh a, .sh b] <;> rfl
theorem step3 (F : List DV → FO) (a b c : D) (ρ : ENV) : stepR F [.inl a, .inl b, .inl c] ρ = outK [.inl a, .inl b, .inl c] ρ (F [.sh a, .sh b, .sh c]) := by show (match F [.sh a, .sh b, .sh c] with | .ok v ms => _ | .exc e ms => _ | .bot => _) = _; cases F [.sh a, .sh b, .sh c] <;> rfl
theorem stepO1 (F : List DV → FO) (i : Nat) (ρ : ENV) (m : M) (h : ρ[i]? = some (some (.ow m))) : stepR F [.inr i] ρ = outK [.inr i] ρ (F [.ow m]) := by
  unfold stepR
  have e : (if nodupB (slots [Sum.inr i]) = true then reso ρ [Sum.inr i] else none) = some [.ow m] := by
    have : nodupB (slots [(Sum.inr i : Ag)]) = true := by simp [slots, nodupB]
    rw [if_pos this]; unfold reso; rw [h]; rfl
  rw [e]
  show (match F [.ow m] with | .ok v ms => (match putB [.inr i] ms ρ with | some ρ2 => R.ok v ρ2 | none => .bot) | .exc e ms => (match putB [.inr i] ms ρ with | some ρ2 => .exc e ρ2 | none => .bot) | .bot => .bot) = outK [.inr i] ρ (F [.ow m])
  cases F [.ow m] <;> rfl
theorem stepO2 (F : List DV → FO) (i : Nat) (a : D) (ρ : ENV) (m : M) (h : ρ[i]? = some (some (.ow m))) : stepR F [.inr i, .inl a] ρ = outK [.inr i, .inl a] ρ (F [.ow m, .sh a]) := by
  unfold stepR
  have e : (if nodupB (slots [Sum.inr i, Sum.inl a]) = true then reso ρ [Sum.inr i, Sum.inl a] else none) = some [.ow m, .sh a] := by
    have : nodupB (slots [(Sum.inr i : Ag), Sum.inl a]) = true := by simp [slots, nodupB]
    rw [if_pos this]; unfold reso; rw [h]; rfl
  rw [e]
  show (match F [.ow m, .sh a] with | .ok v ms => (match putB [.inr i, .inl a] ms ρ with | some ρ2 => R.ok v ρ2 | none => .bot) | .exc e ms => (match putB [.inr i, .inl a] ms ρ with | some ρ2 => .exc e ρ2 | none => .bot) | .bot => .bot) = outK [.inr i, .inl a] ρ (F [.ow m, .sh a])
  cases F [.ow m, .sh a] <;> rfl
theorem stepO3 (F : List DV → FO) (i : Nat) (a b : D) (ρ : ENV) (m : M) (h : ρ[i]? = some (some (.ow m))) : stepR F [.inr i, .inl a, .inl b] ρ = outK [.inr i, .inl a, .inl b] ρ (F [.ow m, .sh a, .sh b]) := by
  unfold stepR
  have e : (if nodupB (slots [Sum.inr i, Sum.inl a, Sum.inl b]) = true then reso ρ [Sum.inr i, Sum.inl a, Sum.inl b] else none) = some [.ow m, .sh a, .sh b] := by
    have : nodupB (slots [(Sum.inr i : Ag), Sum.inl a, Sum.inl b]) = true := by simp [slots, nodupB]
    rw [if_pos this]; unfold reso; rw [h]; rfl
  rw [e]
  show (match F [.ow m, .sh a, .sh b] with | .ok v ms => (match putB [.inr i, .inl a, .inl b] ms ρ with | some ρ2 => R.ok v ρ2 | none => .bot) | .exc e ms => (match putB [.inr i, .inl a, .inl b] ms ρ with | some ρ2 => .exc e ρ2 | none => .bot) | .bot => .bot) = outK [.inr i, .inl a, .inl b] ρ (F [.ow m, .sh a, .sh b])
  cases F [.ow m, .sh a, .sh b] <;> rfl
/-- out of a call without owned arguments -/
theorem out1 (a : D) (ρ : ENV) (v : DV) : outK [.inl a] ρ (.ok v []) = .ok v ρ := rfl
theorem out0 (ρ : ENV) (v : DV) : outK [] ρ (.ok v []) = .ok v ρ := rfl
theorem out2 (a b : D) (ρ : ENV) (v : DV) : outK [.inl a, .inl b] ρ (.ok v []) = .ok v ρ := rfl
theorem out3 (a b c : D) (ρ : ENV) (v : DV) : outK [.inl a, .inl b, .inl c] ρ (.ok v []) = .ok v ρ := rfl
theorem outX1 (a : D) (ρ : ENV) (v : EX) : outK [.inl a] ρ (.exc v []) = .exc v ρ := rfl
theorem outX2 (a b : D) (ρ : ENV) (v : EX) : outK [.inl a, .inl b] ρ (.exc v []) = .exc v ρ := rfl
theorem outO1 (i : Nat) (ρ : ENV) (v : DV) (m : M) : outK [.inr i] ρ (.ok v [m]) = .ok v (ρ.set i (some (.ow m))) := rfl
theorem outO2 (i : Nat) (a : D) (ρ : ENV) (v : DV) (m : M) : outK [.inr i, .inl a] ρ (.ok v [m]) = .ok v (ρ.set i (some (.ow m))) := rfl
theorem outO3 (i : Nat) (a b : D) (ρ : ENV) (v : DV) (m : M) : outK [.inr i, .inl a, .inl b] ρ (.ok v [m]) = .ok v (ρ.set i (some (.ow m))) := rfl
theorem e_onSh (d : D) (ρ : ENV) : onSh (.sh d) ρ = .ok d ρ := rfl
theorem e_onOw (d : M) (ρ : ENV) : onOw (.ow d) ρ = .ok d ρ := rfl
/-! ### defs -/
def finF (ds : List DV) : R Fl → FO
  | .ok (.ret v) ρ => match outsE 0 ds ρ with | some ms => .ok v ms | none => .bot
  | .ok .nx ρ => match outsE 0 ds ρ with | some ms => .ok (.sh .non) ms | none => .bot
  | .exc e ρ => match outsE 0 ds ρ with | some ms => .exc e ms | none => .bot
  | _ => .bot
theorem e_run (pr : List Nat) (n : Nat) (den : ENV → R Fl) (ds : List DV) (h : owPos 0 ds = pr) : runF pr n den ds = finF ds (den (startE n ds)) := by
  unfold runF
  rw [if_pos h]
  cases den (startE n ds) with
  | ok f ρ => cases f <;> rfl
  | exc e ρ => rfl
  | bot => rfl
end
end Rf
set_option Elab.async false
set_option linter.all false
set_option maxRecDepth 100000
/-! RfT: more rules: comprehensions, data compared, loops -/
namespace Rf
open PySem PySem.Spec L2
/-! ### comprehensions whose parts leave the slots alone -/
theorem e_frzL (di : ENV → R (List D)) (g : D → ENV → Option ENV) (tt : ENV → R Bool) (te : ENV → R D) (vs : List Nat) (ρ : ENV) (ds : List D) (ρ' : ENV) (h : fLc di g tt te vs ρ = .ok (.lst ds) ρ') : frz (fLc di g tt te vs ρ) = .ok (.lst ds) ρ' := by
  rw [h]; rfl
theorem set2 (ρ : ENV) (i : Nat) (x y : Option DV) : (ρ.set i x).set i y = ρ.set i y := List.set_set ..
theorem set_back (ρ : ENV) (i : Nat) (x : Option DV) (h : ρ[i]? = some none) : back ρ [i] (ρ.set i x) = ρ := by
  unfold back
  rw [h]
  dsimp only [back]
  rw [set2]
  refine List.ext_getElem? fun j => ?_
  by_cases e : i = j
  · subst e
    rw [List.getElem?_set_self (List.getElem?_eq_some_iff.mp h).1, h]
  · rw [List.getElem?_set_ne e]
theorem noOwn1 (ρ : ENV) (i : Nat) (h : ρ[i]? = some none) : noOwn ρ [i] = true := by
  unfold noOwn
  simp only [List.all_cons, List.all_nil, h, Bool.and_true]
theorem comp_map {ρ : ENV} {i : Nat} {te : ENV → R D} {f : D → D} (hi : i < ρ.length) : ∀ (ds acc : List D) (x : Option DV), (∀ d ∈ ds, te (ρ.set i (some (.sh d))) = .ok (f d) (ρ.set i (some (.sh d)))) → acc.length + ds.length ≤ sizeLine →
    ∃ y, compL (gSet i) dYes te [i] ds acc (ρ.set i x) = .ok (acc ++ ds.map f) (ρ.set i y)
  | [], acc, x, _, _ => ⟨x, by unfold compL; simp⟩
  | d :: ds, acc, x, h, hz => by
    obtain ⟨y, hy⟩ := comp_map hi ds (acc ++ [f d]) (some (.sh d)) (fun e he => h e (List.mem_cons_of_mem _ he)) (by simp only [List.length_append, List.length_cons, List.length_nil] at hz ⊢; omega)
    refine ⟨y, ?_⟩
    unfold compL
    have e1 : wipeE (ρ.set i x) [i] = ρ.set i none := by unfold wipeE; exact set2 ..
    have e2 : gSet i d (ρ.set i none) = some (ρ.set i (some (.sh d))) := by unfold gSet; rw [if_pos (by rw [List.length_set]; exact hi), set2]
    have e3 : acc.length < sizeLine := by simp only [List.length_cons] at hz; omega
    rw [e1, e2]
    simp only [dYes, h d List.mem_cons_self, if_pos e3, hy]
    simp
/-- [te for x in ds] -/
theorem lc_map {ρ : ENV} {i : Nat} {te : ENV → R D} {di : ENV → R (List D)} {ds : List D} (f : D → D) (hd : di ρ = .ok ds ρ) (hi : ρ[i]? = some none) (h : ∀ d ∈ ds, te (ρ.set i (some (.sh d))) = .ok (f d) (ρ.set i (some (.sh d)))) (hz : ds.length ≤ sizeLine) :
    fLc di (gSet i) dYes te [i] ρ = .ok (.lst (ds.map f)) ρ := by
  have e0 : ρ = ρ.set i none := by
    refine List.ext_getElem? fun j => ?_
    by_cases e : i = j
    · subst e; rw [List.getElem?_set_self (List.getElem?_eq_some_iff.mp hi).1, hi]
    · rw [List.getElem?_set_ne e]
  obtain ⟨y, hy⟩ := comp_map (List.getElem?_eq_some_iff.mp hi).1 ds [] none h (by simpa using hz)
  unfold fLc
  rw [hd]
  dsimp only [R.bind]
  rw [noOwn1 ρ i hi]
  rw [← e0] at hy
  rw [hy]
  dsimp only
  rw [set_back ρ i y hi]
  simp
theorem comp_filt {ρ : ENV} {i : Nat} {tt : ENV → R Bool} {te : ENV → R D} {p : D → Bool} {f : D → D} (hi : i < ρ.length) : ∀ (ds acc : List D) (x : Option DV), (∀ d ∈ ds, tt (ρ.set i (some (.sh d))) = .ok (p d) (ρ.set i (some (.sh d)))) → (∀ d ∈ ds, p d = true → te (ρ.set i (some (.sh d))) = .ok (f d) (ρ.set i (some (.sh d)))) → acc.length + ds.length ≤ sizeLine →
    ∃ y, compL (gSet i) tt te [i] ds acc (ρ.set i x) = .ok (acc ++ (ds.filter p).map f) (ρ.set i y)
  | [], acc, x, _, _, _ => ⟨x, by unfold compL; simp⟩
  | d :: ds, acc, x, h, h2, hz => by
    have e1 : wipeE (ρ.set i x) [i] = ρ.set i none := by unfold wipeE; exact set2 ..
    have e2 : gSet i d (ρ.set i none) = some (ρ.set i (some (.sh d))) := by unfold gSet; rw [if_pos (by rw [List.length_set]; exact hi), set2]
    have e3 : acc.length < sizeLine := by simp only [List.length_cons] at hz; omega
    cases hp : p d with
    | true =>
      obtain ⟨y, hy⟩ := comp_filt hi ds (acc ++ [f d]) (some (.sh d)) (fun e he => h e (List.mem_cons_of_mem _ he)) (fun e he => h2 e (List.mem_cons_of_mem _ he)) (by simp only [List.length_append, List.length_cons, List.length_nil] at hz ⊢; omega)
      refine ⟨y, ?_⟩
      unfold compL
      rw [e1, e2]
      simp only [h d List.mem_cons_self, hp, h2 d List.mem_cons_self hp, if_pos e3, hy]
      simp [hp]
    | false =>
      obtain ⟨y, hy⟩ := comp_filt hi ds acc (some (.sh d)) (fun e he => h e (List.mem_cons_of_mem _ he)) (fun e he => h2 e (List.mem_cons_of_mem _ he)) (by simp only [List.length_cons] at hz ⊢; omega)
      refine ⟨y, ?_⟩
      unfold compL
      rw [e1, e2]
      simp only [h d List.mem_cons_self, hp, hy]
      simp [hp]
/-- [te for x in ds if tt] -/
theorem lc_filt {ρ : ENV} {i : Nat} {tt : ENV → R Bool} {te : ENV → R D} {di : ENV → R (List D)} {ds : List D} (p : D → Bool) (f : D → D) (hd : di ρ = .ok ds ρ) (hi : ρ[i]? = some none) (h : ∀ d ∈ ds, tt (ρ.set i (some (.sh d))) = .ok (p d) (ρ.set i (some (.sh d))))
    (h2 : ∀ d ∈ ds, p d = true → te (ρ.set i (some (.sh d))) = .ok (f d) (ρ.set i (some (.sh d)))) (hz : ds.length ≤ sizeLine) :
    fLc di (gSet i) tt te [i] ρ = .ok (.lst ((ds.filter p).map f)) ρ := by
  have e0 : ρ = ρ.set i none := by
    refine List.ext_getElem? fun j => ?_
    by_cases e : i = j
    · subst e; rw [List.getElem?_set_self (List.getElem?_eq_some_iff.mp hi).1, hi]
    · rw [List.getElem?_set_ne e]
  obtain ⟨y, hy⟩ := comp_filt (List.getElem?_eq_some_iff.mp hi).1 ds [] none h h2 (by simpa using hz)
  unfold fLc
  rw [hd]
  dsimp only [R.bind]
  rw [noOwn1 ρ i hi]
  rw [← e0] at hy
  rw [hy]
  dsimp only
  rw [set_back ρ i y hi]
  simp
/-- .. over ints -/
theorem lc_mapI {ρ : ENV} {i : Nat} {te : ENV → R D} {di : ENV → R (List D)} {ns : List Int} (f : Int → Int) (hd : di ρ = .ok (ns.map D.int) ρ) (hi : ρ[i]? = some none) (h : ∀ n ∈ ns, te (ρ.set i (some (.sh (.int n)))) = .ok (.int (f n)) (ρ.set i (some (.sh (.int n))))) (hz : ns.length ≤ sizeLine) :
    fLc di (gSet i) dYes te [i] ρ = .ok (.lst ((ns.map f).map D.int)) ρ := by
  have := lc_map (te := te) (fun d => match d with | .int n => .int (f n) | d => d) hd hi (fun d hd => by
    obtain ⟨n, hn, rfl⟩ := List.mem_map.mp hd
    exact h n hn) (by rw [List.length_map]; exact hz)
  rw [this, List.map_map, List.map_map]
  rfl
theorem filt_ints (p : D → Bool) : ∀ ns : List Int, (ns.map D.int).filter p = (ns.filter fun n => p (.int n)).map D.int
  | [] => rfl
  | n :: ns => by
    rw [List.map_cons, List.filter_cons, List.filter_cons, filt_ints p ns]
    cases p (.int n) <;> rfl
theorem lc_filtI {ρ : ENV} {i : Nat} {tt : ENV → R Bool} {te : ENV → R D} {di : ENV → R (List D)} {ns : List Int} (p : Int → Bool) (f : Int → Int) (hd : di ρ = .ok (ns.map D.int) ρ) (hi : ρ[i]? = some none) (h : ∀ n ∈ ns, tt (ρ.set i (some (.sh (.int n)))) = .ok (p n) (ρ.set i (some (.sh (.int n)))))
    (h2 : ∀ n ∈ ns, p n = true → te (ρ.set i (some (.sh (.int n)))) = .ok (.int (f n)) (ρ.set i (some (.sh (.int n))))) (hz : ns.length ≤ sizeLine) :
    fLc di (gSet i) tt te [i] ρ = .ok (.lst (((ns.filter p).map f).map D.int)) ρ := by
  have := lc_filt (tt := tt) (te := te) (fun d => match d with | .int n => p n | _ => false) (fun d => match d with | .int n => .int (f n) | d => d) hd hi (fun d hd => by
    obtain ⟨n, hn, rfl⟩ := List.mem_map.mp hd
    exact h n hn) (fun d hd hp => by
    obtain ⟨n, hn, rfl⟩ := List.mem_map.mp hd
    exact h2 n hn hp) (by rw [List.length_map]; exact hz)
  rw [this, filt_ints, List.map_map, List.map_map]
  rfl
/-! ### ints compared -/
theorem toPyL_map (f : Int → D) (g : Int → PyData) (h : ∀ i, (f i).toPy = g i) : ∀ l : List Int, toPyL (l.map f) = l.map g
  | [] => rfl
  | a :: l => by show (f a).toPy :: toPyL (l.map f) = _; rw [h, toPyL_map f g h l]; rfl
theorem lay_ints : ∀ l : List Int, PyData.canLayAll0 (l.map PyData.int) = true
  | [] => by simp [PyData.canLayAll0]
  | a :: l => by simp [PyData.canLayAll0, PyData.canLay0, lay_ints l]
theorem depth_ints : ∀ l : List Int, PyData.depthAll (l.map PyData.int) ≤ 1
  | [] => by simp [PyData.depthAll]
  | a :: l => by
    have := depth_ints l
    simp only [List.map_cons, PyData.depthAll, PyData.depth]
    omega
theorem eqv_ints : ∀ a b : List Int, PyData.eqvAll (a.map PyData.int) (b.map PyData.int) = decide (a = b)
  | [], [] => by simp [PyData.eqvAll]
  | [], b :: bs => by simp [PyData.eqvAll]
  | a :: as, [] => by simp [PyData.eqvAll]
  | a :: as, b :: bs => by
    simp only [List.map_cons, PyData.eqvAll, PyData.eqv, eqv_ints as bs]
    by_cases h1 : a = b <;> by_cases h2 : as = bs <;> simp [h1, h2]
theorem shaped_tup (l : List Int) : SeqAt.shaped (D.tup (l.map D.int)).toPy = true := by
  show ((PyData.tuple (toPyL (l.map D.int))).canLay0 && decide ((PyData.tuple (toPyL (l.map D.int))).depth ≤ 64)) = true
  rw [toPyL_map D.int PyData.int (fun _ => rfl)]
  refine Bool.and_eq_true_iff.mpr ⟨by rw [PyData.canLay0]; exact lay_ints l, decide_eq_true ?_⟩
  have := depth_ints l
  rw [PyData.depth]
  omega
theorem shaped_lst (l : List Int) : SeqAt.shaped (D.lst (l.map D.int)).toPy = true := by
  show ((PyData.list (toPyL (l.map D.int))).canLay0 && decide ((PyData.list (toPyL (l.map D.int))).depth ≤ 64)) = true
  rw [toPyL_map D.int PyData.int (fun _ => rfl)]
  refine Bool.and_eq_true_iff.mpr ⟨by rw [PyData.canLay0]; exact lay_ints l, decide_eq_true ?_⟩
  have := depth_ints l
  rw [PyData.depth]
  omega
theorem vEq_tup (neg : Bool) (a b : List Int) : vEq neg (.tup (a.map D.int)) (.tup (b.map D.int)) = some (.bl (if neg then !decide (a = b) else decide (a = b))) := by
  unfold vEq
  rw [if_pos ⟨shaped_tup a, shaped_tup b⟩]
  have : PyData.eqv (D.tup (a.map D.int)).toPy (D.tup (b.map D.int)).toPy = decide (a = b) := by
    show PyData.eqv (.tuple (toPyL (a.map D.int))) (.tuple (toPyL (b.map D.int))) = _
    rw [toPyL_map D.int PyData.int (fun _ => rfl), toPyL_map D.int PyData.int (fun _ => rfl), PyData.eqv, eqv_ints]
  rw [this]
theorem e_eqT (a b : List Int) : CK.f .eq (.tup (a.map D.int)) (.tup (b.map D.int)) = some (.bl (decide (a = b))) := vEq_tup false a b
theorem e_neT (a b : List Int) : CK.f .ne (.tup (a.map D.int)) (.tup (b.map D.int)) = some (.bl (!decide (a = b))) := vEq_tup true a b
theorem intsOf_map : ∀ l : List Int, intsOf (l.map D.int) = some l
  | [] => rfl
  | a :: l => by show (intsOf (l.map D.int)).map (a :: ·) = _; rw [intsOf_map l]; rfl
theorem e_minT (a : Int) (l : List Int) : fMin [.tup ((a :: l).map D.int)] = some (.int (minI a l)) := by show (intsOf ((a :: l).map D.int)).bind minOf = _; rw [intsOf_map]; rfl
theorem e_maxT (a : Int) (l : List Int) : fMax [.tup ((a :: l).map D.int)] = some (.int (maxI a l)) := by show (intsOf ((a :: l).map D.int)).bind maxOf = _; rw [intsOf_map]; rfl
theorem minI_eq {a x : Int} {l : List Int} (h1 : x ∈ a :: l) (h2 : ∀ y ∈ a :: l, x ≤ y) : minI a l = x := by
  obtain ⟨m1, m2⟩ := minI_mem l a
  have := m2 x h1
  have := h2 _ m1
  omega
theorem maxI_eq {a x : Int} {l : List Int} (h1 : x ∈ a :: l) (h2 : ∀ y ∈ a :: l, y ≤ x) : maxI a l = x := by
  obtain ⟨m1, m2⟩ := maxI_mem l a
  have := m2 x h1
  have := h2 _ m1
  omega
theorem bools_map (f : Int → Bool) : ∀ l : List Int, bools (l.map fun i => D.bl (f i)) = some (l.map f)
  | [] => rfl
  | a :: l => by show (bools (l.map fun i => D.bl (f i))).map (f a :: ·) = _; rw [bools_map f l]; rfl
theorem rng7 : rng 0 7 = [.int 0, .int 1, .int 2, .int 3, .int 4, .int 5, .int 6] := by kernel_rfl
def rng1K : D → ENV → R (List D) := fun x ρ1 => match x with
  | .int j => if rngOk j = true then .ok (rng 0 j) ρ1 else .bot
  | _ => .bot
theorem e_Rng1 (da : ENV → R D) (ρ : ENV) : dRng1 da ρ = (da ρ).bind rng1K := rfl
theorem e_rng1K (j : Int) (ρ : ENV) (h : rngOk j = true) : rng1K (.int j) ρ = .ok (rng 0 j) ρ := by
  show (if rngOk j = true then R.ok (rng 0 j) ρ else .bot) = _
  rw [if_pos h]
theorem rngOk7 : rngOk 7 = true := by decide
theorem d_rng7 (ρ : ENV) : dRng1 (dC (.int 7)) ρ = .ok [.int 0, .int 1, .int 2, .int 3, .int 4, .int 5, .int 6] ρ := by
  show (if rngOk 7 = true then R.ok (rng 0 7) ρ else .bot) = _
  rw [if_pos rngOk7, rng7]
/-! ### loops, turn by turn -/
def turnK (k : ENV → R Fl) : Fl → ENV → R Fl
  | .nx, ρ => k ρ
  | .ct, ρ => k ρ
  | .bk, ρ => .ok .nx ρ
  | .ret v, ρ => .ok (.ret v) ρ
theorem forL_nil (g : D → ENV → Option ENV) (body : ENV → R Fl) (ρ : ENV) : forL g body [] ρ = .ok .nx ρ := rfl
theorem forL_cons (g : D → ENV → Option ENV) (body : ENV → R Fl) (d : D) (ds : List D) (ρ ρ1 : ENV) (h : g d ρ = some ρ1) : forL g body (d :: ds) ρ = (body ρ1).bind (turnK (forL g body ds)) := by
  unfold forL
  rw [h]
  dsimp only
  cases body ρ1 with
  | ok f ρ => cases f <;> rfl
  | exc e ρ => rfl
  | bot => rfl
theorem e_forK (g : D → ENV → Option ENV) (body : ENV → R Fl) (ds : List D) (ρ : ENV) : forK g body ds ρ = forL g body ds ρ := rfl
theorem forL_set (i : Nat) (body : ENV → R Fl) (d : D) (ds : List D) (ρ : ENV) (h : i < ρ.length) : forL (gSet i) body (d :: ds) ρ = (body (ρ.set i (some (.sh d)))).bind (turnK (forL (gSet i) body ds)) :=
  forL_cons _ _ _ _ _ _ (e_gSet i d ρ h)
theorem e_tnN (k : ENV → R Fl) (ρ : ENV) : turnK k .nx ρ = k ρ := rfl
theorem e_tnC (k : ENV → R Fl) (ρ : ENV) : turnK k .ct ρ = k ρ := rfl
theorem e_tnB (k : ENV → R Fl) (ρ : ENV) : turnK k .bk ρ = .ok .nx ρ := rfl
theorem e_tnR (k : ENV → R Fl) (v : DV) (ρ : ENV) : turnK k (.ret v) ρ = .ok (.ret v) ρ := rfl
theorem e_frz (m : M) (ρ : ENV) : frz (.ok m ρ) = .ok m.toD ρ := rfl
/-! ### while -/
def whK (c : ENV → R Bool) (body : ENV → R Fl) (n : Nat) : Bool → ENV → R Fl := fun b ρ1 => if b = true then (body ρ1).bind (turnK (whileF c body n)) else .ok .nx ρ1
theorem whileF_succ (c : ENV → R Bool) (body : ENV → R Fl) (n : Nat) (ρ : ENV) : whileF c body (n + 1) ρ = (c ρ).bind (whK c body n) := by
  show (c ρ).bind _ = _
  refine congrArg (fun f => (c ρ).bind f) ?_
  funext b ρ1
  unfold whK
  cases b with
  | false => rfl
  | true =>
    simp only [if_true]
    cases body ρ1 with
    | ok f ρ => cases f <;> rfl
    | exc e ρ => rfl
    | bot => rfl
theorem e_whT (c : ENV → R Bool) (body : ENV → R Fl) (n : Nat) (ρ : ENV) : whK c body n true ρ = (body ρ).bind (turnK (whileF c body n)) := rfl
theorem e_whF (c : ENV → R Bool) (body : ENV → R Fl) (n : Nat) (ρ : ENV) : whK c body n false ρ = .ok .nx ρ := rfl
end Rf
set_option Elab.async false
set_option linter.all false
set_option maxRecDepth 100000
/-! RfU: more rules; tuples of ints kept folded -/
namespace Rf
open PySem PySem.Spec L2
theorem e_Raise (e : EX) (ρ : ENV) : sRaise e ρ = .exc e ρ := rfl
def parK (i j : Nat) (db : ENV → R D) : D → ENV → R Fl := fun x ρ1 => (db ρ1).bind fun y ρ2 => if i < ρ2.length ∧ j < ρ2.length then .ok .nx ((ρ2.set i (some (.sh x))).set j (some (.sh y))) else .bot
def parK2 (i j : Nat) (x : D) : D → ENV → R Fl := fun y ρ2 => if i < ρ2.length ∧ j < ρ2.length then .ok .nx ((ρ2.set i (some (.sh x))).set j (some (.sh y))) else .bot
theorem e_Par (i j : Nat) (da db : ENV → R D) (ρ : ENV) : sPar i j da db ρ = (da ρ).bind (parK i j db) := rfl
theorem e_parK (i j : Nat) (db : ENV → R D) (x : D) (ρ : ENV) : parK i j db x ρ = (db ρ).bind (parK2 i j x) := rfl
theorem e_parK2 (i j : Nat) (x y : D) (ρ : ENV) (hi : i < ρ.length) (hj : j < ρ.length) : parK2 i j x y ρ = .ok .nx ((ρ.set i (some (.sh x))).set j (some (.sh y))) := by unfold parK2; rw [if_pos ⟨hi, hj⟩]
def augK (i : Nat) (f : Int → Int → Int) (a : Int) : D → ENV → R Fl := fun d ρ1 => match d with
    | .int b => if i < ρ1.length then .ok .nx (ρ1.set i (some (.sh (.int (f a b))))) else .bot
    | _ => .bot
theorem e_Aug (i : Nat) (f : Int → Int → Int) (da : ENV → R D) (ρ : ENV) (a : Int) (h : ρ[i]? = some (some (.sh (.int a)))) : sAug i f da ρ = (da ρ).bind (augK i f a) := by unfold sAug; rw [h]; rfl
theorem e_augK (i : Nat) (f : Int → Int → Int) (a b : Int) (ρ : ENV) (hi : i < ρ.length) : augK i f a (.int b) ρ = .ok .nx (ρ.set i (some (.sh (.int (f a b))))) := by unfold augK; exact if_pos hi
def chK1 (f g : D → D → Option D) (db dc : ENV → R D) : D → ENV → R D := fun x ρ1 => (db ρ1).bind fun y ρ2 => match f x y with
  | some (.bl true) => (dc ρ2).bind fun z ρ3 => R.of (g y z) ρ3
  | some (.bl false) => .ok (.bl false) ρ2
  | _ => .bot
def chK3 (g : D → D → Option D) (dc : ENV → R D) (y : D) : Option D → ENV → R D := fun o ρ2 => match o with
  | some (.bl true) => (dc ρ2).bind (op1 (g y))
  | some (.bl false) => .ok (.bl false) ρ2
  | _ => .bot
def chK2 (f g : D → D → Option D) (dc : ENV → R D) (x : D) : D → ENV → R D := fun y ρ2 => chK3 g dc y (f x y) ρ2
theorem e_Ch (f g : D → D → Option D) (da db dc : ENV → R D) (ρ : ENV) : dChain f g da db dc ρ = (da ρ).bind (chK1 f g db dc) := rfl
theorem e_chK1 (f g : D → D → Option D) (db dc : ENV → R D) (x : D) (ρ : ENV) : chK1 f g db dc x ρ = (db ρ).bind (chK2 f g dc x) := by
  unfold chK1
  refine congrArg (fun k => (db ρ).bind k) ?_
  funext y ρ2
  unfold chK2 chK3
  cases f x y with
  | none => rfl
  | some d => cases d with
    | bl b => cases b <;> rfl
    | _ => rfl
theorem e_chK2 (f g : D → D → Option D) (dc : ENV → R D) (x y : D) (ρ : ENV) : chK2 f g dc x y ρ = chK3 g dc y (f x y) ρ := rfl
theorem e_chT (g : D → D → Option D) (dc : ENV → R D) (y : D) (ρ : ENV) : chK3 g dc y (some (.bl true)) ρ = (dc ρ).bind (op1 (g y)) := rfl
theorem e_chF (g : D → D → Option D) (dc : ENV → R D) (y : D) (ρ : ENV) : chK3 g dc y (some (.bl false)) ρ = .ok (.bl false) ρ := rfl
/-- a try-statement -/
def tryK (sub : Nat → Nat → Option Bool) (c : Nat) (ss : ENV → R Fl) : R Fl → R Fl
  | .exc e ρ1 => match sub e.c c with
    | some true => match ss ρ1 with
      | .exc _ _ => .bot
      | r => r
    | some false => .exc e ρ1
    | none => .bot
  | r => r
theorem e_Try (sub : Nat → Nat → Option Bool) (sb : ENV → R Fl) (c : Nat) (ss : ENV → R Fl) (ρ : ENV) : sTry sub sb c ss ρ = tryK sub c ss (sb ρ) := by
  unfold sTry tryK
  cases sb ρ <;> rfl
theorem e_tryO (sub : Nat → Nat → Option Bool) (c : Nat) (ss : ENV → R Fl) (f : Fl) (ρ : ENV) : tryK sub c ss (.ok f ρ) = .ok f ρ := rfl
theorem e_tryX (sub : Nat → Nat → Option Bool) (c : Nat) (ss : ENV → R Fl) (e : EX) (ρ ρ' : ENV) (f : Fl) (h : sub e.c c = some true) (h2 : ss ρ = .ok f ρ') : tryK sub c ss (.exc e ρ) = .ok f ρ' := by
  show (match sub e.c c with
    | some true => match ss ρ with
      | .exc _ _ => R.bot
      | r => r
    | some false => .exc e ρ
    | none => .bot) = _
  rw [h]
  dsimp only
  rw [h2]
theorem e_tru (b : Bool) : tru (.bl b) = some b := rfl
theorem e_truI (i : Int) : tru (.int i) = some (!(i == 0)) := by
  rfl
theorem line8 : (8 : Nat) ≤ sizeLine := by rw [sizeLine_eq]; decide
theorem e_tup1 (a : D) (ρ : ENV) : tupK [a] ρ = .ok (.tup [a]) ρ := e_tupK _ ρ (Nat.le_trans (show 1 ≤ 8 by decide) line8)
theorem e_lst1 (a : D) (ρ : ENV) : lstK [a] ρ = .ok (.lst [a]) ρ := e_lstK _ ρ (Nat.le_trans (show 1 ≤ 8 by decide) line8)
theorem e_tup2 (a b : D) (ρ : ENV) : tupK [a, b] ρ = .ok (.tup [a, b]) ρ := e_tupK _ ρ (Nat.le_trans (show 2 ≤ 8 by decide) line8)
theorem e_lst2 (a b : D) (ρ : ENV) : lstK [a, b] ρ = .ok (.lst [a, b]) ρ := e_lstK _ ρ (Nat.le_trans (show 2 ≤ 8 by decide) line8)
theorem e_tup3 (a b c : D) (ρ : ENV) : tupK [a, b, c] ρ = .ok (.tup [a, b, c]) ρ := e_tupK _ ρ (Nat.le_trans (show 3 ≤ 8 by decide) line8)
theorem e_lst3 (a b c : D) (ρ : ENV) : lstK [a, b, c] ρ = .ok (.lst [a, b, c]) ρ := e_lstK _ ρ (Nat.le_trans (show 3 ≤ 8 by decide) line8)
theorem e_tup4 (a b c d : D) (ρ : ENV) : tupK [a, b, c, d] ρ = .ok (.tup [a, b, c, d]) ρ := e_tupK _ ρ (Nat.le_trans (show 4 ≤ 8 by decide) line8)
theorem e_lst4 (a b c d : D) (ρ : ENV) : lstK [a, b, c, d] ρ = .ok (.lst [a, b, c, d]) ρ := e_lstK _ ρ (Nat.le_trans (show 4 ≤ 8 by decide) line8)
theorem e_tup5 (a b c d e : D) (ρ : ENV) : tupK [a, b, c, d, e] ρ = .ok (.tup [a, b, c, d, e]) ρ := e_tupK _ ρ (Nat.le_trans (show 5 ≤ 8 by decide) line8)
theorem e_lst5 (a b c d e : D) (ρ : ENV) : lstK [a, b, c, d, e] ρ = .ok (.lst [a, b, c, d, e]) ρ := e_lstK _ ρ (Nat.le_trans (show 5 ≤ 8 by decide) line8)
theorem e_tup6 (a b c d e f : D) (ρ : ENV) : tupK [a, b, c, d, e, f] ρ = .ok (.tup [a, b, c, d, e, f]) ρ := e_tupK _ ρ (Nat.le_trans (show 6 ≤ 8 by decide) line8)
theorem e_lst6 (a b c d e f : D) (ρ : ENV) : lstK [a, b, c, d, e, f] ρ = .ok (.lst [a, b, c, d, e, f]) ρ := e_lstK _ ρ (Nat.le_trans (show 6 ≤ 8 by decide) line8)
theorem e_tup7 (a b c d e f g : D) (ρ : ENV) : tupK [a, b, c, d, e, f, g] ρ = .ok (.tup [a, b, c, d, e, f, g]) ρ := e_tupK _ ρ (Nat.le_trans (show 7 ≤ 8 by decide) line8)
theorem e_lst7 (a b c d e f g : D) (ρ : ENV) : lstK [a, b, c, d, e, f, g] ρ = .ok (.lst [a, b, c, d, e, f, g]) ρ := e_lstK _ ρ (Nat.le_trans (show 7 ≤ 8 by decide) line8)
theorem e_tup8 (a b c d e f g h : D) (ρ : ENV) : tupK [a, b, c, d, e, f, g, h] ρ = .ok (.tup [a, b, c, d, e, f, g, h]) ρ := e_tupK _ ρ (Nat.le_trans (show 8 ≤ 8 by decide) line8)
theorem e_lst8 (a b c d e f g h : D) (ρ : ENV) : lstK [a, b, c, d, e, f, g, h] ρ = .ok (.lst [a, b, c, d, e, f, g, h]) ρ := e_lstK _ ρ (Nat.le_trans (show 8 ≤ 8 by decide) line8)
theorem e_While (n : ENV → Nat) (c : ENV → R Bool) (body : ENV → R Fl) (ρ : ENV) : sWhile n c body ρ = whileF c body (n ρ) ρ := rfl
theorem e_abs (i : Int) : fAbs [.int i] = some (.int (if i < 0 then -i else i)) := rfl
theorem e_max2 (i j : Int) : fMax [.int i, .int j] = some (.int (if j > i then j else i)) := rfl
theorem e_min2 (i j : Int) : fMin [.int i, .int j] = some (.int (if j < i then j else i)) := rfl
theorem e_gSq2 (i j : Nat) (a b : D) (ρ : ENV) (hi : i < ρ.length) (hj : j < ρ.length) : gSeq 2 (gsCons (gSet i) (gsCons (gSet j) gsNil)) (.tup [a, b]) ρ = some ((ρ.set i (some (.sh a))).set j (some (.sh b))) := by
  show (gSet i a ρ).bind (fun ρ1 => (gSet j b ρ1).bind fun ρ2 => some ρ2) = _
  rw [e_gSet i a ρ hi]
  show (gSet j b _).bind _ = _
  rw [e_gSet j b _ (by rw [List.length_set]; exact hj)]
  rfl
theorem e_addT (a b : List D) (h : a.length + b.length ≤ sizeLine) : vAdd (.tup a) (.tup b) = some (.tup (a ++ b)) := by
  show (if a.length + b.length ≤ sizeLine then some (D.tup (a ++ b)) else none) = _
  rw [if_pos h]
/-! ### tuples of ints -/
def tupI (l : List Int) : D := .tup (l.map D.int)
theorem t_fld (l : List Int) : D.tup (l.map D.int) = tupI l := rfl
theorem t_eq (a b : List Int) : CK.f .eq (tupI a) (tupI b) = some (.bl (decide (a = b))) := vEq_tup false a b
theorem t_ne (a b : List Int) : CK.f .ne (tupI a) (tupI b) = some (.bl (!decide (a = b))) := vEq_tup true a b
theorem t_len (l : List Int) : fLen [tupI l] = some (.int l.length) := by unfold tupI; rw [e_lenT, List.length_map]
theorem t_is (l : List Int) : (isTy "tuple" (tupI l)) = some true := rfl
theorem t_itm (l : List Int) (ρ : ENV) : itK (tupI l) ρ = .ok (l.map D.int) ρ := rfl
theorem t_of (l : List Int) : fTuple [.lst (l.map D.int)] = some (tupI l) := rfl
theorem t_of2 (l : List Int) : fTuple [.tup (l.map D.int)] = some (tupI l) := rfl
theorem t_lst (l : List Int) : fList [tupI l] = some (.lst (l.map D.int)) := rfl
theorem atI_map (f : Int → D) : ∀ (l : List Int) (i : Int) (x : Int), L2.atI l i = some x → L2.atI (l.map f) i = some (f x) := by
  intro l i x h
  unfold L2.atI at h ⊢
  rw [List.length_map]
  cases e : ixN l.length i with
  | none => rw [e] at h; cases h
  | some j =>
    rw [e] at h
    show (l.map f)[j]? = _
    rw [List.getElem?_map, show l[j]? = some x from h]; rfl
theorem t_ix {l : List Int} {i x : Int} (h : L2.atI l i = some x) : vIxI (tupI l) (.int i) = some (.int x) := atI_map D.int l i x h
theorem t_min (a : Int) (l : List Int) : fMin [tupI (a :: l)] = some (.int (minI a l)) := e_minT a l
theorem t_max (a : Int) (l : List Int) : fMax [tupI (a :: l)] = some (.int (maxI a l)) := e_maxT a l
theorem vEq_lst (neg : Bool) (a b : List Int) : vEq neg (.lst (a.map D.int)) (.lst (b.map D.int)) = some (.bl (if neg then !decide (a = b) else decide (a = b))) := by
  unfold vEq
  rw [if_pos ⟨shaped_lst a, shaped_lst b⟩]
  have : PyData.eqv (D.lst (a.map D.int)).toPy (D.lst (b.map D.int)).toPy = decide (a = b) := by
    show PyData.eqv (.list (toPyL (a.map D.int))) (.list (toPyL (b.map D.int))) = _
    rw [toPyL_map D.int PyData.int (fun _ => rfl), toPyL_map D.int PyData.int (fun _ => rfl), PyData.eqv, eqv_ints]
  rw [this]
theorem allTrue {α : Type} : ∀ l : List α, bools (l.map fun _ => D.bl true) = some (l.map fun _ => true)
  | [] => rfl
  | a :: l => by show (bools (l.map fun _ => D.bl true)).map (true :: ·) = _; rw [allTrue l]; rfl
theorem t_all {α : Type} (l : List α) : fAll [.lst (l.map fun _ => D.bl true)] = some (.bl true) := by
  show (bools _).map _ = _
  rw [allTrue]
  show some (D.bl ((l.map fun _ => true).all id)) = _
  have : (l.map fun _ => true).all id = true := by rw [List.all_map]; exact List.all_eq_true.mpr fun _ _ => rfl
  rw [this]
end Rf
set_option Elab.async false
set_option linter.all false
set_option maxRecDepth 100000
/-! RfV: the interpreter's rules for exceptions with fields, instances, methods, enumerate, texts -/
namespace Rf
open PySem PySem.Spec L2
/-! ### a statement behind another -/
theorem seq_ok {a b : ENV → R Fl} {ρ ρ1 : ENV} (h : a ρ = .ok .nx ρ1) : sSeq a b ρ = b ρ1 := by unfold sSeq; rw [h]
theorem seq_ret {a b : ENV → R Fl} {ρ ρ1 : ENV} {v : DV} (h : a ρ = .ok (.ret v) ρ1) : sSeq a b ρ = .ok (.ret v) ρ1 := by unfold sSeq; rw [h]
/-! ### raising -/
def raFK (c : Nat) (fs : List Str) : List D → ENV → R Fl := fun ds ρ1 => if ds.length = fs.length ∧ ds.length ≤ 1000 then .exc ⟨c, (fs.zip ds).reverse⟩ ρ1 else .bot
theorem e_RaF (c : Nat) (fs : List Str) (dr : ENV → R (List D)) (ρ : ENV) : sRaiseF c fs dr ρ = (dr ρ).bind (raFK c fs) := rfl
theorem e_raF1 (c : Nat) (f : Str) (d : D) (ρ : ENV) : raFK c [f] [d] ρ = .exc ⟨c, [(f, d)]⟩ ρ := rfl
theorem e_raF2 (c : Nat) (f g : Str) (d e : D) (ρ : ENV) : raFK c [f, g] [d, e] ρ = .exc ⟨c, [(g, e), (f, d)]⟩ ρ := rfl
def tryAK (sub : Nat → Nat → Option Bool) (c i : Nat) (ss : EX → ENV → R Fl) : R Fl → R Fl
  | .exc e ρ1 => match sub e.c c with
    | some true => if i < ρ1.length then match ss e (ρ1.set i none) with
      | .ok f ρ2 => .ok f (ρ2.set i none)
      | _ => .bot else .bot
    | some false => .exc e ρ1
    | none => .bot
  | r => r
def asgnK (i : Nat) : R Fl → R Fl
  | .ok f ρ2 => .ok f (ρ2.set i none)
  | _ => .bot
theorem e_TryA (sub : Nat → Nat → Option Bool) (sb : ENV → R Fl) (c i : Nat) (ss : EX → ENV → R Fl) (ρ : ENV) : sTryAs sub sb c i ss ρ = tryAK sub c i ss (sb ρ) := by
  unfold sTryAs tryAK
  cases sb ρ <;> rfl
theorem e_tryAO (sub : Nat → Nat → Option Bool) (c i : Nat) (ss : EX → ENV → R Fl) (f : Fl) (ρ : ENV) : tryAK sub c i ss (.ok f ρ) = .ok f ρ := rfl
theorem e_tryAX (sub : Nat → Nat → Option Bool) (c i : Nat) (ss : EX → ENV → R Fl) (e : EX) (ρ : ENV) (h : sub e.c c = some true) (hi : i < ρ.length) : tryAK sub c i ss (.exc e ρ) = asgnK i (ss e (ρ.set i none)) := by
  unfold tryAK
  dsimp only
  rw [h]
  dsimp only
  rw [if_pos hi]
  cases ss e (ρ.set i none) <;> rfl
theorem e_asgnK (i : Nat) (f : Fl) (ρ : ENV) : asgnK i (.ok f ρ) = .ok f (ρ.set i none) := rfl
theorem e_Xf (ok : Nat → Bool) (f : Str) (c : Nat) (d : D) (r : List (Str × D)) (ρ : ENV) (h : ok c = true) : dXf ok f ⟨c, (f, d) :: r⟩ ρ = .ok d ρ := by
  show (if ok c = true then R.of (List.lookup f ((f, d) :: r)) ρ else .bot) = _
  rw [if_pos h, List.lookup_cons_self]
  rfl
theorem e_frzX (e : EX) (ρ : ENV) : frz (.exc e ρ) = .exc e ρ := rfl
theorem e_sqX (b : ENV → R Fl) : ∀ (e : EX) (ρ : ENV), (R.exc e ρ).bind (sqK b) = .exc e ρ := fun _ _ => rfl
/-! ### instances -/
theorem e_Fld (ok : Nat → Bool) (f : Str) (da : ENV → R D) (ρ : ENV) : dFld ok f da ρ = (da ρ).bind (op1 (vFld ok f)) := rfl
theorem e_vFld (ok : Nat → Bool) (f : Str) (c : Nat) (fs : List (Str × D)) (h : ok c = true) : vFld ok f (.ins c fs) = fs.lookup f := if_pos h
def fldK (ok : Nat → Bool) (f : Str) (i : Nat) : D → ENV → R Fl := fun d ρ1 => match ρ1[i]? with
  | some (some (.ow (.ins c fs))) => if ok c = true ∧ fs.length < 1000 then .ok .nx (ρ1.set i (some (.ow (.ins c (putD f d fs))))) else .bot
  | _ => .bot
theorem e_SFld (ok : Nat → Bool) (f : Str) (i : Nat) (da : ENV → R D) (ρ : ENV) : sFld ok f i da ρ = (da ρ).bind (fldK ok f i) := rfl
theorem e_fldK0 (ok : Nat → Bool) (f : Str) (d : D) (c : Nat) (fs : List (Str × D)) (r : ENV) (h : ok c = true) (hl : fs.length < 1000) : fldK ok f 0 d (some (.ow (.ins c fs)) :: r) = .ok .nx (some (.ow (.ins c (putD f d fs))) :: r) :=
  if_pos ⟨h, hl⟩
def mkK (c n : Nat) (F : List DV → FO) : List D → ENV → R M := fun ds ρ1 => if ds.length + 1 = n then mkR ρ1 (F (.ow (.ins c []) :: ds.map DV.sh)) else .bot
theorem e_Mk (c n : Nat) (F : List DV → FO) (da : ENV → R (List D)) (ρ : ENV) : fMake c n F da ρ = (da ρ).bind (mkK c n F) := rfl
theorem e_mkK1 (c : Nat) (F : List DV → FO) (x : D) (ρ : ENV) : mkK c 2 F [x] ρ = mkR ρ (F [.ow (.ins c []), .sh x]) := rfl
theorem e_mkK2 (c : Nat) (F : List DV → FO) (x y : D) (ρ : ENV) : mkK c 3 F [x, y] ρ = mkR ρ (F [.ow (.ins c []), .sh x, .sh y]) := rfl
theorem e_mkK3 (c : Nat) (F : List DV → FO) (x y z : D) (ρ : ENV) : mkK c 4 F [x, y, z] ρ = mkR ρ (F [.ow (.ins c []), .sh x, .sh y, .sh z]) := rfl
theorem e_mkK4 (c : Nat) (F : List DV → FO) (x y z u : D) (ρ : ENV) : mkK c 5 F [x, y, z, u] ρ = mkR ρ (F [.ow (.ins c []), .sh x, .sh y, .sh z, .sh u]) := rfl
theorem e_mkO (m : M) (ρ : ENV) : mkR ρ (.ok (.sh .non) [m]) = .ok m ρ := rfl
theorem e_mkX (e : EX) (ms : List M) (ρ : ENV) : mkR ρ (.exc e ms) = .exc e ρ := rfl
def metK2 (F : List DV → FO) (x : D) : List Ag → ENV → R DV := fun as ρ2 => stepR F (.inl x :: as) ρ2
theorem e_Met (tab : Nat → Option (List DV → FO)) (m : Str) (da : ENV → R D) (dr : ENV → R (List Ag)) (ρ : ENV) : dMet tab m da dr ρ = (da ρ).bind (metK tab m dr) := rfl
theorem e_metK (tab : Nat → Option (List DV → FO)) (m : Str) (dr : ENV → R (List Ag)) (x : D) (ρ : ENV) (F : List DV → FO) (h : metOf tab m x = some F) : metK tab m dr x ρ = ((dr ρ).bind (metK2 F x)).bind onSh := by unfold metK; rw [h]; rfl
theorem e_metK2 (F : List DV → FO) (x : D) (as : List Ag) (ρ : ENV) : metK2 F x as ρ = stepR F (.inl x :: as) ρ := rfl
/-! ### enumerate -/
theorem e_Enum (da : ENV → R D) (ρ : ENV) : dEnumT da ρ = (da ρ).bind enumKT := rfl
theorem e_enumL (ds : List D) (ρ : ENV) : enumKT (.lst ds) ρ = .ok (pairs ds) ρ := rfl
theorem e_enumT (ds : List D) (ρ : ENV) : enumKT (.tup ds) ρ = .ok (pairs ds) ρ := rfl
theorem forL_gS2 (i j : Nat) (a b : D) (ds : List D) (body : ENV → R Fl) (ρ : ENV) (hi : i < ρ.length) (hj : j < ρ.length) : forL (gSeq 2 (gsCons (gSet i) (gsCons (gSet j) gsNil))) body (.tup [a, b] :: ds) ρ
    = (body ((ρ.set i (some (.sh a))).set j (some (.sh b)))).bind (turnK (forL (gSeq 2 (gsCons (gSet i) (gsCons (gSet j) gsNil))) body ds)) := forL_cons _ _ _ _ _ _ (e_gSq2 i j a b ρ hi hj)
theorem pairs2 (a b : D) : pairs [a, b] = [.tup [.int 0, a], .tup [.int 1, b]] := by kernel_rfl
theorem pairs3 (a b c : D) : pairs [a, b, c] = [.tup [.int 0, a], .tup [.int 1, b], .tup [.int 2, c]] := by kernel_rfl
theorem pairs4 (a b c d : D) : pairs [a, b, c, d] = [.tup [.int 0, a], .tup [.int 1, b], .tup [.int 2, c], .tup [.int 3, d]] := by kernel_rfl
/-! ### tests -/
theorem e_IfB (t a b : ENV → R Bool) (ρ : ENV) : dIfB t a b ρ = (t ρ).bind (ifBK a b) := rfl
theorem e_ifBT (a b : ENV → R Bool) (ρ : ENV) : ifBK a b true ρ = a ρ := rfl
theorem e_ifBF (a b : ENV → R Bool) (ρ : ENV) : ifBK a b false ρ = b ρ := rfl
theorem e_notB (a b : Bool) : CK.f .notB (.bl a) (.bl b) = some (.bl (!decide (a = b))) := rfl
theorem e_isB (a b : Bool) : CK.f .isB (.bl a) (.bl b) = some (.bl (decide (a = b))) := rfl
section
variable {tab : Nat → Option (List DV → FO)} {ok : Nat → Bool}
theorem o_int (i : Int) (y : D) : vEqO tab ok (.int i) y = vEq false (.int i) y := rfl
theorem o_str (i : Str) (y : D) : vEqO tab ok (.str i) y = vEqS false (.str i) y := rfl
theorem o_tup (i : List D) (y : D) : vEqO tab ok (.tup i) y = vEq false (.tup i) y := rfl
theorem o_lst (i : List D) (y : D) : vEqO tab ok (.lst i) y = vEq false (.lst i) y := rfl
theorem o_non (y : D) : vEqO tab ok .non y = vEq false .non y := rfl
theorem o_bl (i : Bool) (y : D) : vEqO tab ok (.bl i) y = vEq false (.bl i) y := rfl
theorem n_int (i : Int) (y : D) : vNeO tab ok (.int i) y = vEq true (.int i) y := rfl
theorem n_str (i : Str) (y : D) : vNeO tab ok (.str i) y = vEqS true (.str i) y := rfl
theorem n_tup (i : List D) (y : D) : vNeO tab ok (.tup i) y = vEq true (.tup i) y := rfl
theorem n_lst (i : List D) (y : D) : vNeO tab ok (.lst i) y = vEq true (.lst i) y := rfl
theorem n_non (y : D) : vNeO tab ok .non y = vEq true .non y := rfl
theorem n_bl (i : Bool) (y : D) : vNeO tab ok (.bl i) y = vEq true (.bl i) y := rfl
theorem n_of {x y : D} {b : Bool} (hx : ∃ c fs, x = .ins c fs) (h : vEqO tab ok x y = some (.bl b)) : vNeO tab ok x y = some (.bl !b) := by
  obtain ⟨c, fs, rfl⟩ := hx
  show (vEqO tab ok _ y).bind negD = _
  rw [h]; rfl
end
theorem e_lst9 (a0 a1 a2 a3 a4 a5 a6 a7 a8 : D) (ρ : ENV) : lstK [a0, a1, a2, a3, a4, a5, a6, a7, a8] ρ = .ok (.lst [a0, a1, a2, a3, a4, a5, a6, a7, a8]) ρ := e_lstK _ ρ (by rw [sizeLine_eq]; show 9 ≤ _; decide)
theorem e_tup9 (a0 a1 a2 a3 a4 a5 a6 a7 a8 : D) (ρ : ENV) : tupK [a0, a1, a2, a3, a4, a5, a6, a7, a8] ρ = .ok (.tup [a0, a1, a2, a3, a4, a5, a6, a7, a8]) ρ := e_tupK _ ρ (by rw [sizeLine_eq]; show 9 ≤ _; decide)
theorem e_lst10 (a0 a1 a2 a3 a4 a5 a6 a7 a8 a9 : D) (ρ : ENV) : lstK [a0, a1, a2, a3, a4, a5, a6, a7, a8, a9] ρ = .ok (.lst [a0, a1, a2, a3, a4, a5, a6, a7, a8, a9]) ρ := e_lstK _ ρ (by rw [sizeLine_eq]; show 10 ≤ _; decide)
theorem e_tup10 (a0 a1 a2 a3 a4 a5 a6 a7 a8 a9 : D) (ρ : ENV) : tupK [a0, a1, a2, a3, a4, a5, a6, a7, a8, a9] ρ = .ok (.tup [a0, a1, a2, a3, a4, a5, a6, a7, a8, a9]) ρ := e_tupK _ ρ (by rw [sizeLine_eq]; show 10 ≤ _; decide)
theorem e_lst11 (a0 a1 a2 a3 a4 a5 a6 a7 a8 a9 a10 : D) (ρ : ENV) : lstK [a0, a1, a2, a3, a4, a5, a6, a7, a8, a9, a10] ρ = .ok (.lst [a0, a1, a2, a3, a4, a5, a6, a7, a8, a9, a10]) ρ := e_lstK _ ρ (by rw [sizeLine_eq]; show 11 ≤ _; decide)
theorem e_tup11 (a0 a1 a2 a3 a4 a5 a6 a7 a8 a9 a10 : D) (ρ : ENV) : tupK [a0, a1, a2, a3, a4, a5, a6, a7, a8, a9, a10] ρ = .ok (.tup [a0, a1, a2, a3, a4, a5, a6, a7, a8, a9, a10]) ρ := e_tupK _ ρ (by rw [sizeLine_eq]; show 11 ≤ _; decide)
theorem e_lst12 (a0 a1 a2 a3 a4 a5 a6 a7 a8 a9 a10 a11 : D) (ρ : ENV) : lstK [a0, a1, a2, a3, a4, a5, a6, a7, a8, a9, a10, a11] ρ = .ok (.lst [a0, a1, a2, a3, a4, a5, a6, a7, a8, a9, a10, a11]) ρ := e_lstK _ ρ (by rw [sizeLine_eq]; show 12 ≤ _; decide)
theorem e_tup12 (a0 a1 a2 a3 a4 a5 a6 a7 a8 a9 a10 a11 : D) (ρ : ENV) : tupK [a0, a1, a2, a3, a4, a5, a6, a7, a8, a9, a10, a11] ρ = .ok (.tup [a0, a1, a2, a3, a4, a5, a6, a7, a8, a9, a10, a11]) ρ := e_tupK _ ρ (by rw [sizeLine_eq]; show 12 ≤ _; decide)
theorem e_lst13 (a0 a1 a2 a3 a4 a5 a6 a7 a8 a9 a10 a11 a12 : D) (ρ : ENV) : lstK [a0, a1, a2, a3, a4, a5, a6, a7, a8, a9, a10, a11, a12] ρ = .ok (.lst [a0, a1, a2, a3, a4, a5, a6, a7, a8, a9, a10, a11, a12]) ρ := e_lstK _ ρ (by rw [sizeLine_eq]; show 13 ≤ _; decide)
theorem e_lst14 (a0 a1 a2 a3 a4 a5 a6 a7 a8 a9 a10 a11 a12 a13 : D) (ρ : ENV) : lstK [a0, a1, a2, a3, a4, a5, a6, a7, a8, a9, a10, a11, a12, a13] ρ = .ok (.lst [a0, a1, a2, a3, a4, a5, a6, a7, a8, a9, a10, a11, a12, a13]) ρ := e_lstK _ ρ (by rw [sizeLine_eq]; show 14 ≤ _; decide)
theorem e_lst15 (a0 a1 a2 a3 a4 a5 a6 a7 a8 a9 a10 a11 a12 a13 a14 : D) (ρ : ENV) : lstK [a0, a1, a2, a3, a4, a5, a6, a7, a8, a9, a10, a11, a12, a13, a14] ρ = .ok (.lst [a0, a1, a2, a3, a4, a5, a6, a7, a8, a9, a10, a11, a12, a13, a14]) ρ := e_lstK _ ρ (by rw [sizeLine_eq]; show 15 ≤ _; decide)
theorem e_lst16 (a0 a1 a2 a3 a4 a5 a6 a7 a8 a9 a10 a11 a12 a13 a14 a15 : D) (ρ : ENV) : lstK [a0, a1, a2, a3, a4, a5, a6, a7, a8, a9, a10, a11, a12, a13, a14, a15] ρ = .ok (.lst [a0, a1, a2, a3, a4, a5, a6, a7, a8, a9, a10, a11, a12, a13, a14, a15]) ρ := e_lstK _ ρ (by rw [sizeLine_eq]; show 16 ≤ _; decide)
theorem e_addL (a b : List D) (h : a.length + b.length ≤ sizeLine) : vAdd (.lst a) (.lst b) = some (.lst (a ++ b)) := if_pos h
/-! ### loops by what stays -/
theorem for_inv {g : D → ENV → Option ENV} {body : ENV → R Fl} (P : ENV → Prop) : ∀ (ds : List D) (ρ : ENV), (∀ d ∈ ds, ∀ ρ, P ρ → ∃ ρ1 ρ2, g d ρ = some ρ1 ∧ (body ρ1 = .ok .nx ρ2 ∨ body ρ1 = .ok .ct ρ2) ∧ P ρ2) → P ρ →
    ∃ ρ', forL g body ds ρ = .ok .nx ρ' ∧ P ρ'
  | [], ρ, _, h => ⟨ρ, rfl, h⟩
  | d :: ds, ρ, hb, h => by
    obtain ⟨ρ1, ρ2, e1, e2, h2⟩ := hb d List.mem_cons_self ρ h
    obtain ⟨ρ', e3, h3⟩ := for_inv P ds ρ2 (fun d hd => hb d (List.mem_cons_of_mem _ hd)) h2
    refine ⟨ρ', ?_, h3⟩
    rw [forL_cons _ _ _ _ _ _ e1]
    rcases e2 with e2 | e2 <;> rw [e2] <;> exact e3
/-- over a list, turn by turn, with what holds before turn i -/
theorem for_run {g : D → ENV → Option ENV} {body : ENV → R Fl} (P : Nat → ENV → Prop) : ∀ (ds : List D) (k : Nat) (ρ : ENV), (∀ i d, ds[i]? = some d → ∀ ρ, P (k + i) ρ → ∃ ρ1 ρ2, g d ρ = some ρ1 ∧ (body ρ1 = .ok .nx ρ2 ∨ body ρ1 = .ok .ct ρ2) ∧ P (k + i + 1) ρ2) → P k ρ →
    ∃ ρ', forL g body ds ρ = .ok .nx ρ' ∧ P (k + ds.length) ρ'
  | [], k, ρ, _, h => ⟨ρ, rfl, h⟩
  | d :: ds, k, ρ, hb, h => by
    obtain ⟨ρ1, ρ2, e1, e2, h2⟩ := hb 0 d rfl ρ h
    obtain ⟨ρ', e3, h3⟩ := for_run P ds (k + 1) ρ2 (fun i d hd ρ hp => by
      have e : k + 1 + i = k + (i + 1) := by omega
      rw [e] at hp ⊢
      exact hb (i + 1) d (by simpa using hd) ρ hp) h2
    refine ⟨ρ', ?_, by rw [List.length_cons, show k + (ds.length + 1) = k + 1 + ds.length by omega]; exact h3⟩
    rw [forL_cons _ _ _ _ _ _ e1]
    rcases e2 with e2 | e2 <;> rw [e2] <;> exact e3
theorem gSet_at {i : Nat} {d : D} {ρ : ENV} (h : i < ρ.length) : gSet i d ρ = some (ρ.set i (some (.sh d))) := e_gSet i d ρ h
/-! ### xs[e] = d -/
def subK3 (i : Nat) (d : D) : D → ENV → R Fl := fun k ρ2 => match k, ρ2[i]? with
    | .int k, some (some (.ow (.lst ds))) => match ixN ds.length k with
      | some j => .ok .nx (ρ2.set i (some (.ow (.lst (ds.set j d)))))
      | none => .bot
    | _, _ => .bot
theorem e_subK0 (i : Nat) (di : ENV → R D) (d : D) (ρ : ENV) (ds : List D) (h : ρ[i]? = some (some (.ow (.lst ds)))) : subK i di d ρ = (di ρ).bind (subK3 i d) := by
  unfold subK
  rw [h]
  rfl
theorem e_subK3 (i : Nat) (k : Int) (d : D) (ρ : ENV) (ds : List D) (h : ρ[i]? = some (some (.ow (.lst ds)))) (hk : 0 ≤ k) (hl : k < ds.length) : subK3 i d (.int k) ρ = .ok .nx (ρ.set i (some (.ow (.lst (ds.set k.toNat d))))) := by
  unfold subK3
  rw [h]
  dsimp only [ixN]
  rw [if_pos hk, if_pos hl]
/-- list(x), fresh -/
def listFK : D → ENV → R M := fun x ρ1 => match x with
  | .lst ds => .ok (.lst ds) ρ1
  | .scr ds => .ok (.lst ds) ρ1
  | .tup ds => .ok (.lst ds) ρ1
  | _ => .bot
theorem e_ListF (da : ENV → R D) (ρ : ENV) : fListF da ρ = (da ρ).bind listFK := rfl
theorem e_listFT (ds : List D) (ρ : ENV) : listFK (.tup ds) ρ = .ok (.lst ds) ρ := rfl
theorem e_listFL (ds : List D) (ρ : ENV) : listFK (.lst ds) ρ = .ok (.lst ds) ρ := rfl
theorem shaped_str {x : Str} (h : PyData.strOk x = true) : SeqAt.shaped (D.str x).toPy = true := by simp [SeqAt.shaped, D.toPy, PyData.canLay0, PyData.depth, h]
/-! ### dict.get -/
theorem e_GetK (tab : List (Str × D)) (da : ENV → R D) (ρ : ENV) : dGetK tab da ρ = (da ρ).bind (getK tab) := rfl
theorem e_getK (tab : List (Str × D)) (k : Str) (ρ : ENV) : getK tab (.str k) ρ = .ok ((lkS k tab).getD .non) ρ := rfl
theorem lenT1 (a : D) : fLen [.tup [a]] = some (.int 1) := rfl
theorem lenT2 (a b : D) : fLen [.tup [a, b]] = some (.int 2) := rfl
/-! ### a text among texts -/
def SD (ws : List Str) : List D := ws.map D.str
theorem lay_strs : ∀ ws : List Str, (∀ n ∈ ws, PyData.strOk n = true) → PyData.canLayAll0 (toPyL (SD ws)) = true
  | [], _ => rfl
  | a :: r, h => by
    simp only [SD, List.map_cons, toPyL, D.toPy, PyData.canLayAll0, PyData.canLay0, h a List.mem_cons_self, Bool.true_and]
    exact lay_strs r fun n hn => h n (List.mem_cons_of_mem _ hn)
theorem any_strs (x : Str) : ∀ ws : List Str, ((toPyL (SD ws)).any fun z => PyData.eqv z (D.str x).toPy) = decide (x ∈ ws)
  | [] => rfl
  | a :: r => by
    have ih := any_strs x r
    simp only [SD, List.map_cons, toPyL, D.toPy, List.any_cons, PyData.eqv] at ih ⊢
    rw [ih]
    by_cases h : a = x
    · subst h; simp
    · have h' : ¬ x = a := fun z => h z.symm
      simp [h, h']
theorem in_lstS (neg : Bool) {x : Str} {ws : List Str} (hx : PyData.strOk x = true) (h : ws.all PyData.strOk = true) : vIn neg (.str x) (.lst (SD ws)) = some (.bl (if neg then !decide (x ∈ ws) else decide (x ∈ ws))) := by
  unfold vIn
  dsimp only
  rw [if_pos ⟨shaped_str hx, lay_strs ws (List.all_eq_true.mp h)⟩, any_strs x ws]
theorem in_tupS (neg : Bool) {x : Str} {ws : List Str} (hx : PyData.strOk x = true) (h : ws.all PyData.strOk = true) : vIn neg (.str x) (.tup (SD ws)) = some (.bl (if neg then !decide (x ∈ ws) else decide (x ∈ ws))) := by
  unfold vIn
  dsimp only
  rw [if_pos ⟨shaped_str hx, lay_strs ws (List.all_eq_true.mp h)⟩, any_strs x ws]
/-! ### texts compared -/
theorem eqSS (neg : Bool) (a b : Str) : vEqS neg (.str a) (.str b) = some (.bl (if neg then !decide (a = b) else decide (a = b))) := rfl
theorem e_eqS (a b : Str) : CK.f .eq (.str a) (.str b) = some (.bl (decide (a = b))) := rfl
theorem e_neS (a b : Str) : CK.f .ne (.str a) (.str b) = some (.bl (!decide (a = b))) := rfl
theorem vEq_str (neg : Bool) {a b : Str} (ha : PyData.strOk a = true) (hb : PyData.strOk b = true) : vEq neg (.str a) (.str b) = some (.bl (if neg then !decide (a = b) else decide (a = b))) := by
  have e : PyData.eqv (D.str a).toPy (D.str b).toPy = decide (a = b) := by
    simp only [D.toPy, PyData.eqv]
    by_cases q : a = b
    · subst q; simp
    · simp [q]
  unfold vEq
  rw [if_pos ⟨shaped_str ha, shaped_str hb⟩, e]
theorem vEq_strT (neg : Bool) {a : Str} (ha : PyData.strOk a = true) : vEq neg (.str a) (.str a) = some (.bl (!neg)) := by rw [vEq_str neg ha ha]; cases neg <;> simp
theorem e_addS (a b : Str) (h : a.length + b.length ≤ sizeLine) : vAdd (.str a) (.str b) = some (.str (a ++ b)) := if_pos h
theorem e_ixS (z : Str) (i : Int) : vIxI (.str z) (.int i) = (L2.atI z.cps.toList i).map fun c => .str ⟨#[c]⟩ := rfl
theorem e_itS (z : Str) (ρ : ENV) : itK (.str z) ρ = .ok (signs z) ρ := rfl
theorem bools_f {α : Type} (f : α → Bool) : ∀ l : List α, bools (l.map fun i => D.bl (f i)) = some (l.map f)
  | [] => rfl
  | a :: l => by show (bools (l.map fun i => D.bl (f i))).map (f a :: ·) = _; rw [bools_f f l]; rfl
theorem all_f {α : Type} (f : α → Bool) (l : List α) : fAll [.lst (l.map fun i => D.bl (f i))] = some (.bl (l.all f)) := by
  show (bools _).map _ = _
  rw [bools_f]
  show some (D.bl ((l.map f).all id)) = _
  rw [List.all_map]
  rfl
/-- [te for sign in text] -/
theorem lc_text {ρ : ENV} {i : Nat} {te : ENV → R D} {di : ENV → R (List D)} {z : Str} (f : Nat → D) (hd : di ρ = .ok (signs z) ρ) (hi : ρ[i]? = some none) (h : ∀ n, te (ρ.set i (some (.sh (.str ⟨#[n]⟩)))) = .ok (f n) (ρ.set i (some (.sh (.str ⟨#[n]⟩))))) (hz : z.length ≤ sizeLine) :
    fLc di (gSet i) dYes te [i] ρ = .ok (.lst (z.cps.toList.map f)) ρ := by
  have := lc_map (te := te) (fun d => match d with | .str x => f (x.cps.toList.headD 0) | d => d) hd hi (fun d hd => by
    obtain ⟨n, hn, rfl⟩ := List.mem_map.mp hd
    exact h n) (by unfold signs; rw [List.length_map, Array.length_toList]; exact hz)
  rw [this]
  unfold signs
  rw [List.map_map]
  rfl
end Rf
set_option Elab.async false
set_option linter.all false
set_option maxRecDepth 100000
namespace L01
open PySem PySem.Spec L2 Rf
def FUEL : Nat := 1000000000
/-- which class stands under which -/
def subT (i j : Nat) : Option Bool := if i = 1 ∧ j = 1 then some true else none
abbrev g_LETTERS : D := .str "abcdefghijklmnopqrstuvwxyz"
abbrev g_MOST_STEP : D := .int 30
abbrev g_UNKNOWN : D := .tup [.str "somebody", .str "one day", .str "somewhere"]
def tab_SINGLE_WORDS : List (Str × D) := [("I", .str "person"), ("you", .str "person"), ("self", .str "person"), ("told", .str "person"), ("somebody", .str "person"), ("one day", .str "day"), ("here", .str "place"), ("there", .str "place"), ("somewhere", .str "place")]
abbrev g_STEP_WORDS : D := .tup [.str "today", .str "that day"]
abbrev g_WEEKDAY_WORDS : D := .tup [.str "coming", .str "last", .str "then coming", .str "then last"]
abbrev g_INNER_WORDS : D := .tup [.str "self", .str "told", .str "that day", .str "there", .str "then coming", .str "then last"]
/-- _law_hand(_law_script) -/
def b__law_hand : ENV → R Fl := sSeq (sAsg (dAdd (dB fLen (dCons (dVar 0) (dNil))) (dC (.int 17))) (gSet 1))
  (sSeq (sOwn (fLst (dNil)) 2)
  (sSeq (sFor (dItems (dVar 0)) (gSet 3) (sSeq (sAsg (dMod (dB fInt (dCons (dAdd (dMul (dVar 1) (dC (.int 1009))) (dB fInt (dCons (dVar 3) (dNil)))) (dNil))) (dC (.int 2147483629))) (gSet 1))
  (sApp 2 (dIf (dT (dCmp .ge (dVar 3) (dC (.int 0)))) (dB fInt (dCons (dVar 3) (dNil))) (dNeg (dB fInt (dCons (dVar 3) (dNil))))))))
  (sRetF (fLst (dCons (dVar 2) (dCons (dC (.int 0)) (dCons (dC (.int 0)) (dCons (dVar 1) (dNil)))))))))
def m__law_hand : List DV → FO := runF [] 4 b__law_hand
/-- _law_mixed(_law_number, _law_turn) -/
def b__law_mixed : ENV → R Fl := sSeq (sAsg (dMod (dB fInt (dCons (dAdd (dAdd (dMul (dVar 0) (dC (.int 48271))) (dMul (dVar 1) (dC (.int 7919)))) (dC (.int 12345))) (dNil))) (dC (.int 2147483647))) (gSet 2))
  (sSeq (sAsg (dMod (dB fInt (dCons (dAdd (dAdd (dMul (dVar 2) (dVar 2)) (dMul (dVar 1) (dC (.int 104729)))) (dDiv (dVar 2) (dC (.int 127)))) (dNil))) (dC (.int 2147483629))) (gSet 3))
  (sRet (dDiv (dB fInt (dCons (dMod (dB fInt (dCons (dAdd (dMul (dVar 3) (dC (.int 69621))) (dDiv (dVar 2) (dC (.int 3)))) (dNil))) (dC (.int 2147483587))) (dNil))) (dC (.int 8)))))
def m__law_mixed : List DV → FO := runF [] 4 b__law_mixed
/-- _law_take(_law_hand_here, _law_many) -/
def b__law_take : ENV → R Fl := sSeq (sIf (dAnd (dT (dCmp .eq (dIxO 0 (dC (.int 2))) (dC (.int 0)))) (dT (dCmp .lt (dIxO 0 (dC (.int 1))) (dB fLen (dCons (dIxO 0 (dC (.int 0))) (dNil)))))) (sSeq (sAsg (dIx (dIxO 0 (dC (.int 0))) (dIxO 0 (dC (.int 1)))) (gSet 2))
  (sSeq (sSub 0 (dAdd (dIxO 0 (dC (.int 1))) (dC (.int 1))) (dC (.int 1)))
  (sSeq (sIf (dT (dCmp .lt (dVar 2) (dPow (dC (.int 10)) (dC (.int 18))))) (sRet (dMod (dB fInt (dCons (dCall m__law_mixed (aVal (dMod (dB fInt (dCons (dVar 2) (dNil))) (dC (.int 2147483647))) (aVal (dIxO 0 (dC (.int 1))) (aNil)))) (dNil))) (dVar 1))) (sNil))
  (sSub 0 (dVar 2) (dC (.int 2)))))) (sNil))
  (sSeq (sIf (dT (dCmp .gt (dIxO 0 (dC (.int 2))) (dC (.int 0)))) (sSeq (sAsg (dIxO 0 (dC (.int 2))) (gSet 3))
  (sSeq (sSub 0 (dDiv (dB fInt (dCons (dVar 3) (dNil))) (dVar 1)) (dC (.int 2)))
  (sRet (dMod (dB fInt (dCons (dVar 3) (dNil))) (dVar 1))))) (sNil))
  (sSeq (sSub 0 (dMod (dB fInt (dCons (dAdd (dIxO 0 (dC (.int 3))) (dC (.int 1))) (dNil))) (dC (.int 2147483629))) (dC (.int 3)))
  (sRet (dMod (dB fInt (dCons (dCall m__law_mixed (aVal (dIxO 0 (dC (.int 3))) (aVal (dIxO 0 (dC (.int 1))) (aNil)))) (dNil))) (dVar 1)))))
def m__law_take : List DV → FO := runF [0] 4 b__law_take
/-- _law_name(_law_hand_here) -/
def b__law_name : ENV → R Fl := sSeq (sAsg (dC (.str "")) (gSet 1))
  (sSeq (sFor (dRng1 (dAdd (dC (.int 1)) (dCall m__law_take (aIo 0 (aVal (dC (.int 8)) (aNil)))))) (gSet 2) (sAsg (dAdd (dVar 1) (dIx (dC (.str "abcdefghijklmnopqrstuvwxyz")) (dCall m__law_take (aIo 0 (aVal (dC (.int 26)) (aNil)))))) (gSet 1)))
  (sRet (dVar 1)))
def m__law_name : List DV → FO := runF [0] 3 b__law_name
/-- _law_whole(_law_thing_here) -/
def b__law_whole : ENV → R Fl := sRet (dAndV (dIs (isTy "int") (dVar 0)) (dNotV (dIs (isTy "bool") (dVar 0))))
def m__law_whole : List DV → FO := runF [] 1 b__law_whole
/-- _law_letters(_law_thing_here) -/
def b__law_letters : ENV → R Fl := sRet (dAndV (dIs (isTy "str") (dVar 0)) (dAndV (dChain (CK.f .lt) (CK.f .lt) (dC (.int 0)) (dB fLen (dCons (dVar 0) (dNil))) (dC (.int 9))) (dB fAll (dCons ((fun ρ => frz ((fLc (dItems (dVar 0)) (gSet 1) (dYes) (dCmp .in_ (dVar 1) (dC (.str "abcdefghijklmnopqrstuvwxyz"))) [1]) ρ))) (dNil)))))
def m__law_letters : List DV → FO := runF [] 2 b__law_letters
/-- _law_kind(_law_thing_here) -/
def b__law_kind : ENV → R Fl := sSeq (sIf (dOr (dNot (dTru (dIs (isTy "tuple") (dVar 0)))) (dOr (dT (dCmp .eq (dB fLen (dCons (dVar 0) (dNil))) (dC (.int 0)))) (dOr (dT (dCmp .gt (dB fLen (dCons (dVar 0) (dNil))) (dC (.int 2)))) (dNot (dTru (dIs (isTy "str") (dIx (dVar 0) (dC (.int 0))))))))) (sRet (dC .non)) (sNil))
  (sSeq (sIf (dT (dCmp .eq (dB fLen (dCons (dVar 0) (dNil))) (dC (.int 1)))) (sSeq (sFor (dItems (dLst (dCons (dTup (dCons (dC (.str "person")) (dCons (dLst (dCons (dC (.str "I")) (dCons (dC (.str "you")) (dCons (dC (.str "self")) (dCons (dC (.str "told")) (dCons (dC (.str "somebody")) (dNil))))))) (dNil)))) (dCons (dTup (dCons (dC (.str "day")) (dCons (dLst (dCons (dC (.str "one day")) (dNil))) (dNil)))) (dCons (dTup (dCons (dC (.str "place")) (dCons (dLst (dCons (dC (.str "here")) (dCons (dC (.str "there")) (dCons (dC (.str "somewhere")) (dNil))))) (dNil)))) (dNil)))))) (gSeq 2 (gsCons (gSet 1) (gsCons (gSet 2) (gsNil)))) (sIf (dT (dCmp .in_ (dIx (dVar 0) (dC (.int 0))) (dVar 2))) (sRet (dVar 1)) (sNil)))
  (sRet (dC .non))) (sNil))
  (sSeq (sIf (dOr (dT (dCmp .eq (dIx (dVar 0) (dC (.int 0))) (dC (.str "name")))) (dT (dCmp .eq (dIx (dVar 0) (dC (.int 0))) (dC (.str "place"))))) (sRet (dIf (dTru (dCall m__law_letters (aVal (dIx (dVar 0) (dC (.int 1))) (aNil)))) (dOp vIxB (dLst (dCons (dC (.str "person")) (dCons (dC (.str "place")) (dNil)))) (dCmp .eq (dIx (dVar 0) (dC (.int 0))) (dC (.str "place")))) (dC .non))) (sNil))
  (sSeq (sIf (dNot (dTru (dCall m__law_whole (aVal (dIx (dVar 0) (dC (.int 1))) (aNil))))) (sRet (dC .non)) (sNil))
  (sSeq (sAsg (dTup (dCons (dNeg (dC (.int 30))) (dCons (dC (.int 30)) (dNil)))) (gSeq 2 (gsCons (gSet 3) (gsCons (gSet 4) (gsNil)))))
  (sSeq (sIf (dT (dCmp .eq (dIx (dVar 0) (dC (.int 0))) (dC (.str "date")))) (sRet (dC (.str "day"))) (sNil))
  (sSeq (sIf (dT (dCmp .in_ (dIx (dVar 0) (dC (.int 0))) (dLst (dCons (dC (.str "coming")) (dCons (dC (.str "last")) (dCons (dC (.str "then coming")) (dCons (dC (.str "then last")) (dNil)))))))) (sAsg (dTup (dCons (dC (.int 0)) (dCons (dC (.int 6)) (dNil)))) (gSeq 2 (gsCons (gSet 3) (gsCons (gSet 4) (gsNil))))) (sIf (dT (dCmp .notIn (dIx (dVar 0) (dC (.int 0))) (dLst (dCons (dC (.str "today")) (dCons (dC (.str "that day")) (dNil)))))) (sRet (dC .non)) (sNil)))
  (sRet (dIf (dT (dChain (CK.f .le) (CK.f .le) (dVar 3) (dIx (dVar 0) (dC (.int 1))) (dVar 4))) (dC (.str "day")) (dC .non)))))))))
def m__law_kind : List DV → FO := runF [] 5 b__law_kind
/-- is_whole(thing) -/
def b_is_whole : ENV → R Fl := sRet (dAndV (dIs (isTy "int") (dVar 0)) (dNotV (dIs (isTy "bool") (dVar 0))))
def m_is_whole : List DV → FO := runF [] 1 b_is_whole
/-- is_name(thing) -/
def b_is_name : ENV → R Fl := sSeq (sIf (dOr (dNot (dTru (dIs (isTy "str") (dVar 0)))) (dNot (dT (dChain (CK.f .le) (CK.f .le) (dC (.int 1)) (dB fLen (dCons (dVar 0) (dNil))) (dC (.int 8)))))) (sRet (dC (.bl false))) (sNil))
  (sRet (dB fAll (dCons ((fun ρ => frz ((fLc (dItems (dVar 0)) (gSet 1) (dYes) (dCmp .in_ (dVar 1) (dC g_LETTERS)) [1]) ρ))) (dNil))))
def m_is_name : List DV → FO := runF [] 2 b_is_name
/-- find_kind(thing) -/
def b_find_kind : ENV → R Fl := sSeq (sIf (dOr (dNot (dTru (dIs (isTy "tuple") (dVar 0)))) (dOr (dNot (dT (dChain (CK.f .le) (CK.f .le) (dC (.int 1)) (dB fLen (dCons (dVar 0) (dNil))) (dC (.int 2))))) (dNot (dTru (dIs (isTy "str") (dIx (dVar 0) (dC (.int 0)))))))) (sRet (dC .non)) (sNil))
  (sSeq (sAsg (dIx (dVar 0) (dC (.int 0))) (gSet 1))
  (sSeq (sIf (dT (dCmp .eq (dB fLen (dCons (dVar 0) (dNil))) (dC (.int 1)))) (sRet (dGetK tab_SINGLE_WORDS (dVar 1))) (sNil))
  (sSeq (sAsg (dIx (dVar 0) (dC (.int 1))) (gSet 2))
  (sSeq (sIf (dT (dCmp .eq (dVar 1) (dC (.str "name")))) (sRet (dIf (dTru (dCall m_is_name (aVal (dVar 2) (aNil)))) (dC (.str "person")) (dC .non))) (sNil))
  (sSeq (sIf (dT (dCmp .eq (dVar 1) (dC (.str "place")))) (sRet (dIf (dTru (dCall m_is_name (aVal (dVar 2) (aNil)))) (dC (.str "place")) (dC .non))) (sNil))
  (sSeq (sIf (dNot (dTru (dCall m_is_whole (aVal (dVar 2) (aNil))))) (sRet (dC .non)) (sNil))
  (sSeq (sIf (dT (dCmp .eq (dVar 1) (dC (.str "date")))) (sRet (dC (.str "day"))) (sNil))
  (sSeq (sIf (dT (dCmp .in_ (dVar 1) (dC g_STEP_WORDS))) (sRet (dIf (dT (dChain (CK.f .le) (CK.f .le) (dNeg (dC g_MOST_STEP)) (dVar 2) (dC g_MOST_STEP))) (dC (.str "day")) (dC .non))) (sNil))
  (sSeq (sIf (dT (dCmp .in_ (dVar 1) (dC g_WEEKDAY_WORDS))) (sRet (dIf (dT (dChain (CK.f .le) (CK.f .le) (dC (.int 0)) (dVar 2) (dC (.int 6)))) (dC (.str "day")) (dC .non))) (sNil))
  (sRet (dC .non)))))))))))
def m_find_kind : List DV → FO := runF [] 3 b_find_kind
/-- kind_of(word) -/
def b_kind_of : ENV → R Fl := sSeq (sAsg (dCall m_find_kind (aVal (dVar 0) (aNil))) (gSet 1))
  (sSeq (sIf (dT (dCmp .isN (dVar 1) (dC .non))) (sRaise ⟨1, []⟩) (sNil))
  (sRet (dVar 1)))
def m_kind_of : List DV → FO := runF [] 2 b_kind_of
/-- check_word(word) -/
def b_check_word : ENV → R Fl := sSeq (sExpr (dCall m_kind_of (aVal (dVar 0) (aNil))))
  (sRet (dVar 0))
def m_check_word : List DV → FO := runF [] 1 b_check_word
/-- is_unknown(word) -/
def b_is_unknown : ENV → R Fl := sSeq (sExpr (dCall m_kind_of (aVal (dVar 0) (aNil))))
  (sRet (dCmp .in_ (dIx (dVar 0) (dC (.int 0))) (dC g_UNKNOWN)))
def m_is_unknown : List DV → FO := runF [] 1 b_is_unknown
/-- is_absolute(word) -/
def b_is_absolute : ENV → R Fl := sSeq (sExpr (dCall m_kind_of (aVal (dVar 0) (aNil))))
  (sRet (dCmp .in_ (dIx (dVar 0) (dC (.int 0))) (dTup (dCons (dC (.str "name")) (dCons (dC (.str "date")) (dCons (dC (.str "place")) (dNil)))))))
def m_is_absolute : List DV → FO := runF [] 1 b_is_absolute
/-- needs_report(word) -/
def b_needs_report : ENV → R Fl := sSeq (sExpr (dCall m_kind_of (aVal (dVar 0) (aNil))))
  (sRet (dCmp .in_ (dIx (dVar 0) (dC (.int 0))) (dC g_INNER_WORDS)))
def m_needs_report : List DV → FO := runF [] 1 b_needs_report
/-- _law_asked(_law_thing_here) -/
def b__law_asked : ENV → R Fl := sSeq (sOwn (fLst (dNil)) 1)
  (sSeq (sAsg (dC (.int 0)) (gSet 2))
  (sSeq (sTry subT (sApp 1 (dCall m_kind_of (aVal (dVar 0) (aNil)))) 1 (sAsg (dAdd (dVar 2) (dC (.int 1))) (gSet 2)))
  (sSeq (sTry subT (sApp 1 (dCall m_check_word (aVal (dVar 0) (aNil)))) 1 (sAsg (dAdd (dVar 2) (dC (.int 1))) (gSet 2)))
  (sSeq (sTry subT (sApp 1 (dCall m_is_unknown (aVal (dVar 0) (aNil)))) 1 (sAsg (dAdd (dVar 2) (dC (.int 1))) (gSet 2)))
  (sSeq (sTry subT (sApp 1 (dCall m_is_absolute (aVal (dVar 0) (aNil)))) 1 (sAsg (dAdd (dVar 2) (dC (.int 1))) (gSet 2)))
  (sSeq (sTry subT (sApp 1 (dCall m_needs_report (aVal (dVar 0) (aNil)))) 1 (sAsg (dAdd (dVar 2) (dC (.int 1))) (gSet 2)))
  (sRet (dLst (dCons (dVar 1) (dCons (dVar 2) (dNil)))))))))))
def m__law_asked : List DV → FO := runF [] 3 b__law_asked
/-- _law_unlike(_law_told, _law_due) -/
def b__law_unlike : ENV → R Fl := sRet (dIf (dTru (dVar 1)) (dCmp .notB (dVar 0) (dC (.bl true))) (dCmp .notB (dVar 0) (dC (.bl false))))
def m__law_unlike : List DV → FO := runF [] 2 b__law_unlike
/-- _law_inside(_law_word) -/
def b__law_inside : ENV → R Fl := sRet (dCmp .in_ (dIx (dVar 0) (dC (.int 0))) (dLst (dCons (dC (.str "self")) (dCons (dC (.str "told")) (dCons (dC (.str "that day")) (dCons (dC (.str "there")) (dCons (dC (.str "then coming")) (dCons (dC (.str "then last")) (dNil)))))))))
def m__law_inside : List DV → FO := runF [] 1 b__law_inside
/-- _law_right(_law_thing_here) -/
def b__law_right : ENV → R Fl := sSeq (sAsg (dCall m__law_kind (aVal (dVar 0) (aNil))) (gSet 1))
  (sSeq (sIf (dT (dCmp .ne (dCall m_find_kind (aVal (dVar 0) (aNil))) (dVar 1))) (sRet (dC (.bl false))) (sNil))
  (sSeq (sAsg (dCall m__law_asked (aVal (dVar 0) (aNil))) (gSeq 2 (gsCons (gSet 2) (gsCons (gSet 3) (gsNil)))))
  (sSeq (sIf (dT (dCmp .isN (dVar 1) (dC .non))) (sRet (dAndV (dCmp .eq (dVar 2) (dLst (dNil))) (dCmp .eq (dVar 3) (dC (.int 5))))) (sNil))
  (sSeq (sIf (dOr (dT (dCmp .ne (dVar 3) (dC (.int 0)))) (dOr (dT (dCmp .ne (dIx (dVar 2) (dC (.int 0))) (dVar 1))) (dOr (dT (dCmp .ne (dIx (dVar 2) (dC (.int 1))) (dVar 0))) (dNot (dTru (dIs (isTy "tuple") (dIx (dVar 2) (dC (.int 1))))))))) (sRet (dC (.bl false))) (sNil))
  (sSeq (sIf (dOr (dT (dCmp .ne (dIx (dVar 2) (dC (.int 1))) (dB fTuple (dCons (dVar 0) (dNil))))) (dT (dCmp .ne (dB fRepr (dCons (dIx (dIx (dVar 2) (dC (.int 1))) (dNeg (dC (.int 1)))) (dNil))) (dB fRepr (dCons (dIx (dVar 0) (dNeg (dC (.int 1)))) (dNil)))))) (sRet (dC (.bl false))) (sNil))
  (sSeq (sFor (dItems (dLst (dCons (dTup (dCons (dIx (dVar 2) (dC (.int 2))) (dCons (dCmp .in_ (dIx (dVar 0) (dC (.int 0))) (dLst (dCons (dC (.str "somebody")) (dCons (dC (.str "one day")) (dCons (dC (.str "somewhere")) (dNil)))))) (dNil)))) (dCons (dTup (dCons (dIx (dVar 2) (dC (.int 3))) (dCons (dCmp .in_ (dIx (dVar 0) (dC (.int 0))) (dLst (dCons (dC (.str "name")) (dCons (dC (.str "date")) (dCons (dC (.str "place")) (dNil)))))) (dNil)))) (dCons (dTup (dCons (dIx (dVar 2) (dC (.int 4))) (dCons (dCall m__law_inside (aVal (dVar 0) (aNil))) (dNil)))) (dNil)))))) (gSeq 2 (gsCons (gSet 4) (gsCons (gSet 5) (gsNil)))) (sIf (dTru (dCall m__law_unlike (aVal (dVar 4) (aVal (dVar 5) (aNil))))) (sRet (dC (.bl false))) (sNil)))
  (sRet (dC (.bl true)))))))))
def m__law_right : List DV → FO := runF [] 6 b__law_right
/-- _law_odd_word(_law_hand_here) -/
def b__law_odd_word : ENV → R Fl := sSeq (sAsg (dCall m__law_take (aIo 0 (aVal (dC (.int 20)) (aNil)))) (gSet 1))
  (sSeq (sIf (dT (dCmp .lt (dVar 1) (dC (.int 10)))) (sRet (dIx (dLst (dCons (dC .non) (dCons (dC (.bl true)) (dCons (dC (.int 3)) (dCons (dC (.str "I")) (dCons (dLst (dCons (dC (.str "I")) (dNil))) (dCons (dTup (dCons (dC (.str "I")) (dCons (dC (.str "I")) (dNil)))) (dCons (dTup (dNil)) (dCons (dTup (dCons (dC (.str "it")) (dNil))) (dCons (dTup (dCons (dC (.str "today")) (dNil))) (dCons (dTup (dCons (dC (.str "today")) (dCons (dC (.int 31)) (dNil)))) (dNil)))))))))))) (dVar 1))) (sNil))
  (sSeq (sIf (dT (dCmp .lt (dVar 1) (dC (.int 15)))) (sRet (dIx (dLst (dCons (dTup (dCons (dC (.str "that day")) (dCons (dNeg (dC (.int 31))) (dNil)))) (dCons (dTup (dCons (dC (.str "coming")) (dCons (dC (.int 7)) (dNil)))) (dCons (dTup (dCons (dC (.str "last")) (dCons (dNeg (dC (.int 1))) (dNil)))) (dCons (dTup (dCons (dC (.str "date")) (dCons (dC (.str "1")) (dNil)))) (dCons (dTup (dCons (dC (.str "name")) (dCons (dC (.str "Ann")) (dNil)))) (dNil))))))) (dSub (dVar 1) (dC (.int 10))))) (sNil))
  (sRet (dIx (dLst (dCons (dTup (dCons (dC (.str "place")) (dCons (dC (.str "")) (dNil)))) (dCons (dTup (dCons (dC (.str "name")) (dCons (dC (.str "abcdefghi")) (dNil)))) (dCons (dTup (dCons (dC (.str "today")) (dCons (dC .non) (dNil)))) (dCons (dTup (dCons (dC (.int 1)) (dNil))) (dCons (dTup (dCons (dC (.str "here")) (dCons (dC (.int 0)) (dNil)))) (dNil))))))) (dSub (dVar 1) (dC (.int 15)))))))
def m__law_odd_word : List DV → FO := runF [0] 2 b__law_odd_word
/-- _law_thing(_law_hand_here) -/
def b__law_thing : ENV → R Fl := sSeq (sAsg (dLst (dCons (dC (.str "I")) (dCons (dC (.str "you")) (dCons (dC (.str "self")) (dCons (dC (.str "told")) (dCons (dC (.str "somebody")) (dCons (dC (.str "one day")) (dCons (dC (.str "here")) (dCons (dC (.str "there")) (dCons (dC (.str "somewhere")) (dNil))))))))))) (gSet 1))
  (sSeq (sAsg (dLst (dCons (dC (.str "name")) (dCons (dC (.str "place")) (dCons (dC (.str "date")) (dCons (dC (.str "today")) (dCons (dC (.str "that day")) (dCons (dC (.str "coming")) (dCons (dC (.str "last")) (dCons (dC (.str "then coming")) (dCons (dC (.str "then last")) (dNil))))))))))) (gSet 2))
  (sSeq (sAsg (dCall m__law_take (aIo 0 (aVal (dC (.int 12)) (aNil)))) (gSet 3))
  (sSeq (sIf (dT (dCmp .eq (dVar 3) (dC (.int 0)))) (sRet (dTup (dCons (dIx (dVar 1) (dCall m__law_take (aIo 0 (aVal (dC (.int 9)) (aNil))))) (dNil)))) (sNil))
  (sSeq (sIf (dT (dCmp .eq (dVar 3) (dC (.int 1)))) (sRet (dCall m__law_odd_word (aIo 0 (aNil)))) (sNil))
  (sSeq (sAsg (dIf (dT (dCmp .lt (dVar 3) (dC (.int 4)))) (dIx (dAdd (dAdd (dVar 2) (dVar 1)) (dLst (dCons (dC (.str "tomorrow")) (dCons (dC (.str "")) (dCons (dC (.str "i")) (dNil)))))) (dCall m__law_take (aIo 0 (aVal (dC (.int 21)) (aNil))))) (dIx (dVar 2) (dCall m__law_take (aIo 0 (aVal (dC (.int 9)) (aNil)))))) (gSet 4))
  (sSeq (sAsg (dCall m__law_name (aIo 0 (aNil))) (gSet 5))
  (sSeq (sAsg (dLst (dCons (dSub (dCall m__law_take (aIo 0 (aVal (dC (.int 15)) (aNil)))) (dC (.int 4))) (dCons (dSub (dCall m__law_take (aIo 0 (aVal (dC (.int 67)) (aNil)))) (dC (.int 33))) (dCons (dSub (dCall m__law_take (aIo 0 (aVal (dMul (dC (.int 2)) (dPow (dC (.int 10)) (dC (.int 40)))) (aNil)))) (dPow (dC (.int 10)) (dC (.int 40)))) (dNil))))) (gSet 6))
  (sSeq (sAsg (dLst (dCons (dVar 5) (dCons (dVar 5) (dCons (dC (.int 30)) (dCons (dNeg (dC (.int 30))) (dCons (dC (.int 31)) (dCons (dC (.int 6)) (dCons (dC (.bl true)) (dCons (dAdd (dVar 5) (dC (.str "a"))) (dCons (dC .non) (dCons (dSl (dVar 5) (dNoPart) (dPart (dNeg (dC (.int 1))))) (dCons (dAdd (dC (.str "A")) (dSl (dVar 5) (dPart (dC (.int 1))) (dNoPart))) (dCons (dLst (dCons (dC (.int 1)) (dNil))) (dCons (dC (.int 0)) (dCons (dAdd (dVar 5) (dC (.str " "))) (dNil)))))))))))))))) (gSet 7))
  (sSeq (sAsg (dIx (dAdd (dVar 6) (dVar 7)) (dCall m__law_take (aIo 0 (aVal (dC (.int 17)) (aNil))))) (gSet 8))
  (sSeq (sIf (dT (dCmp .eq (dVar 3) (dC (.int 2)))) (sRet (dLst (dCons (dVar 4) (dCons (dVar 8) (dNil))))) (sNil))
  (sRet (dIf (dT (dCmp .eq (dVar 3) (dC (.int 3)))) (dTup (dCons (dVar 4) (dCons (dVar 8) (dCons (dVar 8) (dNil))))) (dTup (dCons (dVar 4) (dCons (dVar 8) (dNil))))))))))))))))
def m__law_thing : List DV → FO := runF [0] 9 b__law_thing
/-- law(_law_script) -/
def b_law : ENV → R Fl := sSeq (sOwn (fCall m__law_hand (aVal (dVar 0) (aNil))) 1)
  (sSeq (sFor (dRng1 (dC (.int 24))) (gSet 2) (sIf (dNot (dTru (dCall m__law_right (aVal (dCall m__law_thing (aIo 1 (aNil))) (aNil))))) (sRet (dC (.bl false))) (sNil)))
  (sSeq (sFor (dRng2 (dNeg (dC (.int 1))) (dC (.int 8))) (gSet 3) (sFor (dItems (dLst (dCons (dC (.str "coming")) (dCons (dC (.str "last")) (dCons (dC (.str "then coming")) (dCons (dC (.str "then last")) (dNil))))))) (gSet 4) (sIf (dNot (dTru (dCall m__law_right (aVal (dTup (dCons (dVar 4) (dCons (dVar 3) (dNil)))) (aNil))))) (sRet (dC (.bl false))) (sNil))))
  (sSeq (sFor (dRng2 (dNeg (dC (.int 32))) (dC (.int 33))) (gSet 5) (sIf (dOr (dNot (dTru (dCall m__law_right (aVal (dTup (dCons (dC (.str "today")) (dCons (dVar 5) (dNil)))) (aNil))))) (dNot (dTru (dCall m__law_right (aVal (dTup (dCons (dC (.str "that day")) (dCons (dVar 5) (dNil)))) (aNil)))))) (sRet (dC (.bl false))) (sNil)))
  (sSeq (sFor (dItems (dLst (dCons (dC (.str "I")) (dCons (dC (.str "you")) (dCons (dC (.str "self")) (dCons (dC (.str "told")) (dCons (dC (.str "somebody")) (dCons (dC (.str "one day")) (dCons (dC (.str "here")) (dCons (dC (.str "there")) (dCons (dC (.str "somewhere")) (dCons (dC (.str "today")) (dCons (dC (.str "name")) (dCons (dC (.str "date")) (dNil))))))))))))))) (gSet 4) (sIf (dOr (dNot (dTru (dCall m__law_right (aVal (dTup (dCons (dVar 4) (dNil))) (aNil))))) (dOr (dNot (dTru (dCall m__law_right (aVal (dLst (dCons (dVar 4) (dNil))) (aNil))))) (dNot (dTru (dCall m__law_right (aVal (dVar 4) (aNil))))))) (sRet (dC (.bl false))) (sNil)))
  (sSeq (sAsg (dSub (dCall m__law_take (aIo 1 (aVal (dMul (dC (.int 2)) (dPow (dC (.int 10)) (dC (.int 40)))) (aNil)))) (dPow (dC (.int 10)) (dC (.int 40)))) (gSet 6))
  (sSeq (sFor (dItems (dLst (dCons (dVar 6) (dCons (dC (.int 0)) (dCons (dC (.int 1)) (dCons (dNeg (dC (.int 1))) (dCons (dC (.bl true)) (dCons (dC (.bl false)) (dCons (dC .non) (dCons (dC (.str "1")) (dCons (dTup (dCons (dC (.int 1)) (dNil))) (dCons (dLst (dNil)) (dCons (dCall m__law_name (aIo 1 (aNil))) (dNil)))))))))))))) (gSet 7) (sSeq (sAsg (dCall m__law_whole (aVal (dVar 7) (aNil))) (gSet 8))
  (sIf (dOr (dTru (dCall m__law_unlike (aVal (dCall m_is_whole (aVal (dVar 7) (aNil))) (aVal (dVar 8) (aNil))))) (dTru (dCall m__law_unlike (aVal (dCall m_is_name (aVal (dVar 7) (aNil))) (aVal (dCall m__law_letters (aVal (dVar 7) (aNil))) (aNil)))))) (sRet (dC (.bl false))) (sNil))))
  (sSeq (sAsg (dCall m__law_name (aIo 1 (aNil))) (gSet 9))
  (sSeq (sFor (dItems (dLst (dCons (dVar 9) (dCons (dAdd (dVar 9) (dC (.str "abcdefgh"))) (dCons (dAdd (dVar 9) (dC (.str "-"))) (dCons (dAdd (dC (.str "A")) (dVar 9)) (dCons (dC (.str "")) (dCons (dOp vMulS (dIx (dVar 9) (dC (.int 0))) (dC (.int 8))) (dCons (dOp vMulS (dIx (dVar 9) (dC (.int 0))) (dC (.int 9))) (dCons (dAdd (dC (.str " ")) (dVar 9)) (dCons (dTup (dCons (dVar 9) (dNil))) (dCons (dC (.str "1")) (dNil))))))))))))) (gSet 7) (sIf (dOr (dTru (dCall m__law_unlike (aVal (dCall m_is_name (aVal (dVar 7) (aNil))) (aVal (dCall m__law_letters (aVal (dVar 7) (aNil))) (aNil))))) (dTru (dCall m__law_unlike (aVal (dCall m_is_whole (aVal (dVar 7) (aNil))) (aVal (dC (.bl false)) (aNil)))))) (sRet (dC (.bl false))) (sNil)))
  (sRet (dC (.bl true)))))))))))
def m_law : List DV → FO := runF [] 10 b_law
end L01
set_option Elab.async false
set_option linter.all false
set_option maxRecDepth 100000
namespace L01
open PySem L2 Rf
/-! ### the hand -/
def hnd (cs : List Int) (a b t : Int) : M := .lst [.lst (cs.map D.int), .int a, .int b, .int t]
structure HandOk (cs : List Int) (a b t : Int) : Prop where
  len : cs.length ≤ 63
  pos : ∀ c ∈ cs, 0 ≤ c
  a0 : 0 ≤ a
  al : a ≤ cs.length
  b0 : 0 ≤ b
  t0 : 0 ≤ t
  tl : t < 2147483629
def Good (m : M) : Prop := ∃ cs a b t, m = hnd cs a b t ∧ HandOk cs a b t
def mixN (n t : Int) : Int :=
  let once := (n * 48271 + t * 7919 + 12345) % 2147483647
  let twice := (once * once + t * 104729 + once / 127) % 2147483629
  ((twice * 69621 + once / 3) % 2147483587) / 8
theorem cMul_r {i j : Int} (h : j.natAbs < 2 ^ 64) : cMul i j = true := by unfold cMul; simp only [h, decide_true, Bool.or_true, Bool.true_or]
theorem cMul_l {i j : Int} (h : i.natAbs < 2 ^ 64) : cMul i j = true := by unfold cMul; simp only [h, decide_true, Bool.or_true, Bool.true_or]
theorem cMod_p {i j : Int} (h : 0 < j) : cMod i j = true := by unfold cMod; exact decide_eq_true h
theorem cDiv_p {i j : Int} (h : 0 < j) (h9 : j.natAbs.log2 < 9000) : cDiv i j = true := by unfold cDiv; simp only [h, h9, decide_true, Bool.and_self]
theorem mixed_eq (n t : Int) : m__law_mixed [.sh (.int n), .sh (.int t)] = .ok (.sh (.int (mixN n t))) [] := by
  have h0 := Int.emod_nonneg (n * 48271 + t * 7919 + 12345) (show (2147483647 : Int) ≠ 0 by decide)
  have h1 := Int.emod_lt_of_pos (n * 48271 + t * 7919 + 12345) (show (0 : Int) < 2147483647 by decide)
  have c1 : ∀ i : Int, cMul i 48271 = true := fun i => cMul_r (by decide)
  have c2 : ∀ i : Int, cMul i 7919 = true := fun i => cMul_r (by decide)
  have c3 : ∀ i : Int, cMul i 104729 = true := fun i => cMul_r (by decide)
  have c4 : ∀ i : Int, cMul i 69621 = true := fun i => cMul_r (by decide)
  have c5 : cMul ((n * 48271 + t * 7919 + 12345) % 2147483647) ((n * 48271 + t * 7919 + 12345) % 2147483647) = true := cMul_r (by omega)
  have m1 : ∀ i : Int, cMod i 2147483647 = true := fun i => rfl
  have m2 : ∀ i : Int, cMod i 2147483629 = true := fun i => rfl
  have m3 : ∀ i : Int, cMod i 2147483587 = true := fun i => rfl
  have v1 : ∀ i : Int, cDiv i 127 = true := fun i => cDiv_p (by decide) (by decide)
  have v2 : ∀ i : Int, cDiv i 3 = true := fun i => cDiv_p (by decide) (by decide)
  have v3 : ∀ i : Int, cDiv i 8 = true := fun i => cDiv_p (by decide) (by decide)
  unfold m__law_mixed
  refine (e_run [] 4 _ _ rfl).trans ?_
  unfold b__law_mixed
  simp only [startE, List.map, List.length, List.replicate, e_Seq, e_Asg, e_Ret, e_RetF, e_Expr, e_exprK, e_op, e_op2, e_op1, e_un, e_is, e_B, e_bK, e_Cons, e_consK, e_consK2, e_Nil, e_var, e_C, e_bind, e_bindX, e_bindB, e_lookS, e_lookO, M.toD, e_of, e_asgK, e_gSet, e_stK, e_sqN, e_sqR, e_sqB, e_sqC, e_sNil, e_retK, e_retFK, e_add, e_vI, e_neg, e_fInt, e_fIntB, e_sIf, e_sifT, e_sifF, e_T, e_toB, e_Tru, e_truB, e_And, e_Or, e_andT, e_andF, e_orT, e_orF, e_Not, e_notK, e_AndV, e_OrV, e_andVT, e_andVF, e_orVT, e_orVF, e_NotV, e_notVK, e_If, e_ifT, e_ifF, e_Tup, e_Lst, e_LstF, e_tup0, e_lst0, e_lstF0, e_eqI, e_neI, e_ltI, e_leI, e_gtI, e_geI, e_lenL, e_lenT, e_lenR, e_lenS, e_ixL, e_ixT, at0, at1, at2, at3, e_tupL, e_tupT, e_lstT, e_Own, e_ownK, e_Sub, e_For, e_Items, e_itL, e_itT, e_itR, e_Call, e_CallF, e_aNil, e_aVal, e_aVK, e_aVK2, step0, step1, step2, step3, out0, out1, out2, out3, outX1, outX2, outO1, outO2, outO3, e_onSh, e_onOw, decide_true, decide_false, Bool.not_true, Bool.not_false, List.cons_append, List.nil_append, List.getElem?_cons_zero, List.getElem?_cons_succ, List.set_cons_zero, List.set_cons_succ, Nat.reduceLT, Nat.reduceAdd, Nat.reduceSub, Option.map_some, finF, outsE, e_frz, d_rng7, e_forK, e_tnN, e_tnC, e_tnB, e_tnR, e_whT, e_whF, e_Raise, e_Par, e_parK, e_parK2, e_augK, e_Ch, e_chK1, e_chK2, e_chT, e_chF, e_Try, e_tryO, e_tru, e_While, e_abs, e_max2, e_min2, e_gSq2, e_tup1, e_lst1, e_tup2, e_lst2, e_tup3, e_lst3, e_tup4, e_lst4, e_tup5, e_lst5, e_tup6, e_lst6, e_tup7, e_lst7, e_tup8, e_lst8, e_vIc, c1, c2, c3, c4, c5, m1, m2, m3, v1, v2, v3, mixN]
/-- which way a number is taken -/
theorem take_ok {m : M} {n : Int} (hm : Good m) (hn : 0 < n) (h9 : n.natAbs.log2 < 9000) : ∃ r m', m__law_take [.ow m, .sh (.int n)] = .ok (.sh (.int r)) [m'] ∧ Good m' ∧ 0 ≤ r ∧ r < n := by
  obtain ⟨cs, a, b, t, rfl, H⟩ := hm
  have hmod : ∀ x : Int, 0 ≤ x % n ∧ x % n < n := fun x => ⟨Int.emod_nonneg x (by omega), Int.emod_lt_of_pos x hn⟩
  have c1 : ∀ i : Int, cMod i n = true := fun i => cMod_p hn
  have c2 : ∀ i : Int, cDiv i n = true := fun i => cDiv_p hn h9
  have m1 : ∀ i : Int, cMod i 2147483647 = true := fun i => rfl
  have m2 : ∀ i : Int, cMod i 2147483629 = true := fun i => rfl
  have p1 : cPow 10 18 = true := by decide
  have hb0 := H.b0
  by_cases hb : b = 0
  · subst hb
    by_cases ha : a < (cs.length : Int)
    · have hal : a.toNat < cs.length := by have := H.a0; omega
      have hc : L2.atI (cs.map D.int) a = some (.int (cs[a.toNat])) := atN H.a0 (by rw [List.getElem?_map, List.getElem?_eq_getElem hal]; rfl)
      have hcp : 0 ≤ cs[a.toNat] := H.pos _ (List.getElem_mem hal)
      generalize hcv : cs[a.toNat] = c at hc hcp
      have hae : a < ((cs.map D.int).length : Int) := by rw [List.length_map]; exact ha
      have H1 : HandOk cs (a + 1) 0 t := ⟨H.len, H.pos, by have := H.a0; omega, by omega, by omega, H.t0, H.tl⟩
      by_cases h18 : c < 10 ^ 18
      · refine ⟨mixN (c % 2147483647) (a + 1) % n, hnd cs (a + 1) 0 t, ?_, ⟨cs, a + 1, 0, t, rfl, H1⟩, (hmod _).1, (hmod _).2⟩
        unfold m__law_take
        refine (e_run [0] 4 _ _ rfl).trans ?_
        unfold b__law_take
        simp only [startE, List.map, List.length, List.replicate, e_Seq, e_Asg, e_Ret, e_RetF, e_Expr, e_exprK, e_op, e_op2, e_op1, e_un, e_is, e_B, e_bK, e_Cons, e_consK, e_consK2, e_Nil, e_var, e_C, e_bind, e_bindX, e_bindB, e_lookS, e_lookO, M.toD, e_of, e_asgK, e_gSet, e_stK, e_sqN, e_sqR, e_sqB, e_sqC, e_sNil, e_retK, e_retFK, e_add, e_vI, e_neg, e_fInt, e_fIntB, e_sIf, e_sifT, e_sifF, e_T, e_toB, e_Tru, e_truB, e_And, e_Or, e_andT, e_andF, e_orT, e_orF, e_Not, e_notK, e_AndV, e_OrV, e_andVT, e_andVF, e_orVT, e_orVF, e_NotV, e_notVK, e_If, e_ifT, e_ifF, e_Tup, e_Lst, e_LstF, e_tup0, e_lst0, e_lstF0, e_eqI, e_neI, e_ltI, e_leI, e_gtI, e_geI, e_lenL, e_lenT, e_lenR, e_lenS, e_ixL, e_ixT, at0, at1, at2, at3, e_tupL, e_tupT, e_lstT, e_Own, e_ownK, e_Sub, e_For, e_Items, e_itL, e_itT, e_itR, e_Call, e_CallF, e_aNil, e_aVal, e_aVK, e_aVK2, step0, step1, step2, step3, out0, out1, out2, out3, outX1, outX2, outO1, outO2, outO3, e_onSh, e_onOw, decide_true, decide_false, Bool.not_true, Bool.not_false, List.cons_append, List.nil_append, List.getElem?_cons_zero, List.getElem?_cons_succ, List.set_cons_zero, List.set_cons_succ, Nat.reduceLT, Nat.reduceAdd, Nat.reduceSub, Option.map_some, finF, outsE, e_frz, d_rng7, e_forK, e_tnN, e_tnC, e_tnB, e_tnR, e_whT, e_whF, e_Raise, e_Par, e_parK, e_parK2, e_augK, e_Ch, e_chK1, e_chK2, e_chT, e_chF, e_Try, e_tryO, e_tru, e_While, e_abs, e_max2, e_min2, e_gSq2, e_tup1, e_lst1, e_tup2, e_lst2, e_tup3, e_lst3, e_tup4, e_lst4, e_tup5, e_lst5, e_tup6, e_lst6, e_tup7, e_lst7, e_tup8, e_lst8, hnd, e_ixO (ds := [D.lst (List.map D.int cs), D.int a, D.int 0, D.int t]), e_ixO2 (ds := [D.lst (List.map D.int cs), D.int a, D.int 0, D.int t]), beq_self_eq_true, hae, hc, e_vIc, p1, c1, c2, m1, m2, h18,
          e_subK (ds := [D.lst (List.map D.int cs), D.int a, D.int 0, D.int t]), e_ixO (ds := [D.lst (List.map D.int cs), D.int (a + 1), D.int 0, D.int t]), e_ixO2 (ds := [D.lst (List.map D.int cs), D.int (a + 1), D.int 0, D.int t]), mixed_eq, Int.reduceLE, Int.toNat_one, Int.reduceLT, Int.reduceToNat, Int.cast_ofNat_Int, List.length_cons, List.length_nil]
      · have hc0 : 0 < c := by omega
        have H2 : HandOk cs (a + 1) (c / n) t := ⟨H.len, H.pos, by have := H.a0; omega, by omega, Int.ediv_nonneg hcp (by omega), H.t0, H.tl⟩
        refine ⟨c % n, hnd cs (a + 1) (c / n) t, ?_, ⟨cs, a + 1, _, t, rfl, H2⟩, (hmod _).1, (hmod _).2⟩
        unfold m__law_take
        refine (e_run [0] 4 _ _ rfl).trans ?_
        unfold b__law_take
        simp only [startE, List.map, List.length, List.replicate, e_Seq, e_Asg, e_Ret, e_RetF, e_Expr, e_exprK, e_op, e_op2, e_op1, e_un, e_is, e_B, e_bK, e_Cons, e_consK, e_consK2, e_Nil, e_var, e_C, e_bind, e_bindX, e_bindB, e_lookS, e_lookO, M.toD, e_of, e_asgK, e_gSet, e_stK, e_sqN, e_sqR, e_sqB, e_sqC, e_sNil, e_retK, e_retFK, e_add, e_vI, e_neg, e_fInt, e_fIntB, e_sIf, e_sifT, e_sifF, e_T, e_toB, e_Tru, e_truB, e_And, e_Or, e_andT, e_andF, e_orT, e_orF, e_Not, e_notK, e_AndV, e_OrV, e_andVT, e_andVF, e_orVT, e_orVF, e_NotV, e_notVK, e_If, e_ifT, e_ifF, e_Tup, e_Lst, e_LstF, e_tup0, e_lst0, e_lstF0, e_eqI, e_neI, e_ltI, e_leI, e_gtI, e_geI, e_lenL, e_lenT, e_lenR, e_lenS, e_ixL, e_ixT, at0, at1, at2, at3, e_tupL, e_tupT, e_lstT, e_Own, e_ownK, e_Sub, e_For, e_Items, e_itL, e_itT, e_itR, e_Call, e_CallF, e_aNil, e_aVal, e_aVK, e_aVK2, step0, step1, step2, step3, out0, out1, out2, out3, outX1, outX2, outO1, outO2, outO3, e_onSh, e_onOw, decide_true, decide_false, Bool.not_true, Bool.not_false, List.cons_append, List.nil_append, List.getElem?_cons_zero, List.getElem?_cons_succ, List.set_cons_zero, List.set_cons_succ, Nat.reduceLT, Nat.reduceAdd, Nat.reduceSub, Option.map_some, finF, outsE, e_frz, d_rng7, e_forK, e_tnN, e_tnC, e_tnB, e_tnR, e_whT, e_whF, e_Raise, e_Par, e_parK, e_parK2, e_augK, e_Ch, e_chK1, e_chK2, e_chT, e_chF, e_Try, e_tryO, e_tru, e_While, e_abs, e_max2, e_min2, e_gSq2, e_tup1, e_lst1, e_tup2, e_lst2, e_tup3, e_lst3, e_tup4, e_lst4, e_tup5, e_lst5, e_tup6, e_lst6, e_tup7, e_lst7, e_tup8, e_lst8, hnd, e_ixO (ds := [D.lst (List.map D.int cs), D.int a, D.int 0, D.int t]), e_ixO2 (ds := [D.lst (List.map D.int cs), D.int a, D.int 0, D.int t]), beq_self_eq_true, hae, hc, e_vIc, p1, c1, c2, m1, m2, h18,
          e_subK (ds := [D.lst (List.map D.int cs), D.int a, D.int 0, D.int t]), e_ixO (ds := [D.lst (List.map D.int cs), D.int (a + 1), D.int 0, D.int t]), e_ixO2 (ds := [D.lst (List.map D.int cs), D.int (a + 1), D.int 0, D.int t]), mixed_eq, Int.reduceLE, Int.toNat_one, Int.reduceLT, Int.reduceToNat, Int.cast_ofNat_Int, List.length_cons, List.length_nil, hc0, e_ixO (ds := [D.lst (List.map D.int cs), D.int (a + 1), D.int c, D.int t]), e_ixO2 (ds := [D.lst (List.map D.int cs), D.int (a + 1), D.int c, D.int t]),
          e_subK (ds := [D.lst (List.map D.int cs), D.int (a + 1), D.int 0, D.int t]), e_subK (ds := [D.lst (List.map D.int cs), D.int (a + 1), D.int c, D.int t])]
    · have hae : ¬ a < ((cs.map D.int).length : Int) := by rw [List.length_map]; exact ha
      have z0 : ¬ ((0 : Int) < 0) := by decide
      have H3 : HandOk cs a 0 ((t + 1) % 2147483629) := ⟨H.len, H.pos, H.a0, H.al, by omega, Int.emod_nonneg _ (by decide), Int.emod_lt_of_pos _ (by decide)⟩
      refine ⟨mixN ((t + 1) % 2147483629) a % n, hnd cs a 0 ((t + 1) % 2147483629), ?_, ⟨cs, a, 0, _, rfl, H3⟩, (hmod _).1, (hmod _).2⟩
      unfold m__law_take
      refine (e_run [0] 4 _ _ rfl).trans ?_
      unfold b__law_take
      simp only [startE, List.map, List.length, List.replicate, e_Seq, e_Asg, e_Ret, e_RetF, e_Expr, e_exprK, e_op, e_op2, e_op1, e_un, e_is, e_B, e_bK, e_Cons, e_consK, e_consK2, e_Nil, e_var, e_C, e_bind, e_bindX, e_bindB, e_lookS, e_lookO, M.toD, e_of, e_asgK, e_gSet, e_stK, e_sqN, e_sqR, e_sqB, e_sqC, e_sNil, e_retK, e_retFK, e_add, e_vI, e_neg, e_fInt, e_fIntB, e_sIf, e_sifT, e_sifF, e_T, e_toB, e_Tru, e_truB, e_And, e_Or, e_andT, e_andF, e_orT, e_orF, e_Not, e_notK, e_AndV, e_OrV, e_andVT, e_andVF, e_orVT, e_orVF, e_NotV, e_notVK, e_If, e_ifT, e_ifF, e_Tup, e_Lst, e_LstF, e_tup0, e_lst0, e_lstF0, e_eqI, e_neI, e_ltI, e_leI, e_gtI, e_geI, e_lenL, e_lenT, e_lenR, e_lenS, e_ixL, e_ixT, at0, at1, at2, at3, e_tupL, e_tupT, e_lstT, e_Own, e_ownK, e_Sub, e_For, e_Items, e_itL, e_itT, e_itR, e_Call, e_CallF, e_aNil, e_aVal, e_aVK, e_aVK2, step0, step1, step2, step3, out0, out1, out2, out3, outX1, outX2, outO1, outO2, outO3, e_onSh, e_onOw, decide_true, decide_false, Bool.not_true, Bool.not_false, List.cons_append, List.nil_append, List.getElem?_cons_zero, List.getElem?_cons_succ, List.set_cons_zero, List.set_cons_succ, Nat.reduceLT, Nat.reduceAdd, Nat.reduceSub, Option.map_some, finF, outsE, e_frz, d_rng7, e_forK, e_tnN, e_tnC, e_tnB, e_tnR, e_whT, e_whF, e_Raise, e_Par, e_parK, e_parK2, e_augK, e_Ch, e_chK1, e_chK2, e_chT, e_chF, e_Try, e_tryO, e_tru, e_While, e_abs, e_max2, e_min2, e_gSq2, e_tup1, e_lst1, e_tup2, e_lst2, e_tup3, e_lst3, e_tup4, e_lst4, e_tup5, e_lst5, e_tup6, e_lst6, e_tup7, e_lst7, e_tup8, e_lst8, hnd, e_ixO (ds := [D.lst (List.map D.int cs), D.int a, D.int 0, D.int t]), e_ixO2 (ds := [D.lst (List.map D.int cs), D.int a, D.int 0, D.int t]), beq_self_eq_true, hae, z0, e_vIc, c1, c2, m1, m2,
        e_subK (ds := [D.lst (List.map D.int cs), D.int a, D.int 0, D.int t]), e_ixO (ds := [D.lst (List.map D.int cs), D.int a, D.int 0, D.int ((t + 1) % 2147483629)]), e_ixO2 (ds := [D.lst (List.map D.int cs), D.int a, D.int 0, D.int ((t + 1) % 2147483629)]), mixed_eq, Int.reduceLE, Int.toNat_one, Int.reduceLT, Int.reduceToNat, Int.cast_ofNat_Int, List.length_cons, List.length_nil]
  · have hbe : (b == 0) = false := beq_false_of_ne hb
    have hb1 : 0 < b := by omega
    have H2 : HandOk cs a (b / n) t := ⟨H.len, H.pos, H.a0, H.al, Int.ediv_nonneg hb0 (by omega), H.t0, H.tl⟩
    refine ⟨b % n, hnd cs a (b / n) t, ?_, ⟨cs, a, _, t, rfl, H2⟩, (hmod _).1, (hmod _).2⟩
    unfold m__law_take
    refine (e_run [0] 4 _ _ rfl).trans ?_
    unfold b__law_take
    simp only [startE, List.map, List.length, List.replicate, e_Seq, e_Asg, e_Ret, e_RetF, e_Expr, e_exprK, e_op, e_op2, e_op1, e_un, e_is, e_B, e_bK, e_Cons, e_consK, e_consK2, e_Nil, e_var, e_C, e_bind, e_bindX, e_bindB, e_lookS, e_lookO, M.toD, e_of, e_asgK, e_gSet, e_stK, e_sqN, e_sqR, e_sqB, e_sqC, e_sNil, e_retK, e_retFK, e_add, e_vI, e_neg, e_fInt, e_fIntB, e_sIf, e_sifT, e_sifF, e_T, e_toB, e_Tru, e_truB, e_And, e_Or, e_andT, e_andF, e_orT, e_orF, e_Not, e_notK, e_AndV, e_OrV, e_andVT, e_andVF, e_orVT, e_orVF, e_NotV, e_notVK, e_If, e_ifT, e_ifF, e_Tup, e_Lst, e_LstF, e_tup0, e_lst0, e_lstF0, e_eqI, e_neI, e_ltI, e_leI, e_gtI, e_geI, e_lenL, e_lenT, e_lenR, e_lenS, e_ixL, e_ixT, at0, at1, at2, at3, e_tupL, e_tupT, e_lstT, e_Own, e_ownK, e_Sub, e_For, e_Items, e_itL, e_itT, e_itR, e_Call, e_CallF, e_aNil, e_aVal, e_aVK, e_aVK2, step0, step1, step2, step3, out0, out1, out2, out3, outX1, outX2, outO1, outO2, outO3, e_onSh, e_onOw, decide_true, decide_false, Bool.not_true, Bool.not_false, List.cons_append, List.nil_append, List.getElem?_cons_zero, List.getElem?_cons_succ, List.set_cons_zero, List.set_cons_succ, Nat.reduceLT, Nat.reduceAdd, Nat.reduceSub, Option.map_some, finF, outsE, e_frz, d_rng7, e_forK, e_tnN, e_tnC, e_tnB, e_tnR, e_whT, e_whF, e_Raise, e_Par, e_parK, e_parK2, e_augK, e_Ch, e_chK1, e_chK2, e_chT, e_chF, e_Try, e_tryO, e_tru, e_While, e_abs, e_max2, e_min2, e_gSq2, e_tup1, e_lst1, e_tup2, e_lst2, e_tup3, e_lst3, e_tup4, e_lst4, e_tup5, e_lst5, e_tup6, e_lst6, e_tup7, e_lst7, e_tup8, e_lst8, hnd, e_ixO (ds := [D.lst (List.map D.int cs), D.int a, D.int b, D.int t]), e_ixO2 (ds := [D.lst (List.map D.int cs), D.int a, D.int b, D.int t]), hbe, hb1, e_vIc, c1, c2, m1, m2,
      e_subK (ds := [D.lst (List.map D.int cs), D.int a, D.int b, D.int t]), Int.reduceLE, Int.toNat_one, Int.reduceLT, Int.reduceToNat, Int.cast_ofNat_Int, List.length_cons, List.length_nil]
/-- the hand is made of the script -/
def tot0 : List Int → Int → Int
  | [], t => t
  | c :: r, t => tot0 r ((t * 1009 + c) % 2147483629)
theorem tot0_ok : ∀ (r : List Int) (t : Int), r = [] ∨ (0 ≤ tot0 r t ∧ tot0 r t < 2147483629)
  | [], t => .inl rfl
  | c :: r, t => by
    right
    have h1 := Int.emod_nonneg (t * 1009 + c) (show (2147483629 : Int) ≠ 0 by decide)
    have h2 := Int.emod_lt_of_pos (t * 1009 + c) (show (0 : Int) < 2147483629 by decide)
    rcases tot0_ok r ((t * 1009 + c) % 2147483629) with h | h
    · subst h; exact ⟨h1, h2⟩
    · exact h
def ab (c : Int) : Int := if c ≥ 0 then c else -c
theorem hand_loop (s : D) : ∀ (r : List Int) (t : Int) (acc : List Int) (o : Option DV), acc.length + r.length ≤ 63 → ∃ o', forL (gSet 3) (sSeq (sAsg (dMod (dB fInt (dCons (dAdd (dMul (dVar 1) (dC (.int 1009))) (dB fInt (dCons (dVar 3) (dNil)))) (dNil))) (dC (.int 2147483629))) (gSet 1))
  (sApp 2 (dIf (dT (dCmp .ge (dVar 3) (dC (.int 0)))) (dB fInt (dCons (dVar 3) (dNil))) (dNeg (dB fInt (dCons (dVar 3) (dNil))))))) (r.map D.int) [some (.sh s), some (.sh (.int t)), some (.ow (.lst (acc.map D.int))), o]
    = .ok .nx [some (.sh s), some (.sh (.int (tot0 r t))), some (.ow (.lst ((acc ++ r.map ab).map D.int))), o'] := by
  intro r
  induction r with
  | nil => intro t acc o _; exact ⟨o, by simp only [List.map, forL, tot0, List.append_nil]⟩
  | cons c r ih =>
    intro t acc o hl
    obtain ⟨o', h⟩ := ih ((t * 1009 + c) % 2147483629) (acc ++ [ab c]) (some (.sh (.int c))) (by rw [List.length_append]; simp only [List.length_cons, List.length_nil] at hl ⊢; omega)
    refine ⟨o', ?_⟩
    have c1 : ∀ i : Int, cMul i 1009 = true := fun i => cMul_r (by decide)
    have m1 : ∀ i : Int, cMod i 2147483629 = true := fun i => rfl
    have hsz : (acc.map D.int).length < sizeLine := by rw [List.length_map, sizeLine_eq]; simp only [List.length_cons] at hl; omega
    rw [show acc ++ (c :: r).map ab = (acc ++ [ab c]) ++ r.map ab by simp]
    show forL _ _ (D.int c :: r.map D.int) _ = _
    unfold forL
    rw [show tot0 (c :: r) t = tot0 r ((t * 1009 + c) % 2147483629) from rfl, ← h]
    by_cases hc : 0 ≤ c
    · have e : (acc ++ [ab c]).map D.int = acc.map D.int ++ [D.int c] := by rw [List.map_append, show ab c = c by unfold ab; rw [if_pos hc]]; rfl
      rw [e]
      simp only [startE, List.map, List.length, List.replicate, e_Seq, e_Asg, e_Ret, e_RetF, e_Expr, e_exprK, e_op, e_op2, e_op1, e_un, e_is, e_B, e_bK, e_Cons, e_consK, e_consK2, e_Nil, e_var, e_C, e_bind, e_bindX, e_bindB, e_lookS, e_lookO, M.toD, e_of, e_asgK, e_gSet, e_stK, e_sqN, e_sqR, e_sqB, e_sqC, e_sNil, e_retK, e_retFK, e_add, e_vI, e_neg, e_fInt, e_fIntB, e_sIf, e_sifT, e_sifF, e_T, e_toB, e_Tru, e_truB, e_And, e_Or, e_andT, e_andF, e_orT, e_orF, e_Not, e_notK, e_AndV, e_OrV, e_andVT, e_andVF, e_orVT, e_orVF, e_NotV, e_notVK, e_If, e_ifT, e_ifF, e_Tup, e_Lst, e_LstF, e_tup0, e_lst0, e_lstF0, e_eqI, e_neI, e_ltI, e_leI, e_gtI, e_geI, e_lenL, e_lenT, e_lenR, e_lenS, e_ixL, e_ixT, at0, at1, at2, at3, e_tupL, e_tupT, e_lstT, e_Own, e_ownK, e_Sub, e_For, e_Items, e_itL, e_itT, e_itR, e_Call, e_CallF, e_aNil, e_aVal, e_aVK, e_aVK2, step0, step1, step2, step3, out0, out1, out2, out3, outX1, outX2, outO1, outO2, outO3, e_onSh, e_onOw, decide_true, decide_false, Bool.not_true, Bool.not_false, List.cons_append, List.nil_append, List.getElem?_cons_zero, List.getElem?_cons_succ, List.set_cons_zero, List.set_cons_succ, Nat.reduceLT, Nat.reduceAdd, Nat.reduceSub, Option.map_some, finF, outsE, e_frz, d_rng7, e_forK, e_tnN, e_tnC, e_tnB, e_tnR, e_whT, e_whF, e_Raise, e_Par, e_parK, e_parK2, e_augK, e_Ch, e_chK1, e_chK2, e_chT, e_chF, e_Try, e_tryO, e_tru, e_While, e_abs, e_max2, e_min2, e_gSq2, e_tup1, e_lst1, e_tup2, e_lst2, e_tup3, e_lst3, e_tup4, e_lst4, e_tup5, e_lst5, e_tup6, e_lst6, e_tup7, e_lst7, e_tup8, e_lst8, e_vIc, c1, m1, e_App (ds := acc.map D.int), hc, e_appK (ds := acc.map D.int) (hl := hsz)]
    · have e : (acc ++ [ab c]).map D.int = acc.map D.int ++ [D.int (-c)] := by rw [List.map_append, show ab c = -c by unfold ab; rw [if_neg hc]]; rfl
      rw [e]
      simp only [startE, List.map, List.length, List.replicate, e_Seq, e_Asg, e_Ret, e_RetF, e_Expr, e_exprK, e_op, e_op2, e_op1, e_un, e_is, e_B, e_bK, e_Cons, e_consK, e_consK2, e_Nil, e_var, e_C, e_bind, e_bindX, e_bindB, e_lookS, e_lookO, M.toD, e_of, e_asgK, e_gSet, e_stK, e_sqN, e_sqR, e_sqB, e_sqC, e_sNil, e_retK, e_retFK, e_add, e_vI, e_neg, e_fInt, e_fIntB, e_sIf, e_sifT, e_sifF, e_T, e_toB, e_Tru, e_truB, e_And, e_Or, e_andT, e_andF, e_orT, e_orF, e_Not, e_notK, e_AndV, e_OrV, e_andVT, e_andVF, e_orVT, e_orVF, e_NotV, e_notVK, e_If, e_ifT, e_ifF, e_Tup, e_Lst, e_LstF, e_tup0, e_lst0, e_lstF0, e_eqI, e_neI, e_ltI, e_leI, e_gtI, e_geI, e_lenL, e_lenT, e_lenR, e_lenS, e_ixL, e_ixT, at0, at1, at2, at3, e_tupL, e_tupT, e_lstT, e_Own, e_ownK, e_Sub, e_For, e_Items, e_itL, e_itT, e_itR, e_Call, e_CallF, e_aNil, e_aVal, e_aVK, e_aVK2, step0, step1, step2, step3, out0, out1, out2, out3, outX1, outX2, outO1, outO2, outO3, e_onSh, e_onOw, decide_true, decide_false, Bool.not_true, Bool.not_false, List.cons_append, List.nil_append, List.getElem?_cons_zero, List.getElem?_cons_succ, List.set_cons_zero, List.set_cons_succ, Nat.reduceLT, Nat.reduceAdd, Nat.reduceSub, Option.map_some, finF, outsE, e_frz, d_rng7, e_forK, e_tnN, e_tnC, e_tnB, e_tnR, e_whT, e_whF, e_Raise, e_Par, e_parK, e_parK2, e_augK, e_Ch, e_chK1, e_chK2, e_chT, e_chF, e_Try, e_tryO, e_tru, e_While, e_abs, e_max2, e_min2, e_gSq2, e_tup1, e_lst1, e_tup2, e_lst2, e_tup3, e_lst3, e_tup4, e_lst4, e_tup5, e_lst5, e_tup6, e_lst6, e_tup7, e_lst7, e_tup8, e_lst8, e_vIc, c1, m1, e_App (ds := acc.map D.int), hc, e_appK (ds := acc.map D.int) (hl := hsz)]
theorem hand_ok (ns : List Int) (hn : ns.length ≤ 63) : ∃ m, m__law_hand [.sh (.scr (ns.map D.int))] = .ok (.ow m) [] ∧ Good m := by
  have hlen : ((ns.map D.int).length : Int) = ns.length := by rw [List.length_map]
  obtain ⟨o', h⟩ := hand_loop (.scr (ns.map D.int)) ns (((ns.map D.int).length : Int) + 17) [] none (by simpa using hn)
  refine ⟨hnd (ns.map ab) 0 0 (tot0 ns (((ns.map D.int).length : Int) + 17)), ?_, _, _, _, _, rfl, ⟨by rw [List.length_map]; exact hn, fun c hc => ?_, by omega, by omega, by omega, ?_, ?_⟩⟩
  · unfold m__law_hand
    refine (e_run [] 4 _ _ rfl).trans ?_
    unfold b__law_hand
    simp only [List.nil_append, List.map_nil] at h
    simp only [startE, List.map, List.length, List.replicate, e_Seq, e_Asg, e_Ret, e_RetF, e_Expr, e_exprK, e_op, e_op2, e_op1, e_un, e_is, e_B, e_bK, e_Cons, e_consK, e_consK2, e_Nil, e_var, e_C, e_bind, e_bindX, e_bindB, e_lookS, e_lookO, M.toD, e_of, e_asgK, e_gSet, e_stK, e_sqN, e_sqR, e_sqB, e_sqC, e_sNil, e_retK, e_retFK, e_add, e_vI, e_neg, e_fInt, e_fIntB, e_sIf, e_sifT, e_sifF, e_T, e_toB, e_Tru, e_truB, e_And, e_Or, e_andT, e_andF, e_orT, e_orF, e_Not, e_notK, e_AndV, e_OrV, e_andVT, e_andVF, e_orVT, e_orVF, e_NotV, e_notVK, e_If, e_ifT, e_ifF, e_Tup, e_Lst, e_LstF, e_tup0, e_lst0, e_lstF0, e_eqI, e_neI, e_ltI, e_leI, e_gtI, e_geI, e_lenL, e_lenT, e_lenR, e_lenS, e_ixL, e_ixT, at0, at1, at2, at3, e_tupL, e_tupT, e_lstT, e_Own, e_ownK, e_Sub, e_For, e_Items, e_itL, e_itT, e_itR, e_Call, e_CallF, e_aNil, e_aVal, e_aVK, e_aVK2, step0, step1, step2, step3, out0, out1, out2, out3, outX1, outX2, outO1, outO2, outO3, e_onSh, e_onOw, decide_true, decide_false, Bool.not_true, Bool.not_false, List.cons_append, List.nil_append, List.getElem?_cons_zero, List.getElem?_cons_succ, List.set_cons_zero, List.set_cons_succ, Nat.reduceLT, Nat.reduceAdd, Nat.reduceSub, Option.map_some, finF, outsE, e_frz, d_rng7, e_forK, e_tnN, e_tnC, e_tnB, e_tnR, e_whT, e_whF, e_Raise, e_Par, e_parK, e_parK2, e_augK, e_Ch, e_chK1, e_chK2, e_chT, e_chF, e_Try, e_tryO, e_tru, e_While, e_abs, e_max2, e_min2, e_gSq2, e_tup1, e_lst1, e_tup2, e_lst2, e_tup3, e_lst3, e_tup4, e_lst4, e_tup5, e_lst5, e_tup6, e_lst6, e_tup7, e_lst7, e_tup8, e_lst8, forK, h, e_lstF, List.length_cons, List.length_nil, hnd, sizeLine_eq, Nat.reduceLeDiff]
  · obtain ⟨x, hx, rfl⟩ := List.mem_map.mp hc
    unfold ab; split <;> omega
  · rcases tot0_ok ns (((ns.map D.int).length : Int) + 17) with h | h
    · subst h; show (0 : Int) ≤ 17; decide
    · exact h.1
  · rcases tot0_ok ns (((ns.map D.int).length : Int) + 17) with h | h
    · subst h; show (17 : Int) < 2147483629; decide
    · exact h.2
end L01
set_option Elab.async false
set_option linter.all false
set_option maxRecDepth 100000
set_option maxHeartbeats 4000000
namespace L01
open PySem L2 Rf
/-! ### names -/
abbrev LOW : Str := "abcdefghijklmnopqrstuvwxyz"
def low (c : Nat) : Bool := !(Builtin.Str.occurrences LOW ⟨#[c]⟩ 0 LOW.length 1).isEmpty
def nmS (x : Str) : Bool := decide (1 ≤ x.length) && decide (x.length ≤ 8) && x.cps.toList.all low
def lowS : List Nat := LOW.cps.toList
structure Nm (x : Str) : Prop where
  lo : 1 ≤ x.cps.size
  hi : x.cps.size ≤ 8
  mem : ∀ c ∈ x.cps.toList, c ∈ lowS
theorem low_all : lowS.all low = true := by kernel_rfl
theorem low_lt : lowS.all (fun c => decide (c < 0x110000)) = true := by kernel_rfl
theorem Nm.low {x : Str} (h : Nm x) : x.cps.toList.all low = true := List.all_eq_true.mpr fun c hc => List.all_eq_true.mp low_all c (h.mem c hc)
theorem Nm.nm {x : Str} (h : Nm x) : nmS x = true := by
  have e : x.length = x.cps.size := rfl
  have := h.lo
  have := h.hi
  unfold nmS
  rw [h.low, decide_eq_true (by omega), decide_eq_true (by omega)]
  rfl
theorem Nm.ok {x : Str} (h : Nm x) : PyData.strOk x = true := by
  show x.cps.all _ = true
  rw [Array.all_eq_true_iff_forall_mem]
  intro c hc
  exact List.all_eq_true.mp low_lt c (h.mem c (by simpa using hc))
/-- what may stand where a name or a number is asked -/
inductive Pl : D → Prop
  | non : Pl .non
  | bl (b : Bool) : Pl (.bl b)
  | int (i : Int) : Pl (.int i)
  | lst (ds : List D) : Pl (.lst ds)
  | tup (ds : List D) : Pl (.tup ds)
  | nam {x : Str} (h : Nm x) : Pl (.str x)
  | bad {x : Str} (h : nmS x = false) (hl : x.length ≤ sizeLine) : Pl (.str x)
def nm : D → Bool
  | .str x => nmS x
  | _ => false
def wh : D → Bool
  | .int _ => true
  | _ => false
theorem leI_d (i j : Int) : CK.f .le (.int i) (.int j) = some (.bl (decide (i ≤ j))) := rfl
theorem ltI_d (i j : Int) : CK.f .lt (.int i) (.int j) = some (.bl (decide (i < j))) := rfl
theorem in_low (n : Nat) : CK.f .in_ (.str ⟨#[n]⟩) (.str LOW) = some (.bl (low n)) := rfl
theorem isStr (x : Str) : isTy "str" (.str x) = some true := rfl
theorem lc_low (z : Str) (hz : z.length ≤ sizeLine) : fLc (dItems (dVar 0)) (gSet 1) dYes (dCmp .in_ (dVar 1) (dC (.str LOW))) [1] [some (.sh (.str z)), none] = .ok (.lst (z.cps.toList.map fun n => D.bl (low n))) [some (.sh (.str z)), none] := by
  refine lc_text (fun n => D.bl (low n)) rfl rfl (fun n => ?_) hz
  simp only [startE, List.map, List.length, List.replicate, e_Seq, e_Asg, e_Ret, e_RetF, e_Expr, e_exprK, e_op, e_op2, e_op1, e_un, e_is, e_B, e_bK, e_Cons, e_consK, e_consK2, e_Nil, e_var, e_C, e_bind, e_bindX, e_bindB, e_lookS, e_lookO, M.toD, e_of, e_asgK, e_gSet, e_stK, e_sqN, e_sqR, e_sqB, e_sqC, e_sNil, e_retK, e_retFK, e_add, e_vI, e_neg, e_fInt, e_fIntB, e_sIf, e_sifT, e_sifF, e_T, e_toB, e_Tru, e_truB, e_And, e_Or, e_andT, e_andF, e_orT, e_orF, e_Not, e_notK, e_AndV, e_OrV, e_andVT, e_andVF, e_orVT, e_orVF, e_NotV, e_notVK, e_If, e_ifT, e_ifF, e_Tup, e_Lst, e_LstF, e_tup0, e_lst0, e_lstF0, e_eqI, e_neI, e_ltI, e_leI, e_gtI, e_geI, e_lenL, e_lenT, e_lenR, e_lenS, e_ixL, e_ixT, at0, at1, at2, at3, e_tupL, e_tupT, e_lstT, e_Own, e_ownK, e_Sub, e_For, e_Items, e_itL, e_itT, e_itR, e_Call, e_CallF, e_aNil, e_aVal, e_aVK, e_aVK2, step0, step1, step2, step3, out0, out1, out2, out3, outX1, outX2, outO1, outO2, outO3, e_onSh, e_onOw, decide_true, decide_false, Bool.not_true, Bool.not_false, List.cons_append, List.nil_append, List.getElem?_cons_zero, List.getElem?_cons_succ, List.set_cons_zero, List.set_cons_succ, Nat.reduceLT, Nat.reduceAdd, Nat.reduceSub, Option.map_some, finF, outsE, e_frz, d_rng7, e_forK, e_tnN, e_tnC, e_tnB, e_tnR, e_whT, e_whF, e_Raise, e_Par, e_parK, e_parK2, e_augK, e_Ch, e_chK1, e_chK2, e_chT, e_chF, e_Try, e_tryO, e_tru, e_While, e_abs, e_max2, e_min2, e_gSq2, e_tup1, e_lst1, e_tup2, e_lst2, e_tup3, e_lst3, e_tup4, e_lst4, e_tup5, e_lst5, e_tup6, e_lst6, e_tup7, e_lst7, e_tup8, e_lst8, in_low]
theorem name_str (x : Str) (hx : x.length ≤ sizeLine) : m_is_name [.sh (.str x)] = .ok (.sh (.bl (nmS x))) [] := by
  refine (e_run [] 2 _ _ rfl).trans ?_
  unfold b_is_name
  by_cases h1 : (1 : Int) ≤ x.length
  · by_cases h2 : (x.length : Int) ≤ 8
    · have e : nmS x = x.cps.toList.all low := by
        unfold nmS
        rw [decide_eq_true (show 1 ≤ x.length by omega), decide_eq_true (show x.length ≤ 8 by omega)]
        rfl
      rw [e]
      simp only [startE, List.map, List.length, List.replicate, e_Seq, e_Asg, e_Ret, e_RetF, e_Expr, e_exprK, e_op, e_op2, e_op1, e_un, e_is, e_B, e_bK, e_Cons, e_consK, e_consK2, e_Nil, e_var, e_C, e_bind, e_bindX, e_bindB, e_lookS, e_lookO, M.toD, e_of, e_asgK, e_gSet, e_stK, e_sqN, e_sqR, e_sqB, e_sqC, e_sNil, e_retK, e_retFK, e_add, e_vI, e_neg, e_fInt, e_fIntB, e_sIf, e_sifT, e_sifF, e_T, e_toB, e_Tru, e_truB, e_And, e_Or, e_andT, e_andF, e_orT, e_orF, e_Not, e_notK, e_AndV, e_OrV, e_andVT, e_andVF, e_orVT, e_orVF, e_NotV, e_notVK, e_If, e_ifT, e_ifF, e_Tup, e_Lst, e_LstF, e_tup0, e_lst0, e_lstF0, e_eqI, e_neI, e_ltI, e_leI, e_gtI, e_geI, e_lenL, e_lenT, e_lenR, e_lenS, e_ixL, e_ixT, at0, at1, at2, at3, e_tupL, e_tupT, e_lstT, e_Own, e_ownK, e_Sub, e_For, e_Items, e_itL, e_itT, e_itR, e_Call, e_CallF, e_aNil, e_aVal, e_aVK, e_aVK2, step0, step1, step2, step3, out0, out1, out2, out3, outX1, outX2, outO1, outO2, outO3, e_onSh, e_onOw, decide_true, decide_false, Bool.not_true, Bool.not_false, List.cons_append, List.nil_append, List.getElem?_cons_zero, List.getElem?_cons_succ, List.set_cons_zero, List.set_cons_succ, Nat.reduceLT, Nat.reduceAdd, Nat.reduceSub, Option.map_some, finF, outsE, e_frz, d_rng7, e_forK, e_tnN, e_tnC, e_tnB, e_tnR, e_whT, e_whF, e_Raise, e_Par, e_parK, e_parK2, e_augK, e_Ch, e_chK1, e_chK2, e_chT, e_chF, e_Try, e_tryO, e_tru, e_While, e_abs, e_max2, e_min2, e_gSq2, e_tup1, e_lst1, e_tup2, e_lst2, e_tup3, e_lst3, e_tup4, e_lst4, e_tup5, e_lst5, e_tup6, e_lst6, e_tup7, e_lst7, e_tup8, e_lst8, isStr, h1, h2, lc_low x hx, all_f]
    · have e : nmS x = false := by
        unfold nmS
        rw [decide_eq_false (show ¬ x.length ≤ 8 by omega)]
        simp
      rw [e]
      simp only [startE, List.map, List.length, List.replicate, e_Seq, e_Asg, e_Ret, e_RetF, e_Expr, e_exprK, e_op, e_op2, e_op1, e_un, e_is, e_B, e_bK, e_Cons, e_consK, e_consK2, e_Nil, e_var, e_C, e_bind, e_bindX, e_bindB, e_lookS, e_lookO, M.toD, e_of, e_asgK, e_gSet, e_stK, e_sqN, e_sqR, e_sqB, e_sqC, e_sNil, e_retK, e_retFK, e_add, e_vI, e_neg, e_fInt, e_fIntB, e_sIf, e_sifT, e_sifF, e_T, e_toB, e_Tru, e_truB, e_And, e_Or, e_andT, e_andF, e_orT, e_orF, e_Not, e_notK, e_AndV, e_OrV, e_andVT, e_andVF, e_orVT, e_orVF, e_NotV, e_notVK, e_If, e_ifT, e_ifF, e_Tup, e_Lst, e_LstF, e_tup0, e_lst0, e_lstF0, e_eqI, e_neI, e_ltI, e_leI, e_gtI, e_geI, e_lenL, e_lenT, e_lenR, e_lenS, e_ixL, e_ixT, at0, at1, at2, at3, e_tupL, e_tupT, e_lstT, e_Own, e_ownK, e_Sub, e_For, e_Items, e_itL, e_itT, e_itR, e_Call, e_CallF, e_aNil, e_aVal, e_aVK, e_aVK2, step0, step1, step2, step3, out0, out1, out2, out3, outX1, outX2, outO1, outO2, outO3, e_onSh, e_onOw, decide_true, decide_false, Bool.not_true, Bool.not_false, List.cons_append, List.nil_append, List.getElem?_cons_zero, List.getElem?_cons_succ, List.set_cons_zero, List.set_cons_succ, Nat.reduceLT, Nat.reduceAdd, Nat.reduceSub, Option.map_some, finF, outsE, e_frz, d_rng7, e_forK, e_tnN, e_tnC, e_tnB, e_tnR, e_whT, e_whF, e_Raise, e_Par, e_parK, e_parK2, e_augK, e_Ch, e_chK1, e_chK2, e_chT, e_chF, e_Try, e_tryO, e_tru, e_While, e_abs, e_max2, e_min2, e_gSq2, e_tup1, e_lst1, e_tup2, e_lst2, e_tup3, e_lst3, e_tup4, e_lst4, e_tup5, e_lst5, e_tup6, e_lst6, e_tup7, e_lst7, e_tup8, e_lst8, isStr, h1, h2]
  · have e : nmS x = false := by
      unfold nmS
      rw [decide_eq_false (show ¬ 1 ≤ x.length by omega)]
      simp
    rw [e]
    simp only [startE, List.map, List.length, List.replicate, e_Seq, e_Asg, e_Ret, e_RetF, e_Expr, e_exprK, e_op, e_op2, e_op1, e_un, e_is, e_B, e_bK, e_Cons, e_consK, e_consK2, e_Nil, e_var, e_C, e_bind, e_bindX, e_bindB, e_lookS, e_lookO, M.toD, e_of, e_asgK, e_gSet, e_stK, e_sqN, e_sqR, e_sqB, e_sqC, e_sNil, e_retK, e_retFK, e_add, e_vI, e_neg, e_fInt, e_fIntB, e_sIf, e_sifT, e_sifF, e_T, e_toB, e_Tru, e_truB, e_And, e_Or, e_andT, e_andF, e_orT, e_orF, e_Not, e_notK, e_AndV, e_OrV, e_andVT, e_andVF, e_orVT, e_orVF, e_NotV, e_notVK, e_If, e_ifT, e_ifF, e_Tup, e_Lst, e_LstF, e_tup0, e_lst0, e_lstF0, e_eqI, e_neI, e_ltI, e_leI, e_gtI, e_geI, e_lenL, e_lenT, e_lenR, e_lenS, e_ixL, e_ixT, at0, at1, at2, at3, e_tupL, e_tupT, e_lstT, e_Own, e_ownK, e_Sub, e_For, e_Items, e_itL, e_itT, e_itR, e_Call, e_CallF, e_aNil, e_aVal, e_aVK, e_aVK2, step0, step1, step2, step3, out0, out1, out2, out3, outX1, outX2, outO1, outO2, outO3, e_onSh, e_onOw, decide_true, decide_false, Bool.not_true, Bool.not_false, List.cons_append, List.nil_append, List.getElem?_cons_zero, List.getElem?_cons_succ, List.set_cons_zero, List.set_cons_succ, Nat.reduceLT, Nat.reduceAdd, Nat.reduceSub, Option.map_some, finF, outsE, e_frz, d_rng7, e_forK, e_tnN, e_tnC, e_tnB, e_tnR, e_whT, e_whF, e_Raise, e_Par, e_parK, e_parK2, e_augK, e_Ch, e_chK1, e_chK2, e_chT, e_chF, e_Try, e_tryO, e_tru, e_While, e_abs, e_max2, e_min2, e_gSq2, e_tup1, e_lst1, e_tup2, e_lst2, e_tup3, e_lst3, e_tup4, e_lst4, e_tup5, e_lst5, e_tup6, e_lst6, e_tup7, e_lst7, e_tup8, e_lst8, isStr, h1]
theorem name_ok {d : D} (h : Pl d) : m_is_name [.sh d] = .ok (.sh (.bl (nm d))) [] := by
  cases h with
  | nam h => exact name_str _ (by rw [sizeLine_eq]; have := h.hi; show Array.size _ ≤ _; omega)
  | bad h hl => exact name_str _ hl
  | non => kernel_rfl
  | bl b => kernel_rfl
  | int i => kernel_rfl
  | lst ds => kernel_rfl
  | tup ds => kernel_rfl
theorem whole_ok {d : D} (h : Pl d) : m_is_whole [.sh d] = .ok (.sh (.bl (wh d))) [] := by
  cases h <;> kernel_rfl
theorem lwhole_ok {d : D} (h : Pl d) : m__law_whole [.sh d] = .ok (.sh (.bl (wh d))) [] := by
  cases h <;> kernel_rfl
theorem letters_str (x : Str) (hx : x.length ≤ sizeLine) : m__law_letters [.sh (.str x)] = .ok (.sh (.bl (nmS x))) [] := by
  refine (e_run [] 2 _ _ rfl).trans ?_
  unfold b__law_letters
  by_cases h1 : (0 : Int) < x.length
  · by_cases h2 : (x.length : Int) < 9
    · have e : nmS x = x.cps.toList.all low := by
        unfold nmS
        rw [decide_eq_true (show 1 ≤ x.length by omega), decide_eq_true (show x.length ≤ 8 by omega)]
        rfl
      rw [e]
      simp only [startE, List.map, List.length, List.replicate, e_Seq, e_Asg, e_Ret, e_RetF, e_Expr, e_exprK, e_op, e_op2, e_op1, e_un, e_is, e_B, e_bK, e_Cons, e_consK, e_consK2, e_Nil, e_var, e_C, e_bind, e_bindX, e_bindB, e_lookS, e_lookO, M.toD, e_of, e_asgK, e_gSet, e_stK, e_sqN, e_sqR, e_sqB, e_sqC, e_sNil, e_retK, e_retFK, e_add, e_vI, e_neg, e_fInt, e_fIntB, e_sIf, e_sifT, e_sifF, e_T, e_toB, e_Tru, e_truB, e_And, e_Or, e_andT, e_andF, e_orT, e_orF, e_Not, e_notK, e_AndV, e_OrV, e_andVT, e_andVF, e_orVT, e_orVF, e_NotV, e_notVK, e_If, e_ifT, e_ifF, e_Tup, e_Lst, e_LstF, e_tup0, e_lst0, e_lstF0, e_eqI, e_neI, e_ltI, e_leI, e_gtI, e_geI, e_lenL, e_lenT, e_lenR, e_lenS, e_ixL, e_ixT, at0, at1, at2, at3, e_tupL, e_tupT, e_lstT, e_Own, e_ownK, e_Sub, e_For, e_Items, e_itL, e_itT, e_itR, e_Call, e_CallF, e_aNil, e_aVal, e_aVK, e_aVK2, step0, step1, step2, step3, out0, out1, out2, out3, outX1, outX2, outO1, outO2, outO3, e_onSh, e_onOw, decide_true, decide_false, Bool.not_true, Bool.not_false, List.cons_append, List.nil_append, List.getElem?_cons_zero, List.getElem?_cons_succ, List.set_cons_zero, List.set_cons_succ, Nat.reduceLT, Nat.reduceAdd, Nat.reduceSub, Option.map_some, finF, outsE, e_frz, d_rng7, e_forK, e_tnN, e_tnC, e_tnB, e_tnR, e_whT, e_whF, e_Raise, e_Par, e_parK, e_parK2, e_augK, e_Ch, e_chK1, e_chK2, e_chT, e_chF, e_Try, e_tryO, e_tru, e_While, e_abs, e_max2, e_min2, e_gSq2, e_tup1, e_lst1, e_tup2, e_lst2, e_tup3, e_lst3, e_tup4, e_lst4, e_tup5, e_lst5, e_tup6, e_lst6, e_tup7, e_lst7, e_tup8, e_lst8, isStr, h1, h2, lc_low x hx, all_f]
    · have e : nmS x = false := by
        unfold nmS
        rw [decide_eq_false (show ¬ x.length ≤ 8 by omega)]
        simp
      rw [e]
      simp only [startE, List.map, List.length, List.replicate, e_Seq, e_Asg, e_Ret, e_RetF, e_Expr, e_exprK, e_op, e_op2, e_op1, e_un, e_is, e_B, e_bK, e_Cons, e_consK, e_consK2, e_Nil, e_var, e_C, e_bind, e_bindX, e_bindB, e_lookS, e_lookO, M.toD, e_of, e_asgK, e_gSet, e_stK, e_sqN, e_sqR, e_sqB, e_sqC, e_sNil, e_retK, e_retFK, e_add, e_vI, e_neg, e_fInt, e_fIntB, e_sIf, e_sifT, e_sifF, e_T, e_toB, e_Tru, e_truB, e_And, e_Or, e_andT, e_andF, e_orT, e_orF, e_Not, e_notK, e_AndV, e_OrV, e_andVT, e_andVF, e_orVT, e_orVF, e_NotV, e_notVK, e_If, e_ifT, e_ifF, e_Tup, e_Lst, e_LstF, e_tup0, e_lst0, e_lstF0, e_eqI, e_neI, e_ltI, e_leI, e_gtI, e_geI, e_lenL, e_lenT, e_lenR, e_lenS, e_ixL, e_ixT, at0, at1, at2, at3, e_tupL, e_tupT, e_lstT, e_Own, e_ownK, e_Sub, e_For, e_Items, e_itL, e_itT, e_itR, e_Call, e_CallF, e_aNil, e_aVal, e_aVK, e_aVK2, step0, step1, step2, step3, out0, out1, out2, out3, outX1, outX2, outO1, outO2, outO3, e_onSh, e_onOw, decide_true, decide_false, Bool.not_true, Bool.not_false, List.cons_append, List.nil_append, List.getElem?_cons_zero, List.getElem?_cons_succ, List.set_cons_zero, List.set_cons_succ, Nat.reduceLT, Nat.reduceAdd, Nat.reduceSub, Option.map_some, finF, outsE, e_frz, d_rng7, e_forK, e_tnN, e_tnC, e_tnB, e_tnR, e_whT, e_whF, e_Raise, e_Par, e_parK, e_parK2, e_augK, e_Ch, e_chK1, e_chK2, e_chT, e_chF, e_Try, e_tryO, e_tru, e_While, e_abs, e_max2, e_min2, e_gSq2, e_tup1, e_lst1, e_tup2, e_lst2, e_tup3, e_lst3, e_tup4, e_lst4, e_tup5, e_lst5, e_tup6, e_lst6, e_tup7, e_lst7, e_tup8, e_lst8, isStr, h1, h2]
  · have e : nmS x = false := by
      unfold nmS
      rw [decide_eq_false (show ¬ 1 ≤ x.length by omega)]
      simp
    rw [e]
    simp only [startE, List.map, List.length, List.replicate, e_Seq, e_Asg, e_Ret, e_RetF, e_Expr, e_exprK, e_op, e_op2, e_op1, e_un, e_is, e_B, e_bK, e_Cons, e_consK, e_consK2, e_Nil, e_var, e_C, e_bind, e_bindX, e_bindB, e_lookS, e_lookO, M.toD, e_of, e_asgK, e_gSet, e_stK, e_sqN, e_sqR, e_sqB, e_sqC, e_sNil, e_retK, e_retFK, e_add, e_vI, e_neg, e_fInt, e_fIntB, e_sIf, e_sifT, e_sifF, e_T, e_toB, e_Tru, e_truB, e_And, e_Or, e_andT, e_andF, e_orT, e_orF, e_Not, e_notK, e_AndV, e_OrV, e_andVT, e_andVF, e_orVT, e_orVF, e_NotV, e_notVK, e_If, e_ifT, e_ifF, e_Tup, e_Lst, e_LstF, e_tup0, e_lst0, e_lstF0, e_eqI, e_neI, e_ltI, e_leI, e_gtI, e_geI, e_lenL, e_lenT, e_lenR, e_lenS, e_ixL, e_ixT, at0, at1, at2, at3, e_tupL, e_tupT, e_lstT, e_Own, e_ownK, e_Sub, e_For, e_Items, e_itL, e_itT, e_itR, e_Call, e_CallF, e_aNil, e_aVal, e_aVK, e_aVK2, step0, step1, step2, step3, out0, out1, out2, out3, outX1, outX2, outO1, outO2, outO3, e_onSh, e_onOw, decide_true, decide_false, Bool.not_true, Bool.not_false, List.cons_append, List.nil_append, List.getElem?_cons_zero, List.getElem?_cons_succ, List.set_cons_zero, List.set_cons_succ, Nat.reduceLT, Nat.reduceAdd, Nat.reduceSub, Option.map_some, finF, outsE, e_frz, d_rng7, e_forK, e_tnN, e_tnC, e_tnB, e_tnR, e_whT, e_whF, e_Raise, e_Par, e_parK, e_parK2, e_augK, e_Ch, e_chK1, e_chK2, e_chT, e_chF, e_Try, e_tryO, e_tru, e_While, e_abs, e_max2, e_min2, e_gSq2, e_tup1, e_lst1, e_tup2, e_lst2, e_tup3, e_lst3, e_tup4, e_lst4, e_tup5, e_lst5, e_tup6, e_lst6, e_tup7, e_lst7, e_tup8, e_lst8, isStr, h1]
theorem letters_ok {d : D} (h : Pl d) : m__law_letters [.sh d] = .ok (.sh (.bl (nm d))) [] := by
  cases h with
  | nam h => exact letters_str _ (by rw [sizeLine_eq]; have := h.hi; show Array.size _ ≤ _; omega)
  | bad h hl => exact letters_str _ hl
  | non => kernel_rfl
  | bl b => kernel_rfl
  | int i => kernel_rfl
  | lst ds => kernel_rfl
  | tup ds => kernel_rfl
/-! ### names drawn -/
theorem tk {m : M} {n : Int} (hm : Good m) (hn : 0 < n) (h9 : n.natAbs.log2 < 9000 := by decide) : ∃ r m', m__law_take [.ow m, .sh (.int n)] = .ok (.sh (.int r)) [m'] ∧ Good m' ∧ 0 ≤ r ∧ r < n := take_ok hm hn h9
theorem low_at {r : Int} (h0 : 0 ≤ r) (h1 : r < 26) : ∃ c, vIxI (.str LOW) (.int r) = some (.str ⟨#[c]⟩) ∧ c ∈ lowS := by
  have hl : lowS.length = 26 := by kernel_rfl
  have hr : r.toNat < lowS.length := by omega
  refine ⟨lowS[r.toNat], ?_, List.getElem_mem hr⟩
  show (L2.atI lowS r).map _ = _
  rw [atN h0 (List.getElem?_eq_getElem hr)]
  rfl
theorem name_loop : ∀ (n : Nat) (i : Int) (m : M) (x : Str) (o : Option DV), Good m → x.cps.size + n ≤ 8 → (∀ c ∈ x.cps.toList, c ∈ lowS) → ∃ (m' : M) (y : Str) (o' : Option DV),
    forL (gSet 2) (sAsg (dAdd (dVar 1) (dIx (dC (.str LOW)) (dCall m__law_take (aIo 0 (aVal (dC (.int 26)) (aNil)))))) (gSet 1)) ((List.range n).map fun k => D.int (i + (k : Nat))) [some (.ow m), some (.sh (.str x)), o]
      = .ok .nx [some (.ow m'), some (.sh (.str y)), o'] ∧ Good m' ∧ y.cps.size = x.cps.size + n ∧ (∀ c ∈ y.cps.toList, c ∈ lowS)
  | 0, i, m, x, o, hm, hl, hx => ⟨m, x, o, rfl, hm, by omega, hx⟩
  | n + 1, i, m, x, o, hm, hl, hx => by
    obtain ⟨r, m1, e1, g1, r0, r1⟩ := tk (n := 26) hm (by decide)
    obtain ⟨c, hc, hcm⟩ := low_at r0 r1
    have hsz : x.length + (⟨#[c]⟩ : Str).length ≤ sizeLine := by
      rw [sizeLine_eq]
      show x.cps.size + 1 ≤ _
      omega
    have hcat := e_addS x ⟨#[c]⟩ hsz
    have hsize : (x ++ (⟨#[c]⟩ : Str)).cps.size = x.cps.size + 1 := by show (x.cps ++ #[c]).size = _; simp
    have hmem : ∀ d ∈ (x ++ (⟨#[c]⟩ : Str)).cps.toList, d ∈ lowS := by
      show ∀ d ∈ (x.cps ++ #[c]).toList, _
      intro d hd
      simp only [Array.toList_append, List.mem_append, List.mem_singleton] at hd
      rcases hd with hd | rfl
      · exact hx d hd
      · exact hcm
    obtain ⟨m', y, o', h1, h2, h3, h4⟩ := name_loop n (i + 1) m1 (x ++ ⟨#[c]⟩) (some (.sh (.int i))) g1 (by omega) hmem
    refine ⟨m', y, o', ?_, h2, by omega, h4⟩
    rw [List.range_succ_eq_map, List.map_cons, List.map_map, forL_set _ _ _ _ _ (by decide : 2 < 3)]
    have e : ((fun k : Nat => D.int (i + (k : Nat))) ∘ Nat.succ) = fun k : Nat => D.int (i + 1 + (k : Nat)) := by
      funext k
      show D.int (i + ((k + 1 : Nat) : Int)) = _
      rw [show i + ((k + 1 : Nat) : Int) = i + 1 + (k : Int) by omega]
    rw [e, show (D.int (i + ((0 : Nat) : Int))) = D.int i by rw [show i + ((0 : Nat) : Int) = i by omega]]
    rw [← h1]
    generalize forL (gSet 2) _ _ = k
    simp only [startE, List.map, List.length, List.replicate, e_Seq, e_Asg, e_Ret, e_RetF, e_Expr, e_exprK, e_op, e_op2, e_op1, e_un, e_is, e_B, e_bK, e_Cons, e_consK, e_consK2, e_Nil, e_var, e_C, e_bind, e_bindX, e_bindB, e_lookS, e_lookO, M.toD, e_of, e_asgK, e_gSet, e_stK, e_sqN, e_sqR, e_sqB, e_sqC, e_sNil, e_retK, e_retFK, e_add, e_vI, e_neg, e_fInt, e_fIntB, e_sIf, e_sifT, e_sifF, e_T, e_toB, e_Tru, e_truB, e_And, e_Or, e_andT, e_andF, e_orT, e_orF, e_Not, e_notK, e_AndV, e_OrV, e_andVT, e_andVF, e_orVT, e_orVF, e_NotV, e_notVK, e_If, e_ifT, e_ifF, e_Tup, e_Lst, e_LstF, e_tup0, e_lst0, e_lstF0, e_eqI, e_neI, e_ltI, e_leI, e_gtI, e_geI, e_lenL, e_lenT, e_lenR, e_lenS, e_ixL, e_ixT, at0, at1, at2, at3, e_tupL, e_tupT, e_lstT, e_Own, e_ownK, e_Sub, e_For, e_Items, e_itL, e_itT, e_itR, e_Call, e_CallF, e_aNil, e_aVal, e_aVK, e_aVK2, step0, step1, step2, step3, out0, out1, out2, out3, outX1, outX2, outO1, outO2, outO3, e_onSh, e_onOw, decide_true, decide_false, Bool.not_true, Bool.not_false, List.cons_append, List.nil_append, List.getElem?_cons_zero, List.getElem?_cons_succ, List.set_cons_zero, List.set_cons_succ, Nat.reduceLT, Nat.reduceAdd, Nat.reduceSub, Option.map_some, finF, outsE, e_frz, d_rng7, e_forK, e_tnN, e_tnC, e_tnB, e_tnR, e_whT, e_whF, e_Raise, e_Par, e_parK, e_parK2, e_augK, e_Ch, e_chK1, e_chK2, e_chT, e_chF, e_Try, e_tryO, e_tru, e_While, e_abs, e_max2, e_min2, e_gSq2, e_tup1, e_lst1, e_tup2, e_lst2, e_tup3, e_lst3, e_tup4, e_lst4, e_tup5, e_lst5, e_tup6, e_lst6, e_tup7, e_lst7, e_tup8, e_lst8, e_aIo (m := m), stepO2 (m := m), e1, hc, hcat]
theorem rngOk_le {n : Int} (h0 : 0 ≤ n) (h : n ≤ 100) : rngOk n = true := by
  unfold rngOk
  rw [decide_eq_true (by omega), decide_eq_true (by omega)]
  rfl
theorem rng_eq {n : Int} : rng 0 n = (List.range n.toNat).map fun k => D.int (0 + (k : Nat)) := by unfold rng; rw [Int.sub_zero]
theorem dname_ok {m : M} (hm : Good m) : ∃ (x : Str) (m' : M), m__law_name [.ow m] = .ok (.sh (.str x)) [m'] ∧ Good m' ∧ Nm x := by
  obtain ⟨r, m1, e1, g1, r0, r1⟩ := tk (n := 8) hm (by decide)
  obtain ⟨m', y, o', h1, h2, h3, h4⟩ := name_loop (1 + r).toNat 0 m1 ("" : Str) none g1 (by show 0 + _ ≤ 8; omega) (by intro c hc; cases hc)
  refine ⟨y, m', ?_, h2, ⟨by rw [h3]; omega, by rw [h3]; show 0 + _ ≤ _; omega, h4⟩⟩
  refine (e_run [0] 3 _ _ rfl).trans ?_
  unfold b__law_name
  rw [← rng_eq] at h1
  simp only [startE, List.map, List.length, List.replicate, e_Seq, e_Asg, e_Ret, e_RetF, e_Expr, e_exprK, e_op, e_op2, e_op1, e_un, e_is, e_B, e_bK, e_Cons, e_consK, e_consK2, e_Nil, e_var, e_C, e_bind, e_bindX, e_bindB, e_lookS, e_lookO, M.toD, e_of, e_asgK, e_gSet, e_stK, e_sqN, e_sqR, e_sqB, e_sqC, e_sNil, e_retK, e_retFK, e_add, e_vI, e_neg, e_fInt, e_fIntB, e_sIf, e_sifT, e_sifF, e_T, e_toB, e_Tru, e_truB, e_And, e_Or, e_andT, e_andF, e_orT, e_orF, e_Not, e_notK, e_AndV, e_OrV, e_andVT, e_andVF, e_orVT, e_orVF, e_NotV, e_notVK, e_If, e_ifT, e_ifF, e_Tup, e_Lst, e_LstF, e_tup0, e_lst0, e_lstF0, e_eqI, e_neI, e_ltI, e_leI, e_gtI, e_geI, e_lenL, e_lenT, e_lenR, e_lenS, e_ixL, e_ixT, at0, at1, at2, at3, e_tupL, e_tupT, e_lstT, e_Own, e_ownK, e_Sub, e_For, e_Items, e_itL, e_itT, e_itR, e_Call, e_CallF, e_aNil, e_aVal, e_aVK, e_aVK2, step0, step1, step2, step3, out0, out1, out2, out3, outX1, outX2, outO1, outO2, outO3, e_onSh, e_onOw, decide_true, decide_false, Bool.not_true, Bool.not_false, List.cons_append, List.nil_append, List.getElem?_cons_zero, List.getElem?_cons_succ, List.set_cons_zero, List.set_cons_succ, Nat.reduceLT, Nat.reduceAdd, Nat.reduceSub, Option.map_some, finF, outsE, e_frz, d_rng7, e_forK, e_tnN, e_tnC, e_tnB, e_tnR, e_whT, e_whF, e_Raise, e_Par, e_parK, e_parK2, e_augK, e_Ch, e_chK1, e_chK2, e_chT, e_chF, e_Try, e_tryO, e_tru, e_While, e_abs, e_max2, e_min2, e_gSq2, e_tup1, e_lst1, e_tup2, e_lst2, e_tup3, e_lst3, e_tup4, e_lst4, e_tup5, e_lst5, e_tup6, e_lst6, e_tup7, e_lst7, e_tup8, e_lst8, e_aIo (m := m), stepO2 (m := m), e1, e_Rng1, e_rng1K (h := rngOk_le (show 0 ≤ 1 + r by omega) (show 1 + r ≤ 100 by omega)), h1]
end L01
set_option Elab.async false
set_option linter.all false
set_option maxRecDepth 100000
set_option maxHeartbeats 4000000
namespace L01
open PySem L2 Rf
/-! ### kinds -/
def STEP : List Str := ["today", "that day"]
def WEEK : List Str := ["coming", "last", "then coming", "then last"]
def INN : List Str := ["self", "told", "that day", "there", "then coming", "then last"]
def UNK : List Str := ["somebody", "one day", "somewhere"]
def ABS : List Str := ["name", "date", "place"]
def ifD (b : Bool) (x : D) : D := if b = true then x else .non
def kd2 (bn bp bd bS bW : Bool) (r : D) : D := if bn = true then ifD (nm r) (.str "person") else if bp = true then ifD (nm r) (.str "place") else match r with
  | .int i => if bd = true then .str "day" else if bS = true then ifD (decide (-30 ≤ i) && decide (i ≤ 30)) (.str "day") else if bW = true then ifD (decide (0 ≤ i) && decide (i ≤ 6)) (.str "day") else .non
  | _ => .non
def sgl (h : Str) : D := (lkS h tab_SINGLE_WORDS).getD .non
def kd : D → D
  | .tup [.str h] => sgl h
  | .tup [.str h, r] => kd2 (decide (h = "name")) (decide (h = "place")) (decide (h = "date")) (decide (h ∈ STEP)) (decide (h ∈ WEEK)) r
  | _ => .non
theorem ix20 (a b : D) : vIxI (.tup [a, b]) (.int 0) = some a := at0 _ _
theorem ix21 (a b : D) : vIxI (.tup [a, b]) (.int 1) = some b := at1 _ _ _
theorem ix10 (a : D) : vIxI (.tup [a]) (.int 0) = some a := at0 _ _
theorem isT (ds : List D) : isTy "tuple" (.tup ds) = some true := rfl
theorem neg30 : vNeg g_MOST_STEP = some (.int (-30)) := rfl
theorem find1 (h : Str) : m_find_kind [.sh (.tup [.str h])] = .ok (.sh (sgl h)) [] := by
  have e : CK.f .eq (.int 1) (.int 1) = some (.bl true) := rfl
  have l1 : CK.f .le (.int 1) (.int 1) = some (.bl true) := rfl
  have l2 : CK.f .le (.int 1) (.int 2) = some (.bl true) := rfl
  refine (e_run [] 3 _ _ rfl).trans ?_
  unfold b_find_kind sgl
  generalize tab_SINGLE_WORDS = T
  simp only [startE, List.map, List.length, List.replicate, e_Seq, e_Asg, e_Ret, e_RetF, e_Expr, e_exprK, e_op, e_op2, e_op1, e_un, e_is, e_B, e_bK, e_Cons, e_consK, e_consK2, e_Nil, e_var, e_C, e_bind, e_bindX, e_bindB, e_lookS, e_lookO, M.toD, e_of, e_asgK, e_gSet, e_stK, e_sqN, e_sqR, e_sqB, e_sqC, e_sNil, e_retK, e_retFK, e_add, e_vI, e_neg, e_fInt, e_fIntB, e_sIf, e_sifT, e_sifF, e_T, e_toB, e_Tru, e_truB, e_And, e_Or, e_andT, e_andF, e_orT, e_orF, e_Not, e_notK, e_AndV, e_OrV, e_andVT, e_andVF, e_orVT, e_orVF, e_NotV, e_notVK, e_If, e_ifT, e_ifF, e_Tup, e_Lst, e_LstF, e_tup0, e_lst0, e_lstF0, e_eqI, e_neI, e_ltI, e_leI, e_gtI, e_geI, e_lenL, e_lenT, e_lenR, e_lenS, e_ixL, e_ixT, at0, at1, at2, at3, e_tupL, e_tupT, e_lstT, e_Own, e_ownK, e_Sub, e_For, e_Items, e_itL, e_itT, e_itR, e_Call, e_CallF, e_aNil, e_aVal, e_aVK, e_aVK2, step0, step1, step2, step3, out0, out1, out2, out3, outX1, outX2, outO1, outO2, outO3, e_onSh, e_onOw, decide_true, decide_false, Bool.not_true, Bool.not_false, List.cons_append, List.nil_append, List.getElem?_cons_zero, List.getElem?_cons_succ, List.set_cons_zero, List.set_cons_succ, Nat.reduceLT, Nat.reduceAdd, Nat.reduceSub, Option.map_some, finF, outsE, e_frz, d_rng7, e_forK, e_tnN, e_tnC, e_tnB, e_tnR, e_whT, e_whF, e_Raise, e_Par, e_parK, e_parK2, e_augK, e_Ch, e_chK1, e_chK2, e_chT, e_chF, e_Try, e_tryO, e_tru, e_While, e_abs, e_max2, e_min2, e_gSq2, e_tup1, e_lst1, e_tup2, e_lst2, e_tup3, e_lst3, e_tup4, e_lst4, e_tup5, e_lst5, e_tup6, e_lst6, e_tup7, e_lst7, e_tup8, e_lst8, e_RaF, e_raF1, e_raF2, e_TryA, e_tryAO, e_asgnK, e_frzX, e_bindX, e_Fld, e_SFld, e_Mk, e_mkK1, e_mkK2, e_mkK3, e_mkK4, e_mkO, e_mkX, e_Met, e_metK2, e_Enum, e_enumL, e_enumT, pairs2, pairs3, pairs4, e_lst13, e_lst14, e_lst15, e_lst16, e_lst9, e_lst10, e_lst11, e_lst12, e_tup9, e_tup10, e_tup11, e_tup12, e_ListF, e_listFT, e_listFL, e_GetK, e_getK, e_IfB, e_ifBT, e_ifBF, e_notB, e_isB, o_int, o_str, o_tup, o_lst, o_non, o_bl, n_int, n_str, n_tup, n_lst, n_non, n_bl, isT, isStr, lenT1, l1, l2, e, ix10, -e_lenT, -e_eqI, -e_leI]
theorem in_step (h : Str) (ok : PyData.strOk h = true) : CK.f .in_ (.str h) g_STEP_WORDS = some (.bl (decide (h ∈ STEP))) := in_tupS (ws := STEP) false ok (by decide +kernel)
theorem in_week (h : Str) (ok : PyData.strOk h = true) : CK.f .in_ (.str h) g_WEEKDAY_WORDS = some (.bl (decide (h ∈ WEEK))) := in_tupS (ws := WEEK) false ok (by decide +kernel)
theorem excl (h : Str) : (decide (h ∈ STEP) && decide (h ∈ WEEK)) = false := by
  by_cases q : h ∈ STEP
  · simp only [STEP, List.mem_cons, List.not_mem_nil, or_false] at q
    rcases q with rfl | rfl <;> decide +kernel
  · rw [decide_eq_false q]; rfl
theorem find2 {h : Str} {r : D} (ok : PyData.strOk h = true) (p : Pl r) : m_find_kind [.sh (.tup [.str h, r])] = .ok (.sh (kd (.tup [.str h, r]))) [] := by
  have e : CK.f .eq (.int 2) (.int 1) = some (.bl false) := rfl
  have l1 : CK.f .le (.int 1) (.int 2) = some (.bl true) := rfl
  have l2 : CK.f .le (.int 2) (.int 2) = some (.bl true) := rfl
  have q1 := e_eqS h "name"
  have q2 := e_eqS h "place"
  have q3 := e_eqS h "date"
  have q4 := in_step h ok
  have q5 := in_week h ok
  have en := name_ok p
  have ew := whole_ok p
  refine (e_run [] 3 _ _ rfl).trans ?_
  unfold b_find_kind
  rw [show kd (.tup [.str h, r]) = kd2 (decide (h = "name")) (decide (h = "place")) (decide (h = "date")) (decide (h ∈ STEP)) (decide (h ∈ WEEK)) r from rfl]
  generalize decide (h = "name") = bn at *
  generalize decide (h = "place") = bp at *
  generalize decide (h = "date") = bd at *
  generalize decide (h ∈ STEP) = bS at *
  generalize decide (h ∈ WEEK) = bW at *
  generalize tab_SINGLE_WORDS = T at *
  cases bn with
  | true => cases n : nm r <;> rw [n] at en <;> simp only [startE, List.map, List.length, List.replicate, e_Seq, e_Asg, e_Ret, e_RetF, e_Expr, e_exprK, e_op, e_op2, e_op1, e_un, e_is, e_B, e_bK, e_Cons, e_consK, e_consK2, e_Nil, e_var, e_C, e_bind, e_bindX, e_bindB, e_lookS, e_lookO, M.toD, e_of, e_asgK, e_gSet, e_stK, e_sqN, e_sqR, e_sqB, e_sqC, e_sNil, e_retK, e_retFK, e_add, e_vI, e_neg, e_fInt, e_fIntB, e_sIf, e_sifT, e_sifF, e_T, e_toB, e_Tru, e_truB, e_And, e_Or, e_andT, e_andF, e_orT, e_orF, e_Not, e_notK, e_AndV, e_OrV, e_andVT, e_andVF, e_orVT, e_orVF, e_NotV, e_notVK, e_If, e_ifT, e_ifF, e_Tup, e_Lst, e_LstF, e_tup0, e_lst0, e_lstF0, e_eqI, e_neI, e_ltI, e_leI, e_gtI, e_geI, e_lenL, e_lenT, e_lenR, e_lenS, e_ixL, e_ixT, at0, at1, at2, at3, e_tupL, e_tupT, e_lstT, e_Own, e_ownK, e_Sub, e_For, e_Items, e_itL, e_itT, e_itR, e_Call, e_CallF, e_aNil, e_aVal, e_aVK, e_aVK2, step0, step1, step2, step3, out0, out1, out2, out3, outX1, outX2, outO1, outO2, outO3, e_onSh, e_onOw, decide_true, decide_false, Bool.not_true, Bool.not_false, List.cons_append, List.nil_append, List.getElem?_cons_zero, List.getElem?_cons_succ, List.set_cons_zero, List.set_cons_succ, Nat.reduceLT, Nat.reduceAdd, Nat.reduceSub, Option.map_some, finF, outsE, e_frz, d_rng7, e_forK, e_tnN, e_tnC, e_tnB, e_tnR, e_whT, e_whF, e_Raise, e_Par, e_parK, e_parK2, e_augK, e_Ch, e_chK1, e_chK2, e_chT, e_chF, e_Try, e_tryO, e_tru, e_While, e_abs, e_max2, e_min2, e_gSq2, e_tup1, e_lst1, e_tup2, e_lst2, e_tup3, e_lst3, e_tup4, e_lst4, e_tup5, e_lst5, e_tup6, e_lst6, e_tup7, e_lst7, e_tup8, e_lst8, e_RaF, e_raF1, e_raF2, e_TryA, e_tryAO, e_asgnK, e_frzX, e_bindX, e_Fld, e_SFld, e_Mk, e_mkK1, e_mkK2, e_mkK3, e_mkK4, e_mkO, e_mkX, e_Met, e_metK2, e_Enum, e_enumL, e_enumT, pairs2, pairs3, pairs4, e_lst13, e_lst14, e_lst15, e_lst16, e_lst9, e_lst10, e_lst11, e_lst12, e_tup9, e_tup10, e_tup11, e_tup12, e_ListF, e_listFT, e_listFL, e_GetK, e_getK, e_IfB, e_ifBT, e_ifBF, e_notB, e_isB, o_int, o_str, o_tup, o_lst, o_non, o_bl, n_int, n_str, n_tup, n_lst, n_non, n_bl, isT, isStr, lenT2, l1, l2, e, ix20, ix21, q1, en, kd2, ifD, n, if_true, if_false, Bool.false_eq_true, -e_lenT, -e_eqI, -e_leI]
  | false => cases bp with
    | true => cases n : nm r <;> rw [n] at en <;> simp only [startE, List.map, List.length, List.replicate, e_Seq, e_Asg, e_Ret, e_RetF, e_Expr, e_exprK, e_op, e_op2, e_op1, e_un, e_is, e_B, e_bK, e_Cons, e_consK, e_consK2, e_Nil, e_var, e_C, e_bind, e_bindX, e_bindB, e_lookS, e_lookO, M.toD, e_of, e_asgK, e_gSet, e_stK, e_sqN, e_sqR, e_sqB, e_sqC, e_sNil, e_retK, e_retFK, e_add, e_vI, e_neg, e_fInt, e_fIntB, e_sIf, e_sifT, e_sifF, e_T, e_toB, e_Tru, e_truB, e_And, e_Or, e_andT, e_andF, e_orT, e_orF, e_Not, e_notK, e_AndV, e_OrV, e_andVT, e_andVF, e_orVT, e_orVF, e_NotV, e_notVK, e_If, e_ifT, e_ifF, e_Tup, e_Lst, e_LstF, e_tup0, e_lst0, e_lstF0, e_eqI, e_neI, e_ltI, e_leI, e_gtI, e_geI, e_lenL, e_lenT, e_lenR, e_lenS, e_ixL, e_ixT, at0, at1, at2, at3, e_tupL, e_tupT, e_lstT, e_Own, e_ownK, e_Sub, e_For, e_Items, e_itL, e_itT, e_itR, e_Call, e_CallF, e_aNil, e_aVal, e_aVK, e_aVK2, step0, step1, step2, step3, out0, out1, out2, out3, outX1, outX2, outO1, outO2, outO3, e_onSh, e_onOw, decide_true, decide_false, Bool.not_true, Bool.not_false, List.cons_append, List.nil_append, List.getElem?_cons_zero, List.getElem?_cons_succ, List.set_cons_zero, List.set_cons_succ, Nat.reduceLT, Nat.reduceAdd, Nat.reduceSub, Option.map_some, finF, outsE, e_frz, d_rng7, e_forK, e_tnN, e_tnC, e_tnB, e_tnR, e_whT, e_whF, e_Raise, e_Par, e_parK, e_parK2, e_augK, e_Ch, e_chK1, e_chK2, e_chT, e_chF, e_Try, e_tryO, e_tru, e_While, e_abs, e_max2, e_min2, e_gSq2, e_tup1, e_lst1, e_tup2, e_lst2, e_tup3, e_lst3, e_tup4, e_lst4, e_tup5, e_lst5, e_tup6, e_lst6, e_tup7, e_lst7, e_tup8, e_lst8, e_RaF, e_raF1, e_raF2, e_TryA, e_tryAO, e_asgnK, e_frzX, e_bindX, e_Fld, e_SFld, e_Mk, e_mkK1, e_mkK2, e_mkK3, e_mkK4, e_mkO, e_mkX, e_Met, e_metK2, e_Enum, e_enumL, e_enumT, pairs2, pairs3, pairs4, e_lst13, e_lst14, e_lst15, e_lst16, e_lst9, e_lst10, e_lst11, e_lst12, e_tup9, e_tup10, e_tup11, e_tup12, e_ListF, e_listFT, e_listFL, e_GetK, e_getK, e_IfB, e_ifBT, e_ifBF, e_notB, e_isB, o_int, o_str, o_tup, o_lst, o_non, o_bl, n_int, n_str, n_tup, n_lst, n_non, n_bl, isT, isStr, lenT2, l1, l2, e, ix20, ix21, q1, q2, en, kd2, ifD, n, if_true, if_false, Bool.false_eq_true, -e_lenT, -e_eqI, -e_leI]
    | false =>
      cases p with
      | int i =>
        have ew : m_is_whole [.sh (.int i)] = .ok (.sh (.bl true)) [] := ew
        cases bd with
        | true => simp only [startE, List.map, List.length, List.replicate, e_Seq, e_Asg, e_Ret, e_RetF, e_Expr, e_exprK, e_op, e_op2, e_op1, e_un, e_is, e_B, e_bK, e_Cons, e_consK, e_consK2, e_Nil, e_var, e_C, e_bind, e_bindX, e_bindB, e_lookS, e_lookO, M.toD, e_of, e_asgK, e_gSet, e_stK, e_sqN, e_sqR, e_sqB, e_sqC, e_sNil, e_retK, e_retFK, e_add, e_vI, e_neg, e_fInt, e_fIntB, e_sIf, e_sifT, e_sifF, e_T, e_toB, e_Tru, e_truB, e_And, e_Or, e_andT, e_andF, e_orT, e_orF, e_Not, e_notK, e_AndV, e_OrV, e_andVT, e_andVF, e_orVT, e_orVF, e_NotV, e_notVK, e_If, e_ifT, e_ifF, e_Tup, e_Lst, e_LstF, e_tup0, e_lst0, e_lstF0, e_eqI, e_neI, e_ltI, e_leI, e_gtI, e_geI, e_lenL, e_lenT, e_lenR, e_lenS, e_ixL, e_ixT, at0, at1, at2, at3, e_tupL, e_tupT, e_lstT, e_Own, e_ownK, e_Sub, e_For, e_Items, e_itL, e_itT, e_itR, e_Call, e_CallF, e_aNil, e_aVal, e_aVK, e_aVK2, step0, step1, step2, step3, out0, out1, out2, out3, outX1, outX2, outO1, outO2, outO3, e_onSh, e_onOw, decide_true, decide_false, Bool.not_true, Bool.not_false, List.cons_append, List.nil_append, List.getElem?_cons_zero, List.getElem?_cons_succ, List.set_cons_zero, List.set_cons_succ, Nat.reduceLT, Nat.reduceAdd, Nat.reduceSub, Option.map_some, finF, outsE, e_frz, d_rng7, e_forK, e_tnN, e_tnC, e_tnB, e_tnR, e_whT, e_whF, e_Raise, e_Par, e_parK, e_parK2, e_augK, e_Ch, e_chK1, e_chK2, e_chT, e_chF, e_Try, e_tryO, e_tru, e_While, e_abs, e_max2, e_min2, e_gSq2, e_tup1, e_lst1, e_tup2, e_lst2, e_tup3, e_lst3, e_tup4, e_lst4, e_tup5, e_lst5, e_tup6, e_lst6, e_tup7, e_lst7, e_tup8, e_lst8, e_RaF, e_raF1, e_raF2, e_TryA, e_tryAO, e_asgnK, e_frzX, e_bindX, e_Fld, e_SFld, e_Mk, e_mkK1, e_mkK2, e_mkK3, e_mkK4, e_mkO, e_mkX, e_Met, e_metK2, e_Enum, e_enumL, e_enumT, pairs2, pairs3, pairs4, e_lst13, e_lst14, e_lst15, e_lst16, e_lst9, e_lst10, e_lst11, e_lst12, e_tup9, e_tup10, e_tup11, e_tup12, e_ListF, e_listFT, e_listFL, e_GetK, e_getK, e_IfB, e_ifBT, e_ifBF, e_notB, e_isB, o_int, o_str, o_tup, o_lst, o_non, o_bl, n_int, n_str, n_tup, n_lst, n_non, n_bl, isT, isStr, lenT2, l1, l2, e, ix20, ix21, q1, q2, q3, ew, kd2, ifD, if_true, if_false, Bool.false_eq_true, -e_lenT, -e_eqI, -e_leI]
        | false => cases bS with
          | true =>
            have a1 : CK.f .le (.int (-30)) (.int i) = some (.bl (decide (-30 ≤ i))) := rfl
            have a2 : CK.f .le (.int i) g_MOST_STEP = some (.bl (decide (i ≤ 30))) := rfl
            rw [show kd2 false false false true bW (.int i) = ifD (decide (-30 ≤ i) && decide (i ≤ 30)) (.str "day") from rfl]
            generalize decide (-30 ≤ i) = c1 at *
            generalize decide (i ≤ 30) = c2 at *
            cases c1 <;> cases c2 <;> simp only [startE, List.map, List.length, List.replicate, e_Seq, e_Asg, e_Ret, e_RetF, e_Expr, e_exprK, e_op, e_op2, e_op1, e_un, e_is, e_B, e_bK, e_Cons, e_consK, e_consK2, e_Nil, e_var, e_C, e_bind, e_bindX, e_bindB, e_lookS, e_lookO, M.toD, e_of, e_asgK, e_gSet, e_stK, e_sqN, e_sqR, e_sqB, e_sqC, e_sNil, e_retK, e_retFK, e_add, e_vI, e_neg, e_fInt, e_fIntB, e_sIf, e_sifT, e_sifF, e_T, e_toB, e_Tru, e_truB, e_And, e_Or, e_andT, e_andF, e_orT, e_orF, e_Not, e_notK, e_AndV, e_OrV, e_andVT, e_andVF, e_orVT, e_orVF, e_NotV, e_notVK, e_If, e_ifT, e_ifF, e_Tup, e_Lst, e_LstF, e_tup0, e_lst0, e_lstF0, e_eqI, e_neI, e_ltI, e_leI, e_gtI, e_geI, e_lenL, e_lenT, e_lenR, e_lenS, e_ixL, e_ixT, at0, at1, at2, at3, e_tupL, e_tupT, e_lstT, e_Own, e_ownK, e_Sub, e_For, e_Items, e_itL, e_itT, e_itR, e_Call, e_CallF, e_aNil, e_aVal, e_aVK, e_aVK2, step0, step1, step2, step3, out0, out1, out2, out3, outX1, outX2, outO1, outO2, outO3, e_onSh, e_onOw, decide_true, decide_false, Bool.not_true, Bool.not_false, List.cons_append, List.nil_append, List.getElem?_cons_zero, List.getElem?_cons_succ, List.set_cons_zero, List.set_cons_succ, Nat.reduceLT, Nat.reduceAdd, Nat.reduceSub, Option.map_some, finF, outsE, e_frz, d_rng7, e_forK, e_tnN, e_tnC, e_tnB, e_tnR, e_whT, e_whF, e_Raise, e_Par, e_parK, e_parK2, e_augK, e_Ch, e_chK1, e_chK2, e_chT, e_chF, e_Try, e_tryO, e_tru, e_While, e_abs, e_max2, e_min2, e_gSq2, e_tup1, e_lst1, e_tup2, e_lst2, e_tup3, e_lst3, e_tup4, e_lst4, e_tup5, e_lst5, e_tup6, e_lst6, e_tup7, e_lst7, e_tup8, e_lst8, e_RaF, e_raF1, e_raF2, e_TryA, e_tryAO, e_asgnK, e_frzX, e_bindX, e_Fld, e_SFld, e_Mk, e_mkK1, e_mkK2, e_mkK3, e_mkK4, e_mkO, e_mkX, e_Met, e_metK2, e_Enum, e_enumL, e_enumT, pairs2, pairs3, pairs4, e_lst13, e_lst14, e_lst15, e_lst16, e_lst9, e_lst10, e_lst11, e_lst12, e_tup9, e_tup10, e_tup11, e_tup12, e_ListF, e_listFT, e_listFL, e_GetK, e_getK, e_IfB, e_ifBT, e_ifBF, e_notB, e_isB, o_int, o_str, o_tup, o_lst, o_non, o_bl, n_int, n_str, n_tup, n_lst, n_non, n_bl, isT, isStr, lenT2, l1, l2, e, ix20, ix21, q1, q2, q3, q4, neg30, a1, a2, ew, kd2, ifD, if_true, if_false, Bool.false_eq_true, Bool.and_true, Bool.and_false, Bool.true_and, Bool.false_and, -e_lenT, -e_eqI, -e_leI]
          | false => cases bW with
            | true =>
              have a1 : CK.f .le (.int 0) (.int i) = some (.bl (decide (0 ≤ i))) := rfl
              have a2 : CK.f .le (.int i) (.int 6) = some (.bl (decide (i ≤ 6))) := rfl
              rw [show kd2 false false false false true (.int i) = ifD (decide (0 ≤ i) && decide (i ≤ 6)) (.str "day") from rfl]
              generalize decide (0 ≤ i) = c1 at *
              generalize decide (i ≤ 6) = c2 at *
              cases c1 <;> cases c2 <;> simp only [startE, List.map, List.length, List.replicate, e_Seq, e_Asg, e_Ret, e_RetF, e_Expr, e_exprK, e_op, e_op2, e_op1, e_un, e_is, e_B, e_bK, e_Cons, e_consK, e_consK2, e_Nil, e_var, e_C, e_bind, e_bindX, e_bindB, e_lookS, e_lookO, M.toD, e_of, e_asgK, e_gSet, e_stK, e_sqN, e_sqR, e_sqB, e_sqC, e_sNil, e_retK, e_retFK, e_add, e_vI, e_neg, e_fInt, e_fIntB, e_sIf, e_sifT, e_sifF, e_T, e_toB, e_Tru, e_truB, e_And, e_Or, e_andT, e_andF, e_orT, e_orF, e_Not, e_notK, e_AndV, e_OrV, e_andVT, e_andVF, e_orVT, e_orVF, e_NotV, e_notVK, e_If, e_ifT, e_ifF, e_Tup, e_Lst, e_LstF, e_tup0, e_lst0, e_lstF0, e_eqI, e_neI, e_ltI, e_leI, e_gtI, e_geI, e_lenL, e_lenT, e_lenR, e_lenS, e_ixL, e_ixT, at0, at1, at2, at3, e_tupL, e_tupT, e_lstT, e_Own, e_ownK, e_Sub, e_For, e_Items, e_itL, e_itT, e_itR, e_Call, e_CallF, e_aNil, e_aVal, e_aVK, e_aVK2, step0, step1, step2, step3, out0, out1, out2, out3, outX1, outX2, outO1, outO2, outO3, e_onSh, e_onOw, decide_true, decide_false, Bool.not_true, Bool.not_false, List.cons_append, List.nil_append, List.getElem?_cons_zero, List.getElem?_cons_succ, List.set_cons_zero, List.set_cons_succ, Nat.reduceLT, Nat.reduceAdd, Nat.reduceSub, Option.map_some, finF, outsE, e_frz, d_rng7, e_forK, e_tnN, e_tnC, e_tnB, e_tnR, e_whT, e_whF, e_Raise, e_Par, e_parK, e_parK2, e_augK, e_Ch, e_chK1, e_chK2, e_chT, e_chF, e_Try, e_tryO, e_tru, e_While, e_abs, e_max2, e_min2, e_gSq2, e_tup1, e_lst1, e_tup2, e_lst2, e_tup3, e_lst3, e_tup4, e_lst4, e_tup5, e_lst5, e_tup6, e_lst6, e_tup7, e_lst7, e_tup8, e_lst8, e_RaF, e_raF1, e_raF2, e_TryA, e_tryAO, e_asgnK, e_frzX, e_bindX, e_Fld, e_SFld, e_Mk, e_mkK1, e_mkK2, e_mkK3, e_mkK4, e_mkO, e_mkX, e_Met, e_metK2, e_Enum, e_enumL, e_enumT, pairs2, pairs3, pairs4, e_lst13, e_lst14, e_lst15, e_lst16, e_lst9, e_lst10, e_lst11, e_lst12, e_tup9, e_tup10, e_tup11, e_tup12, e_ListF, e_listFT, e_listFL, e_GetK, e_getK, e_IfB, e_ifBT, e_ifBF, e_notB, e_isB, o_int, o_str, o_tup, o_lst, o_non, o_bl, n_int, n_str, n_tup, n_lst, n_non, n_bl, isT, isStr, lenT2, l1, l2, e, ix20, ix21, q1, q2, q3, q4, q5, a1, a2, ew, kd2, ifD, if_true, if_false, Bool.false_eq_true, Bool.and_true, Bool.and_false, Bool.true_and, Bool.false_and, -e_lenT, -e_eqI, -e_leI]
            | false => simp only [startE, List.map, List.length, List.replicate, e_Seq, e_Asg, e_Ret, e_RetF, e_Expr, e_exprK, e_op, e_op2, e_op1, e_un, e_is, e_B, e_bK, e_Cons, e_consK, e_consK2, e_Nil, e_var, e_C, e_bind, e_bindX, e_bindB, e_lookS, e_lookO, M.toD, e_of, e_asgK, e_gSet, e_stK, e_sqN, e_sqR, e_sqB, e_sqC, e_sNil, e_retK, e_retFK, e_add, e_vI, e_neg, e_fInt, e_fIntB, e_sIf, e_sifT, e_sifF, e_T, e_toB, e_Tru, e_truB, e_And, e_Or, e_andT, e_andF, e_orT, e_orF, e_Not, e_notK, e_AndV, e_OrV, e_andVT, e_andVF, e_orVT, e_orVF, e_NotV, e_notVK, e_If, e_ifT, e_ifF, e_Tup, e_Lst, e_LstF, e_tup0, e_lst0, e_lstF0, e_eqI, e_neI, e_ltI, e_leI, e_gtI, e_geI, e_lenL, e_lenT, e_lenR, e_lenS, e_ixL, e_ixT, at0, at1, at2, at3, e_tupL, e_tupT, e_lstT, e_Own, e_ownK, e_Sub, e_For, e_Items, e_itL, e_itT, e_itR, e_Call, e_CallF, e_aNil, e_aVal, e_aVK, e_aVK2, step0, step1, step2, step3, out0, out1, out2, out3, outX1, outX2, outO1, outO2, outO3, e_onSh, e_onOw, decide_true, decide_false, Bool.not_true, Bool.not_false, List.cons_append, List.nil_append, List.getElem?_cons_zero, List.getElem?_cons_succ, List.set_cons_zero, List.set_cons_succ, Nat.reduceLT, Nat.reduceAdd, Nat.reduceSub, Option.map_some, finF, outsE, e_frz, d_rng7, e_forK, e_tnN, e_tnC, e_tnB, e_tnR, e_whT, e_whF, e_Raise, e_Par, e_parK, e_parK2, e_augK, e_Ch, e_chK1, e_chK2, e_chT, e_chF, e_Try, e_tryO, e_tru, e_While, e_abs, e_max2, e_min2, e_gSq2, e_tup1, e_lst1, e_tup2, e_lst2, e_tup3, e_lst3, e_tup4, e_lst4, e_tup5, e_lst5, e_tup6, e_lst6, e_tup7, e_lst7, e_tup8, e_lst8, e_RaF, e_raF1, e_raF2, e_TryA, e_tryAO, e_asgnK, e_frzX, e_bindX, e_Fld, e_SFld, e_Mk, e_mkK1, e_mkK2, e_mkK3, e_mkK4, e_mkO, e_mkX, e_Met, e_metK2, e_Enum, e_enumL, e_enumT, pairs2, pairs3, pairs4, e_lst13, e_lst14, e_lst15, e_lst16, e_lst9, e_lst10, e_lst11, e_lst12, e_tup9, e_tup10, e_tup11, e_tup12, e_ListF, e_listFT, e_listFL, e_GetK, e_getK, e_IfB, e_ifBT, e_ifBF, e_notB, e_isB, o_int, o_str, o_tup, o_lst, o_non, o_bl, n_int, n_str, n_tup, n_lst, n_non, n_bl, isT, isStr, lenT2, l1, l2, e, ix20, ix21, q1, q2, q3, q4, q5, ew, kd2, if_true, if_false, Bool.false_eq_true, -e_lenT, -e_eqI, -e_leI]
      | non => simp only [startE, List.map, List.length, List.replicate, e_Seq, e_Asg, e_Ret, e_RetF, e_Expr, e_exprK, e_op, e_op2, e_op1, e_un, e_is, e_B, e_bK, e_Cons, e_consK, e_consK2, e_Nil, e_var, e_C, e_bind, e_bindX, e_bindB, e_lookS, e_lookO, M.toD, e_of, e_asgK, e_gSet, e_stK, e_sqN, e_sqR, e_sqB, e_sqC, e_sNil, e_retK, e_retFK, e_add, e_vI, e_neg, e_fInt, e_fIntB, e_sIf, e_sifT, e_sifF, e_T, e_toB, e_Tru, e_truB, e_And, e_Or, e_andT, e_andF, e_orT, e_orF, e_Not, e_notK, e_AndV, e_OrV, e_andVT, e_andVF, e_orVT, e_orVF, e_NotV, e_notVK, e_If, e_ifT, e_ifF, e_Tup, e_Lst, e_LstF, e_tup0, e_lst0, e_lstF0, e_eqI, e_neI, e_ltI, e_leI, e_gtI, e_geI, e_lenL, e_lenT, e_lenR, e_lenS, e_ixL, e_ixT, at0, at1, at2, at3, e_tupL, e_tupT, e_lstT, e_Own, e_ownK, e_Sub, e_For, e_Items, e_itL, e_itT, e_itR, e_Call, e_CallF, e_aNil, e_aVal, e_aVK, e_aVK2, step0, step1, step2, step3, out0, out1, out2, out3, outX1, outX2, outO1, outO2, outO3, e_onSh, e_onOw, decide_true, decide_false, Bool.not_true, Bool.not_false, List.cons_append, List.nil_append, List.getElem?_cons_zero, List.getElem?_cons_succ, List.set_cons_zero, List.set_cons_succ, Nat.reduceLT, Nat.reduceAdd, Nat.reduceSub, Option.map_some, finF, outsE, e_frz, d_rng7, e_forK, e_tnN, e_tnC, e_tnB, e_tnR, e_whT, e_whF, e_Raise, e_Par, e_parK, e_parK2, e_augK, e_Ch, e_chK1, e_chK2, e_chT, e_chF, e_Try, e_tryO, e_tru, e_While, e_abs, e_max2, e_min2, e_gSq2, e_tup1, e_lst1, e_tup2, e_lst2, e_tup3, e_lst3, e_tup4, e_lst4, e_tup5, e_lst5, e_tup6, e_lst6, e_tup7, e_lst7, e_tup8, e_lst8, e_RaF, e_raF1, e_raF2, e_TryA, e_tryAO, e_asgnK, e_frzX, e_bindX, e_Fld, e_SFld, e_Mk, e_mkK1, e_mkK2, e_mkK3, e_mkK4, e_mkO, e_mkX, e_Met, e_metK2, e_Enum, e_enumL, e_enumT, pairs2, pairs3, pairs4, e_lst13, e_lst14, e_lst15, e_lst16, e_lst9, e_lst10, e_lst11, e_lst12, e_tup9, e_tup10, e_tup11, e_tup12, e_ListF, e_listFT, e_listFL, e_GetK, e_getK, e_IfB, e_ifBT, e_ifBF, e_notB, e_isB, o_int, o_str, o_tup, o_lst, o_non, o_bl, n_int, n_str, n_tup, n_lst, n_non, n_bl, isT, isStr, lenT2, l1, l2, e, ix20, ix21, q1, q2, show m_is_whole [.sh .non] = .ok (.sh (.bl false)) [] from ew, kd2, if_true, if_false, Bool.false_eq_true, -e_lenT, -e_eqI, -e_leI]
      | bl b => simp only [startE, List.map, List.length, List.replicate, e_Seq, e_Asg, e_Ret, e_RetF, e_Expr, e_exprK, e_op, e_op2, e_op1, e_un, e_is, e_B, e_bK, e_Cons, e_consK, e_consK2, e_Nil, e_var, e_C, e_bind, e_bindX, e_bindB, e_lookS, e_lookO, M.toD, e_of, e_asgK, e_gSet, e_stK, e_sqN, e_sqR, e_sqB, e_sqC, e_sNil, e_retK, e_retFK, e_add, e_vI, e_neg, e_fInt, e_fIntB, e_sIf, e_sifT, e_sifF, e_T, e_toB, e_Tru, e_truB, e_And, e_Or, e_andT, e_andF, e_orT, e_orF, e_Not, e_notK, e_AndV, e_OrV, e_andVT, e_andVF, e_orVT, e_orVF, e_NotV, e_notVK, e_If, e_ifT, e_ifF, e_Tup, e_Lst, e_LstF, e_tup0, e_lst0, e_lstF0, e_eqI, e_neI, e_ltI, e_leI, e_gtI, e_geI, e_lenL, e_lenT, e_lenR, e_lenS, e_ixL, e_ixT, at0, at1, at2, at3, e_tupL, e_tupT, e_lstT, e_Own, e_ownK, e_Sub, e_For, e_Items, e_itL, e_itT, e_itR, e_Call, e_CallF, e_aNil, e_aVal, e_aVK, e_aVK2, step0, step1, step2, step3, out0, out1, out2, out3, outX1, outX2, outO1, outO2, outO3, e_onSh, e_onOw, decide_true, decide_false, Bool.not_true, Bool.not_false, List.cons_append, List.nil_append, List.getElem?_cons_zero, List.getElem?_cons_succ, List.set_cons_zero, List.set_cons_succ, Nat.reduceLT, Nat.reduceAdd, Nat.reduceSub, Option.map_some, finF, outsE, e_frz, d_rng7, e_forK, e_tnN, e_tnC, e_tnB, e_tnR, e_whT, e_whF, e_Raise, e_Par, e_parK, e_parK2, e_augK, e_Ch, e_chK1, e_chK2, e_chT, e_chF, e_Try, e_tryO, e_tru, e_While, e_abs, e_max2, e_min2, e_gSq2, e_tup1, e_lst1, e_tup2, e_lst2, e_tup3, e_lst3, e_tup4, e_lst4, e_tup5, e_lst5, e_tup6, e_lst6, e_tup7, e_lst7, e_tup8, e_lst8, e_RaF, e_raF1, e_raF2, e_TryA, e_tryAO, e_asgnK, e_frzX, e_bindX, e_Fld, e_SFld, e_Mk, e_mkK1, e_mkK2, e_mkK3, e_mkK4, e_mkO, e_mkX, e_Met, e_metK2, e_Enum, e_enumL, e_enumT, pairs2, pairs3, pairs4, e_lst13, e_lst14, e_lst15, e_lst16, e_lst9, e_lst10, e_lst11, e_lst12, e_tup9, e_tup10, e_tup11, e_tup12, e_ListF, e_listFT, e_listFL, e_GetK, e_getK, e_IfB, e_ifBT, e_ifBF, e_notB, e_isB, o_int, o_str, o_tup, o_lst, o_non, o_bl, n_int, n_str, n_tup, n_lst, n_non, n_bl, isT, isStr, lenT2, l1, l2, e, ix20, ix21, q1, q2, show m_is_whole [.sh (.bl b)] = .ok (.sh (.bl false)) [] from ew, kd2, if_true, if_false, Bool.false_eq_true, -e_lenT, -e_eqI, -e_leI]
      | lst b => simp only [startE, List.map, List.length, List.replicate, e_Seq, e_Asg, e_Ret, e_RetF, e_Expr, e_exprK, e_op, e_op2, e_op1, e_un, e_is, e_B, e_bK, e_Cons, e_consK, e_consK2, e_Nil, e_var, e_C, e_bind, e_bindX, e_bindB, e_lookS, e_lookO, M.toD, e_of, e_asgK, e_gSet, e_stK, e_sqN, e_sqR, e_sqB, e_sqC, e_sNil, e_retK, e_retFK, e_add, e_vI, e_neg, e_fInt, e_fIntB, e_sIf, e_sifT, e_sifF, e_T, e_toB, e_Tru, e_truB, e_And, e_Or, e_andT, e_andF, e_orT, e_orF, e_Not, e_notK, e_AndV, e_OrV, e_andVT, e_andVF, e_orVT, e_orVF, e_NotV, e_notVK, e_If, e_ifT, e_ifF, e_Tup, e_Lst, e_LstF, e_tup0, e_lst0, e_lstF0, e_eqI, e_neI, e_ltI, e_leI, e_gtI, e_geI, e_lenL, e_lenT, e_lenR, e_lenS, e_ixL, e_ixT, at0, at1, at2, at3, e_tupL, e_tupT, e_lstT, e_Own, e_ownK, e_Sub, e_For, e_Items, e_itL, e_itT, e_itR, e_Call, e_CallF, e_aNil, e_aVal, e_aVK, e_aVK2, step0, step1, step2, step3, out0, out1, out2, out3, outX1, outX2, outO1, outO2, outO3, e_onSh, e_onOw, decide_true, decide_false, Bool.not_true, Bool.not_false, List.cons_append, List.nil_append, List.getElem?_cons_zero, List.getElem?_cons_succ, List.set_cons_zero, List.set_cons_succ, Nat.reduceLT, Nat.reduceAdd, Nat.reduceSub, Option.map_some, finF, outsE, e_frz, d_rng7, e_forK, e_tnN, e_tnC, e_tnB, e_tnR, e_whT, e_whF, e_Raise, e_Par, e_parK, e_parK2, e_augK, e_Ch, e_chK1, e_chK2, e_chT, e_chF, e_Try, e_tryO, e_tru, e_While, e_abs, e_max2, e_min2, e_gSq2, e_tup1, e_lst1, e_tup2, e_lst2, e_tup3, e_lst3, e_tup4, e_lst4, e_tup5, e_lst5, e_tup6, e_lst6, e_tup7, e_lst7, e_tup8, e_lst8, e_RaF, e_raF1, e_raF2, e_TryA, e_tryAO, e_asgnK, e_frzX, e_bindX, e_Fld, e_SFld, e_Mk, e_mkK1, e_mkK2, e_mkK3, e_mkK4, e_mkO, e_mkX, e_Met, e_metK2, e_Enum, e_enumL, e_enumT, pairs2, pairs3, pairs4, e_lst13, e_lst14, e_lst15, e_lst16, e_lst9, e_lst10, e_lst11, e_lst12, e_tup9, e_tup10, e_tup11, e_tup12, e_ListF, e_listFT, e_listFL, e_GetK, e_getK, e_IfB, e_ifBT, e_ifBF, e_notB, e_isB, o_int, o_str, o_tup, o_lst, o_non, o_bl, n_int, n_str, n_tup, n_lst, n_non, n_bl, isT, isStr, lenT2, l1, l2, e, ix20, ix21, q1, q2, show m_is_whole [.sh (.lst b)] = .ok (.sh (.bl false)) [] from ew, kd2, if_true, if_false, Bool.false_eq_true, -e_lenT, -e_eqI, -e_leI]
      | tup b => simp only [startE, List.map, List.length, List.replicate, e_Seq, e_Asg, e_Ret, e_RetF, e_Expr, e_exprK, e_op, e_op2, e_op1, e_un, e_is, e_B, e_bK, e_Cons, e_consK, e_consK2, e_Nil, e_var, e_C, e_bind, e_bindX, e_bindB, e_lookS, e_lookO, M.toD, e_of, e_asgK, e_gSet, e_stK, e_sqN, e_sqR, e_sqB, e_sqC, e_sNil, e_retK, e_retFK, e_add, e_vI, e_neg, e_fInt, e_fIntB, e_sIf, e_sifT, e_sifF, e_T, e_toB, e_Tru, e_truB, e_And, e_Or, e_andT, e_andF, e_orT, e_orF, e_Not, e_notK, e_AndV, e_OrV, e_andVT, e_andVF, e_orVT, e_orVF, e_NotV, e_notVK, e_If, e_ifT, e_ifF, e_Tup, e_Lst, e_LstF, e_tup0, e_lst0, e_lstF0, e_eqI, e_neI, e_ltI, e_leI, e_gtI, e_geI, e_lenL, e_lenT, e_lenR, e_lenS, e_ixL, e_ixT, at0, at1, at2, at3, e_tupL, e_tupT, e_lstT, e_Own, e_ownK, e_Sub, e_For, e_Items, e_itL, e_itT, e_itR, e_Call, e_CallF, e_aNil, e_aVal, e_aVK, e_aVK2, step0, step1, step2, step3, out0, out1, out2, out3, outX1, outX2, outO1, outO2, outO3, e_onSh, e_onOw, decide_true, decide_false, Bool.not_true, Bool.not_false, List.cons_append, List.nil_append, List.getElem?_cons_zero, List.getElem?_cons_succ, List.set_cons_zero, List.set_cons_succ, Nat.reduceLT, Nat.reduceAdd, Nat.reduceSub, Option.map_some, finF, outsE, e_frz, d_rng7, e_forK, e_tnN, e_tnC, e_tnB, e_tnR, e_whT, e_whF, e_Raise, e_Par, e_parK, e_parK2, e_augK, e_Ch, e_chK1, e_chK2, e_chT, e_chF, e_Try, e_tryO, e_tru, e_While, e_abs, e_max2, e_min2, e_gSq2, e_tup1, e_lst1, e_tup2, e_lst2, e_tup3, e_lst3, e_tup4, e_lst4, e_tup5, e_lst5, e_tup6, e_lst6, e_tup7, e_lst7, e_tup8, e_lst8, e_RaF, e_raF1, e_raF2, e_TryA, e_tryAO, e_asgnK, e_frzX, e_bindX, e_Fld, e_SFld, e_Mk, e_mkK1, e_mkK2, e_mkK3, e_mkK4, e_mkO, e_mkX, e_Met, e_metK2, e_Enum, e_enumL, e_enumT, pairs2, pairs3, pairs4, e_lst13, e_lst14, e_lst15, e_lst16, e_lst9, e_lst10, e_lst11, e_lst12, e_tup9, e_tup10, e_tup11, e_tup12, e_ListF, e_listFT, e_listFL, e_GetK, e_getK, e_IfB, e_ifBT, e_ifBF, e_notB, e_isB, o_int, o_str, o_tup, o_lst, o_non, o_bl, n_int, n_str, n_tup, n_lst, n_non, n_bl, isT, isStr, lenT2, l1, l2, e, ix20, ix21, q1, q2, show m_is_whole [.sh (.tup b)] = .ok (.sh (.bl false)) [] from ew, kd2, if_true, if_false, Bool.false_eq_true, -e_lenT, -e_eqI, -e_leI]
      | @nam x hx => simp only [startE, List.map, List.length, List.replicate, e_Seq, e_Asg, e_Ret, e_RetF, e_Expr, e_exprK, e_op, e_op2, e_op1, e_un, e_is, e_B, e_bK, e_Cons, e_consK, e_consK2, e_Nil, e_var, e_C, e_bind, e_bindX, e_bindB, e_lookS, e_lookO, M.toD, e_of, e_asgK, e_gSet, e_stK, e_sqN, e_sqR, e_sqB, e_sqC, e_sNil, e_retK, e_retFK, e_add, e_vI, e_neg, e_fInt, e_fIntB, e_sIf, e_sifT, e_sifF, e_T, e_toB, e_Tru, e_truB, e_And, e_Or, e_andT, e_andF, e_orT, e_orF, e_Not, e_notK, e_AndV, e_OrV, e_andVT, e_andVF, e_orVT, e_orVF, e_NotV, e_notVK, e_If, e_ifT, e_ifF, e_Tup, e_Lst, e_LstF, e_tup0, e_lst0, e_lstF0, e_eqI, e_neI, e_ltI, e_leI, e_gtI, e_geI, e_lenL, e_lenT, e_lenR, e_lenS, e_ixL, e_ixT, at0, at1, at2, at3, e_tupL, e_tupT, e_lstT, e_Own, e_ownK, e_Sub, e_For, e_Items, e_itL, e_itT, e_itR, e_Call, e_CallF, e_aNil, e_aVal, e_aVK, e_aVK2, step0, step1, step2, step3, out0, out1, out2, out3, outX1, outX2, outO1, outO2, outO3, e_onSh, e_onOw, decide_true, decide_false, Bool.not_true, Bool.not_false, List.cons_append, List.nil_append, List.getElem?_cons_zero, List.getElem?_cons_succ, List.set_cons_zero, List.set_cons_succ, Nat.reduceLT, Nat.reduceAdd, Nat.reduceSub, Option.map_some, finF, outsE, e_frz, d_rng7, e_forK, e_tnN, e_tnC, e_tnB, e_tnR, e_whT, e_whF, e_Raise, e_Par, e_parK, e_parK2, e_augK, e_Ch, e_chK1, e_chK2, e_chT, e_chF, e_Try, e_tryO, e_tru, e_While, e_abs, e_max2, e_min2, e_gSq2, e_tup1, e_lst1, e_tup2, e_lst2, e_tup3, e_lst3, e_tup4, e_lst4, e_tup5, e_lst5, e_tup6, e_lst6, e_tup7, e_lst7, e_tup8, e_lst8, e_RaF, e_raF1, e_raF2, e_TryA, e_tryAO, e_asgnK, e_frzX, e_bindX, e_Fld, e_SFld, e_Mk, e_mkK1, e_mkK2, e_mkK3, e_mkK4, e_mkO, e_mkX, e_Met, e_metK2, e_Enum, e_enumL, e_enumT, pairs2, pairs3, pairs4, e_lst13, e_lst14, e_lst15, e_lst16, e_lst9, e_lst10, e_lst11, e_lst12, e_tup9, e_tup10, e_tup11, e_tup12, e_ListF, e_listFT, e_listFL, e_GetK, e_getK, e_IfB, e_ifBT, e_ifBF, e_notB, e_isB, o_int, o_str, o_tup, o_lst, o_non, o_bl, n_int, n_str, n_tup, n_lst, n_non, n_bl, isT, isStr, lenT2, l1, l2, e, ix20, ix21, q1, q2, show m_is_whole [.sh (.str x)] = .ok (.sh (.bl false)) [] from ew, kd2, if_true, if_false, Bool.false_eq_true, -e_lenT, -e_eqI, -e_leI]
      | @bad x hx _ => simp only [startE, List.map, List.length, List.replicate, e_Seq, e_Asg, e_Ret, e_RetF, e_Expr, e_exprK, e_op, e_op2, e_op1, e_un, e_is, e_B, e_bK, e_Cons, e_consK, e_consK2, e_Nil, e_var, e_C, e_bind, e_bindX, e_bindB, e_lookS, e_lookO, M.toD, e_of, e_asgK, e_gSet, e_stK, e_sqN, e_sqR, e_sqB, e_sqC, e_sNil, e_retK, e_retFK, e_add, e_vI, e_neg, e_fInt, e_fIntB, e_sIf, e_sifT, e_sifF, e_T, e_toB, e_Tru, e_truB, e_And, e_Or, e_andT, e_andF, e_orT, e_orF, e_Not, e_notK, e_AndV, e_OrV, e_andVT, e_andVF, e_orVT, e_orVF, e_NotV, e_notVK, e_If, e_ifT, e_ifF, e_Tup, e_Lst, e_LstF, e_tup0, e_lst0, e_lstF0, e_eqI, e_neI, e_ltI, e_leI, e_gtI, e_geI, e_lenL, e_lenT, e_lenR, e_lenS, e_ixL, e_ixT, at0, at1, at2, at3, e_tupL, e_tupT, e_lstT, e_Own, e_ownK, e_Sub, e_For, e_Items, e_itL, e_itT, e_itR, e_Call, e_CallF, e_aNil, e_aVal, e_aVK, e_aVK2, step0, step1, step2, step3, out0, out1, out2, out3, outX1, outX2, outO1, outO2, outO3, e_onSh, e_onOw, decide_true, decide_false, Bool.not_true, Bool.not_false, List.cons_append, List.nil_append, List.getElem?_cons_zero, List.getElem?_cons_succ, List.set_cons_zero, List.set_cons_succ, Nat.reduceLT, Nat.reduceAdd, Nat.reduceSub, Option.map_some, finF, outsE, e_frz, d_rng7, e_forK, e_tnN, e_tnC, e_tnB, e_tnR, e_whT, e_whF, e_Raise, e_Par, e_parK, e_parK2, e_augK, e_Ch, e_chK1, e_chK2, e_chT, e_chF, e_Try, e_tryO, e_tru, e_While, e_abs, e_max2, e_min2, e_gSq2, e_tup1, e_lst1, e_tup2, e_lst2, e_tup3, e_lst3, e_tup4, e_lst4, e_tup5, e_lst5, e_tup6, e_lst6, e_tup7, e_lst7, e_tup8, e_lst8, e_RaF, e_raF1, e_raF2, e_TryA, e_tryAO, e_asgnK, e_frzX, e_bindX, e_Fld, e_SFld, e_Mk, e_mkK1, e_mkK2, e_mkK3, e_mkK4, e_mkO, e_mkX, e_Met, e_metK2, e_Enum, e_enumL, e_enumT, pairs2, pairs3, pairs4, e_lst13, e_lst14, e_lst15, e_lst16, e_lst9, e_lst10, e_lst11, e_lst12, e_tup9, e_tup10, e_tup11, e_tup12, e_ListF, e_listFT, e_listFL, e_GetK, e_getK, e_IfB, e_ifBT, e_ifBF, e_notB, e_isB, o_int, o_str, o_tup, o_lst, o_non, o_bl, n_int, n_str, n_tup, n_lst, n_non, n_bl, isT, isStr, lenT2, l1, l2, e, ix20, ix21, q1, q2, show m_is_whole [.sh (.str x)] = .ok (.sh (.bl false)) [] from ew, kd2, if_true, if_false, Bool.false_eq_true, -e_lenT, -e_eqI, -e_leI]
end L01
set_option Elab.async false
set_option linter.all false
set_option maxRecDepth 100000
set_option maxHeartbeats 4000000
namespace L01
open PySem L2 Rf
def SW : List Str := ["I", "you", "self", "told", "somebody", "one day", "here", "there", "somewhere"]
def P5 : List Str := ["I", "you", "self", "told", "somebody"]
def D1 : List Str := ["one day"]
def P3 : List Str := ["here", "there", "somewhere"]
theorem sgl_out {h : Str} (q : h ∉ SW) : sgl h = .non := by
  simp only [SW, List.mem_cons, List.not_mem_nil, or_false, not_or] at q
  obtain ⟨q1, q2, q3, q4, q5, q6, q7, q8, q9⟩ := q
  unfold sgl tab_SINGLE_WORDS
  simp only [lkS, q1, q2, q3, q4, q5, q6, q7, q8, q9, if_false, Option.getD_none]
theorem sub_out {h : Str} (q : h ∉ SW) : h ∉ P5 ∧ h ∉ D1 ∧ h ∉ P3 := by
  simp only [SW, List.mem_cons, List.not_mem_nil, or_false, not_or] at q
  obtain ⟨q1, q2, q3, q4, q5, q6, q7, q8, q9⟩ := q
  refine ⟨?_, ?_, ?_⟩
  · simp only [P5, List.mem_cons, List.not_mem_nil, or_false, not_or]; exact ⟨q1, q2, q3, q4, q5⟩
  · simp only [D1, List.mem_cons, List.not_mem_nil, or_false, not_or]; exact q6
  · simp only [P3, List.mem_cons, List.not_mem_nil, or_false, not_or]; exact ⟨q7, q8, q9⟩
theorem lkind1 {h : Str} (ok : PyData.strOk h = true) : m__law_kind [.sh (.tup [.str h])] = .ok (.sh (sgl h)) [] := by
  by_cases q : h ∈ SW
  · simp only [SW, List.mem_cons, List.not_mem_nil, or_false] at q
    rcases q with q | q | q | q | q | q | q | q | q <;> rw [q] <;> kernel_rfl
  · rw [sgl_out q]
    obtain ⟨n1, n2, n3⟩ := sub_out q
    have z1 : CK.f .eq (.int 1) (.int 0) = some (.bl false) := rfl
    have z2 : CK.f .gt (.int 1) (.int 2) = some (.bl false) := rfl
    have z3 : CK.f .eq (.int 1) (.int 1) = some (.bl true) := rfl
    have i1 : CK.f .in_ (.str h) (.lst [.str "I", .str "you", .str "self", .str "told", .str "somebody"]) = some (.bl false) := by
      have := in_lstS (ws := P5) false ok (by decide +kernel); rw [decide_eq_false n1] at this; exact this
    have i2 : CK.f .in_ (.str h) (.lst [.str "one day"]) = some (.bl false) := by
      have := in_lstS (ws := D1) false ok (by decide +kernel); rw [decide_eq_false n2] at this; exact this
    have i3 : CK.f .in_ (.str h) (.lst [.str "here", .str "there", .str "somewhere"]) = some (.bl false) := by
      have := in_lstS (ws := P3) false ok (by decide +kernel); rw [decide_eq_false n3] at this; exact this
    refine (e_run [] 5 _ _ rfl).trans ?_
    unfold b__law_kind
    simp only [startE, List.map, List.length, List.replicate, e_Seq, e_Asg, e_Ret, e_RetF, e_Expr, e_exprK, e_op, e_op2, e_op1, e_un, e_is, e_B, e_bK, e_Cons, e_consK, e_consK2, e_Nil, e_var, e_C, e_bind, e_bindX, e_bindB, e_lookS, e_lookO, M.toD, e_of, e_asgK, e_gSet, e_stK, e_sqN, e_sqR, e_sqB, e_sqC, e_sNil, e_retK, e_retFK, e_add, e_vI, e_neg, e_fInt, e_fIntB, e_sIf, e_sifT, e_sifF, e_T, e_toB, e_Tru, e_truB, e_And, e_Or, e_andT, e_andF, e_orT, e_orF, e_Not, e_notK, e_AndV, e_OrV, e_andVT, e_andVF, e_orVT, e_orVF, e_NotV, e_notVK, e_If, e_ifT, e_ifF, e_Tup, e_Lst, e_LstF, e_tup0, e_lst0, e_lstF0, e_eqI, e_neI, e_ltI, e_leI, e_gtI, e_geI, e_lenL, e_lenT, e_lenR, e_lenS, e_ixL, e_ixT, at0, at1, at2, at3, e_tupL, e_tupT, e_lstT, e_Own, e_ownK, e_Sub, e_For, e_Items, e_itL, e_itT, e_itR, e_Call, e_CallF, e_aNil, e_aVal, e_aVK, e_aVK2, step0, step1, step2, step3, out0, out1, out2, out3, outX1, outX2, outO1, outO2, outO3, e_onSh, e_onOw, decide_true, decide_false, Bool.not_true, Bool.not_false, List.cons_append, List.nil_append, List.getElem?_cons_zero, List.getElem?_cons_succ, List.set_cons_zero, List.set_cons_succ, Nat.reduceLT, Nat.reduceAdd, Nat.reduceSub, Option.map_some, finF, outsE, e_frz, d_rng7, e_forK, e_tnN, e_tnC, e_tnB, e_tnR, e_whT, e_whF, e_Raise, e_Par, e_parK, e_parK2, e_augK, e_Ch, e_chK1, e_chK2, e_chT, e_chF, e_Try, e_tryO, e_tru, e_While, e_abs, e_max2, e_min2, e_gSq2, e_tup1, e_lst1, e_tup2, e_lst2, e_tup3, e_lst3, e_tup4, e_lst4, e_tup5, e_lst5, e_tup6, e_lst6, e_tup7, e_lst7, e_tup8, e_lst8, e_RaF, e_raF1, e_raF2, e_TryA, e_tryAO, e_asgnK, e_frzX, e_bindX, e_Fld, e_SFld, e_Mk, e_mkK1, e_mkK2, e_mkK3, e_mkK4, e_mkO, e_mkX, e_Met, e_metK2, e_Enum, e_enumL, e_enumT, pairs2, pairs3, pairs4, e_lst13, e_lst14, e_lst15, e_lst16, e_lst9, e_lst10, e_lst11, e_lst12, e_tup9, e_tup10, e_tup11, e_tup12, e_ListF, e_listFT, e_listFL, e_GetK, e_getK, e_IfB, e_ifBT, e_ifBF, e_notB, e_isB, o_int, o_str, o_tup, o_lst, o_non, o_bl, n_int, n_str, n_tup, n_lst, n_non, n_bl, isT, isStr, lenT1, z1, z2, z3, ix10, i1, i2, i3, forL_gS2, forL_nil, -e_lenT, -e_eqI, -e_gtI]
theorem lkind2 {h : Str} {r : D} (ok : PyData.strOk h = true) (p : Pl r) : m__law_kind [.sh (.tup [.str h, r])] = .ok (.sh (kd (.tup [.str h, r]))) [] := by
  have z1 : CK.f .eq (.int 2) (.int 0) = some (.bl false) := rfl
  have z2 : CK.f .gt (.int 2) (.int 2) = some (.bl false) := rfl
  have z3 : CK.f .eq (.int 2) (.int 1) = some (.bl false) := rfl
  have q1 := e_eqS h "name"
  have q2 := e_eqS h "place"
  have q3 := e_eqS h "date"
  have q4 : CK.f .notIn (.str h) (.lst [.str "today", .str "that day"]) = some (.bl !decide (h ∈ STEP)) := in_lstS (ws := STEP) true ok (by decide +kernel)
  have q5 : CK.f .in_ (.str h) (.lst [.str "coming", .str "last", .str "then coming", .str "then last"]) = some (.bl (decide (h ∈ WEEK))) := in_lstS (ws := WEEK) false ok (by decide +kernel)
  have ex := excl h
  have np : ¬ (decide (h = "name") = true ∧ decide (h = "place") = true) := by
    intro ⟨a, b⟩
    rw [decide_eq_true_eq] at a b
    rw [a] at b
    exact absurd b (by decide +kernel)
  have en := letters_ok p
  have ew := lwhole_ok p
  have b0 : vIxB (.lst [.str "person", .str "place"]) (.bl false) = some (.str "person") := rfl
  have b1 : vIxB (.lst [.str "person", .str "place"]) (.bl true) = some (.str "place") := rfl
  refine (e_run [] 5 _ _ rfl).trans ?_
  unfold b__law_kind
  rw [show kd (.tup [.str h, r]) = kd2 (decide (h = "name")) (decide (h = "place")) (decide (h = "date")) (decide (h ∈ STEP)) (decide (h ∈ WEEK)) r from rfl]
  generalize decide (h = "name") = bn at *
  generalize decide (h = "place") = bp at *
  generalize decide (h = "date") = bd at *
  generalize decide (h ∈ STEP) = bS at *
  generalize decide (h ∈ WEEK) = bW at *
  cases bn with
  | true => cases bp with
    | true => exact absurd ⟨rfl, rfl⟩ np
    | false => cases n : nm r <;> rw [n] at en <;> simp only [startE, List.map, List.length, List.replicate, e_Seq, e_Asg, e_Ret, e_RetF, e_Expr, e_exprK, e_op, e_op2, e_op1, e_un, e_is, e_B, e_bK, e_Cons, e_consK, e_consK2, e_Nil, e_var, e_C, e_bind, e_bindX, e_bindB, e_lookS, e_lookO, M.toD, e_of, e_asgK, e_gSet, e_stK, e_sqN, e_sqR, e_sqB, e_sqC, e_sNil, e_retK, e_retFK, e_add, e_vI, e_neg, e_fInt, e_fIntB, e_sIf, e_sifT, e_sifF, e_T, e_toB, e_Tru, e_truB, e_And, e_Or, e_andT, e_andF, e_orT, e_orF, e_Not, e_notK, e_AndV, e_OrV, e_andVT, e_andVF, e_orVT, e_orVF, e_NotV, e_notVK, e_If, e_ifT, e_ifF, e_Tup, e_Lst, e_LstF, e_tup0, e_lst0, e_lstF0, e_eqI, e_neI, e_ltI, e_leI, e_gtI, e_geI, e_lenL, e_lenT, e_lenR, e_lenS, e_ixL, e_ixT, at0, at1, at2, at3, e_tupL, e_tupT, e_lstT, e_Own, e_ownK, e_Sub, e_For, e_Items, e_itL, e_itT, e_itR, e_Call, e_CallF, e_aNil, e_aVal, e_aVK, e_aVK2, step0, step1, step2, step3, out0, out1, out2, out3, outX1, outX2, outO1, outO2, outO3, e_onSh, e_onOw, decide_true, decide_false, Bool.not_true, Bool.not_false, List.cons_append, List.nil_append, List.getElem?_cons_zero, List.getElem?_cons_succ, List.set_cons_zero, List.set_cons_succ, Nat.reduceLT, Nat.reduceAdd, Nat.reduceSub, Option.map_some, finF, outsE, e_frz, d_rng7, e_forK, e_tnN, e_tnC, e_tnB, e_tnR, e_whT, e_whF, e_Raise, e_Par, e_parK, e_parK2, e_augK, e_Ch, e_chK1, e_chK2, e_chT, e_chF, e_Try, e_tryO, e_tru, e_While, e_abs, e_max2, e_min2, e_gSq2, e_tup1, e_lst1, e_tup2, e_lst2, e_tup3, e_lst3, e_tup4, e_lst4, e_tup5, e_lst5, e_tup6, e_lst6, e_tup7, e_lst7, e_tup8, e_lst8, e_RaF, e_raF1, e_raF2, e_TryA, e_tryAO, e_asgnK, e_frzX, e_bindX, e_Fld, e_SFld, e_Mk, e_mkK1, e_mkK2, e_mkK3, e_mkK4, e_mkO, e_mkX, e_Met, e_metK2, e_Enum, e_enumL, e_enumT, pairs2, pairs3, pairs4, e_lst13, e_lst14, e_lst15, e_lst16, e_lst9, e_lst10, e_lst11, e_lst12, e_tup9, e_tup10, e_tup11, e_tup12, e_ListF, e_listFT, e_listFL, e_GetK, e_getK, e_IfB, e_ifBT, e_ifBF, e_notB, e_isB, o_int, o_str, o_tup, o_lst, o_non, o_bl, n_int, n_str, n_tup, n_lst, n_non, n_bl, isT, isStr, lenT2, z1, z2, z3, ix20, ix21, q1, q2, en, b0, b1, kd2, ifD, n, if_true, if_false, Bool.false_eq_true, -e_lenT, -e_eqI, -e_gtI]
  | false => cases bp with
    | true => cases n : nm r <;> rw [n] at en <;> simp only [startE, List.map, List.length, List.replicate, e_Seq, e_Asg, e_Ret, e_RetF, e_Expr, e_exprK, e_op, e_op2, e_op1, e_un, e_is, e_B, e_bK, e_Cons, e_consK, e_consK2, e_Nil, e_var, e_C, e_bind, e_bindX, e_bindB, e_lookS, e_lookO, M.toD, e_of, e_asgK, e_gSet, e_stK, e_sqN, e_sqR, e_sqB, e_sqC, e_sNil, e_retK, e_retFK, e_add, e_vI, e_neg, e_fInt, e_fIntB, e_sIf, e_sifT, e_sifF, e_T, e_toB, e_Tru, e_truB, e_And, e_Or, e_andT, e_andF, e_orT, e_orF, e_Not, e_notK, e_AndV, e_OrV, e_andVT, e_andVF, e_orVT, e_orVF, e_NotV, e_notVK, e_If, e_ifT, e_ifF, e_Tup, e_Lst, e_LstF, e_tup0, e_lst0, e_lstF0, e_eqI, e_neI, e_ltI, e_leI, e_gtI, e_geI, e_lenL, e_lenT, e_lenR, e_lenS, e_ixL, e_ixT, at0, at1, at2, at3, e_tupL, e_tupT, e_lstT, e_Own, e_ownK, e_Sub, e_For, e_Items, e_itL, e_itT, e_itR, e_Call, e_CallF, e_aNil, e_aVal, e_aVK, e_aVK2, step0, step1, step2, step3, out0, out1, out2, out3, outX1, outX2, outO1, outO2, outO3, e_onSh, e_onOw, decide_true, decide_false, Bool.not_true, Bool.not_false, List.cons_append, List.nil_append, List.getElem?_cons_zero, List.getElem?_cons_succ, List.set_cons_zero, List.set_cons_succ, Nat.reduceLT, Nat.reduceAdd, Nat.reduceSub, Option.map_some, finF, outsE, e_frz, d_rng7, e_forK, e_tnN, e_tnC, e_tnB, e_tnR, e_whT, e_whF, e_Raise, e_Par, e_parK, e_parK2, e_augK, e_Ch, e_chK1, e_chK2, e_chT, e_chF, e_Try, e_tryO, e_tru, e_While, e_abs, e_max2, e_min2, e_gSq2, e_tup1, e_lst1, e_tup2, e_lst2, e_tup3, e_lst3, e_tup4, e_lst4, e_tup5, e_lst5, e_tup6, e_lst6, e_tup7, e_lst7, e_tup8, e_lst8, e_RaF, e_raF1, e_raF2, e_TryA, e_tryAO, e_asgnK, e_frzX, e_bindX, e_Fld, e_SFld, e_Mk, e_mkK1, e_mkK2, e_mkK3, e_mkK4, e_mkO, e_mkX, e_Met, e_metK2, e_Enum, e_enumL, e_enumT, pairs2, pairs3, pairs4, e_lst13, e_lst14, e_lst15, e_lst16, e_lst9, e_lst10, e_lst11, e_lst12, e_tup9, e_tup10, e_tup11, e_tup12, e_ListF, e_listFT, e_listFL, e_GetK, e_getK, e_IfB, e_ifBT, e_ifBF, e_notB, e_isB, o_int, o_str, o_tup, o_lst, o_non, o_bl, n_int, n_str, n_tup, n_lst, n_non, n_bl, isT, isStr, lenT2, z1, z2, z3, ix20, ix21, q1, q2, en, b0, b1, kd2, ifD, n, if_true, if_false, Bool.false_eq_true, -e_lenT, -e_eqI, -e_gtI]
    | false =>
      cases p with
      | int i =>
        have ew : m__law_whole [.sh (.int i)] = .ok (.sh (.bl true)) [] := ew
        cases bd with
        | true => simp only [startE, List.map, List.length, List.replicate, e_Seq, e_Asg, e_Ret, e_RetF, e_Expr, e_exprK, e_op, e_op2, e_op1, e_un, e_is, e_B, e_bK, e_Cons, e_consK, e_consK2, e_Nil, e_var, e_C, e_bind, e_bindX, e_bindB, e_lookS, e_lookO, M.toD, e_of, e_asgK, e_gSet, e_stK, e_sqN, e_sqR, e_sqB, e_sqC, e_sNil, e_retK, e_retFK, e_add, e_vI, e_neg, e_fInt, e_fIntB, e_sIf, e_sifT, e_sifF, e_T, e_toB, e_Tru, e_truB, e_And, e_Or, e_andT, e_andF, e_orT, e_orF, e_Not, e_notK, e_AndV, e_OrV, e_andVT, e_andVF, e_orVT, e_orVF, e_NotV, e_notVK, e_If, e_ifT, e_ifF, e_Tup, e_Lst, e_LstF, e_tup0, e_lst0, e_lstF0, e_eqI, e_neI, e_ltI, e_leI, e_gtI, e_geI, e_lenL, e_lenT, e_lenR, e_lenS, e_ixL, e_ixT, at0, at1, at2, at3, e_tupL, e_tupT, e_lstT, e_Own, e_ownK, e_Sub, e_For, e_Items, e_itL, e_itT, e_itR, e_Call, e_CallF, e_aNil, e_aVal, e_aVK, e_aVK2, step0, step1, step2, step3, out0, out1, out2, out3, outX1, outX2, outO1, outO2, outO3, e_onSh, e_onOw, decide_true, decide_false, Bool.not_true, Bool.not_false, List.cons_append, List.nil_append, List.getElem?_cons_zero, List.getElem?_cons_succ, List.set_cons_zero, List.set_cons_succ, Nat.reduceLT, Nat.reduceAdd, Nat.reduceSub, Option.map_some, finF, outsE, e_frz, d_rng7, e_forK, e_tnN, e_tnC, e_tnB, e_tnR, e_whT, e_whF, e_Raise, e_Par, e_parK, e_parK2, e_augK, e_Ch, e_chK1, e_chK2, e_chT, e_chF, e_Try, e_tryO, e_tru, e_While, e_abs, e_max2, e_min2, e_gSq2, e_tup1, e_lst1, e_tup2, e_lst2, e_tup3, e_lst3, e_tup4, e_lst4, e_tup5, e_lst5, e_tup6, e_lst6, e_tup7, e_lst7, e_tup8, e_lst8, e_RaF, e_raF1, e_raF2, e_TryA, e_tryAO, e_asgnK, e_frzX, e_bindX, e_Fld, e_SFld, e_Mk, e_mkK1, e_mkK2, e_mkK3, e_mkK4, e_mkO, e_mkX, e_Met, e_metK2, e_Enum, e_enumL, e_enumT, pairs2, pairs3, pairs4, e_lst13, e_lst14, e_lst15, e_lst16, e_lst9, e_lst10, e_lst11, e_lst12, e_tup9, e_tup10, e_tup11, e_tup12, e_ListF, e_listFT, e_listFL, e_GetK, e_getK, e_IfB, e_ifBT, e_ifBF, e_notB, e_isB, o_int, o_str, o_tup, o_lst, o_non, o_bl, n_int, n_str, n_tup, n_lst, n_non, n_bl, isT, isStr, lenT2, z1, z2, z3, ix20, ix21, q1, q2, q3, ew, kd2, ifD, if_true, if_false, Bool.false_eq_true, -e_lenT, -e_eqI, -e_gtI]
        | false => cases bS with
          | true => cases bW with
            | true => cases ex
            | false =>
              have a1 : CK.f .le (.int (-30)) (.int i) = some (.bl (decide (-30 ≤ i))) := rfl
              have a2 : CK.f .le (.int i) (.int 30) = some (.bl (decide (i ≤ 30))) := rfl
              rw [show kd2 false false false true false (.int i) = ifD (decide (-30 ≤ i) && decide (i ≤ 30)) (.str "day") from rfl]
              generalize decide (-30 ≤ i) = c1 at *
              generalize decide (i ≤ 30) = c2 at *
              cases c1 <;> cases c2 <;> simp only [startE, List.map, List.length, List.replicate, e_Seq, e_Asg, e_Ret, e_RetF, e_Expr, e_exprK, e_op, e_op2, e_op1, e_un, e_is, e_B, e_bK, e_Cons, e_consK, e_consK2, e_Nil, e_var, e_C, e_bind, e_bindX, e_bindB, e_lookS, e_lookO, M.toD, e_of, e_asgK, e_gSet, e_stK, e_sqN, e_sqR, e_sqB, e_sqC, e_sNil, e_retK, e_retFK, e_add, e_vI, e_neg, e_fInt, e_fIntB, e_sIf, e_sifT, e_sifF, e_T, e_toB, e_Tru, e_truB, e_And, e_Or, e_andT, e_andF, e_orT, e_orF, e_Not, e_notK, e_AndV, e_OrV, e_andVT, e_andVF, e_orVT, e_orVF, e_NotV, e_notVK, e_If, e_ifT, e_ifF, e_Tup, e_Lst, e_LstF, e_tup0, e_lst0, e_lstF0, e_eqI, e_neI, e_ltI, e_leI, e_gtI, e_geI, e_lenL, e_lenT, e_lenR, e_lenS, e_ixL, e_ixT, at0, at1, at2, at3, e_tupL, e_tupT, e_lstT, e_Own, e_ownK, e_Sub, e_For, e_Items, e_itL, e_itT, e_itR, e_Call, e_CallF, e_aNil, e_aVal, e_aVK, e_aVK2, step0, step1, step2, step3, out0, out1, out2, out3, outX1, outX2, outO1, outO2, outO3, e_onSh, e_onOw, decide_true, decide_false, Bool.not_true, Bool.not_false, List.cons_append, List.nil_append, List.getElem?_cons_zero, List.getElem?_cons_succ, List.set_cons_zero, List.set_cons_succ, Nat.reduceLT, Nat.reduceAdd, Nat.reduceSub, Option.map_some, finF, outsE, e_frz, d_rng7, e_forK, e_tnN, e_tnC, e_tnB, e_tnR, e_whT, e_whF, e_Raise, e_Par, e_parK, e_parK2, e_augK, e_Ch, e_chK1, e_chK2, e_chT, e_chF, e_Try, e_tryO, e_tru, e_While, e_abs, e_max2, e_min2, e_gSq2, e_tup1, e_lst1, e_tup2, e_lst2, e_tup3, e_lst3, e_tup4, e_lst4, e_tup5, e_lst5, e_tup6, e_lst6, e_tup7, e_lst7, e_tup8, e_lst8, e_RaF, e_raF1, e_raF2, e_TryA, e_tryAO, e_asgnK, e_frzX, e_bindX, e_Fld, e_SFld, e_Mk, e_mkK1, e_mkK2, e_mkK3, e_mkK4, e_mkO, e_mkX, e_Met, e_metK2, e_Enum, e_enumL, e_enumT, pairs2, pairs3, pairs4, e_lst13, e_lst14, e_lst15, e_lst16, e_lst9, e_lst10, e_lst11, e_lst12, e_tup9, e_tup10, e_tup11, e_tup12, e_ListF, e_listFT, e_listFL, e_GetK, e_getK, e_IfB, e_ifBT, e_ifBF, e_notB, e_isB, o_int, o_str, o_tup, o_lst, o_non, o_bl, n_int, n_str, n_tup, n_lst, n_non, n_bl, isT, isStr, lenT2, z1, z2, z3, ix20, ix21, q1, q2, q3, q4, q5, a1, a2, ew, ifD, if_true, if_false, Bool.false_eq_true, Bool.and_true, Bool.and_false, Bool.true_and, Bool.false_and, -e_lenT, -e_eqI, -e_gtI, -e_leI]
          | false => cases bW with
            | true =>
              have a1 : CK.f .le (.int 0) (.int i) = some (.bl (decide (0 ≤ i))) := rfl
              have a2 : CK.f .le (.int i) (.int 6) = some (.bl (decide (i ≤ 6))) := rfl
              rw [show kd2 false false false false true (.int i) = ifD (decide (0 ≤ i) && decide (i ≤ 6)) (.str "day") from rfl]
              generalize decide (0 ≤ i) = c1 at *
              generalize decide (i ≤ 6) = c2 at *
              cases c1 <;> cases c2 <;> simp only [startE, List.map, List.length, List.replicate, e_Seq, e_Asg, e_Ret, e_RetF, e_Expr, e_exprK, e_op, e_op2, e_op1, e_un, e_is, e_B, e_bK, e_Cons, e_consK, e_consK2, e_Nil, e_var, e_C, e_bind, e_bindX, e_bindB, e_lookS, e_lookO, M.toD, e_of, e_asgK, e_gSet, e_stK, e_sqN, e_sqR, e_sqB, e_sqC, e_sNil, e_retK, e_retFK, e_add, e_vI, e_neg, e_fInt, e_fIntB, e_sIf, e_sifT, e_sifF, e_T, e_toB, e_Tru, e_truB, e_And, e_Or, e_andT, e_andF, e_orT, e_orF, e_Not, e_notK, e_AndV, e_OrV, e_andVT, e_andVF, e_orVT, e_orVF, e_NotV, e_notVK, e_If, e_ifT, e_ifF, e_Tup, e_Lst, e_LstF, e_tup0, e_lst0, e_lstF0, e_eqI, e_neI, e_ltI, e_leI, e_gtI, e_geI, e_lenL, e_lenT, e_lenR, e_lenS, e_ixL, e_ixT, at0, at1, at2, at3, e_tupL, e_tupT, e_lstT, e_Own, e_ownK, e_Sub, e_For, e_Items, e_itL, e_itT, e_itR, e_Call, e_CallF, e_aNil, e_aVal, e_aVK, e_aVK2, step0, step1, step2, step3, out0, out1, out2, out3, outX1, outX2, outO1, outO2, outO3, e_onSh, e_onOw, decide_true, decide_false, Bool.not_true, Bool.not_false, List.cons_append, List.nil_append, List.getElem?_cons_zero, List.getElem?_cons_succ, List.set_cons_zero, List.set_cons_succ, Nat.reduceLT, Nat.reduceAdd, Nat.reduceSub, Option.map_some, finF, outsE, e_frz, d_rng7, e_forK, e_tnN, e_tnC, e_tnB, e_tnR, e_whT, e_whF, e_Raise, e_Par, e_parK, e_parK2, e_augK, e_Ch, e_chK1, e_chK2, e_chT, e_chF, e_Try, e_tryO, e_tru, e_While, e_abs, e_max2, e_min2, e_gSq2, e_tup1, e_lst1, e_tup2, e_lst2, e_tup3, e_lst3, e_tup4, e_lst4, e_tup5, e_lst5, e_tup6, e_lst6, e_tup7, e_lst7, e_tup8, e_lst8, e_RaF, e_raF1, e_raF2, e_TryA, e_tryAO, e_asgnK, e_frzX, e_bindX, e_Fld, e_SFld, e_Mk, e_mkK1, e_mkK2, e_mkK3, e_mkK4, e_mkO, e_mkX, e_Met, e_metK2, e_Enum, e_enumL, e_enumT, pairs2, pairs3, pairs4, e_lst13, e_lst14, e_lst15, e_lst16, e_lst9, e_lst10, e_lst11, e_lst12, e_tup9, e_tup10, e_tup11, e_tup12, e_ListF, e_listFT, e_listFL, e_GetK, e_getK, e_IfB, e_ifBT, e_ifBF, e_notB, e_isB, o_int, o_str, o_tup, o_lst, o_non, o_bl, n_int, n_str, n_tup, n_lst, n_non, n_bl, isT, isStr, lenT2, z1, z2, z3, ix20, ix21, q1, q2, q3, q4, q5, a1, a2, ew, ifD, if_true, if_false, Bool.false_eq_true, Bool.and_true, Bool.and_false, Bool.true_and, Bool.false_and, -e_lenT, -e_eqI, -e_gtI, -e_leI]
            | false => simp only [startE, List.map, List.length, List.replicate, e_Seq, e_Asg, e_Ret, e_RetF, e_Expr, e_exprK, e_op, e_op2, e_op1, e_un, e_is, e_B, e_bK, e_Cons, e_consK, e_consK2, e_Nil, e_var, e_C, e_bind, e_bindX, e_bindB, e_lookS, e_lookO, M.toD, e_of, e_asgK, e_gSet, e_stK, e_sqN, e_sqR, e_sqB, e_sqC, e_sNil, e_retK, e_retFK, e_add, e_vI, e_neg, e_fInt, e_fIntB, e_sIf, e_sifT, e_sifF, e_T, e_toB, e_Tru, e_truB, e_And, e_Or, e_andT, e_andF, e_orT, e_orF, e_Not, e_notK, e_AndV, e_OrV, e_andVT, e_andVF, e_orVT, e_orVF, e_NotV, e_notVK, e_If, e_ifT, e_ifF, e_Tup, e_Lst, e_LstF, e_tup0, e_lst0, e_lstF0, e_eqI, e_neI, e_ltI, e_leI, e_gtI, e_geI, e_lenL, e_lenT, e_lenR, e_lenS, e_ixL, e_ixT, at0, at1, at2, at3, e_tupL, e_tupT, e_lstT, e_Own, e_ownK, e_Sub, e_For, e_Items, e_itL, e_itT, e_itR, e_Call, e_CallF, e_aNil, e_aVal, e_aVK, e_aVK2, step0, step1, step2, step3, out0, out1, out2, out3, outX1, outX2, outO1, outO2, outO3, e_onSh, e_onOw, decide_true, decide_false, Bool.not_true, Bool.not_false, List.cons_append, List.nil_append, List.getElem?_cons_zero, List.getElem?_cons_succ, List.set_cons_zero, List.set_cons_succ, Nat.reduceLT, Nat.reduceAdd, Nat.reduceSub, Option.map_some, finF, outsE, e_frz, d_rng7, e_forK, e_tnN, e_tnC, e_tnB, e_tnR, e_whT, e_whF, e_Raise, e_Par, e_parK, e_parK2, e_augK, e_Ch, e_chK1, e_chK2, e_chT, e_chF, e_Try, e_tryO, e_tru, e_While, e_abs, e_max2, e_min2, e_gSq2, e_tup1, e_lst1, e_tup2, e_lst2, e_tup3, e_lst3, e_tup4, e_lst4, e_tup5, e_lst5, e_tup6, e_lst6, e_tup7, e_lst7, e_tup8, e_lst8, e_RaF, e_raF1, e_raF2, e_TryA, e_tryAO, e_asgnK, e_frzX, e_bindX, e_Fld, e_SFld, e_Mk, e_mkK1, e_mkK2, e_mkK3, e_mkK4, e_mkO, e_mkX, e_Met, e_metK2, e_Enum, e_enumL, e_enumT, pairs2, pairs3, pairs4, e_lst13, e_lst14, e_lst15, e_lst16, e_lst9, e_lst10, e_lst11, e_lst12, e_tup9, e_tup10, e_tup11, e_tup12, e_ListF, e_listFT, e_listFL, e_GetK, e_getK, e_IfB, e_ifBT, e_ifBF, e_notB, e_isB, o_int, o_str, o_tup, o_lst, o_non, o_bl, n_int, n_str, n_tup, n_lst, n_non, n_bl, isT, isStr, lenT2, z1, z2, z3, ix20, ix21, q1, q2, q3, q4, q5, ew, kd2, if_true, if_false, Bool.false_eq_true, -e_lenT, -e_eqI, -e_gtI]
      | non => simp only [startE, List.map, List.length, List.replicate, e_Seq, e_Asg, e_Ret, e_RetF, e_Expr, e_exprK, e_op, e_op2, e_op1, e_un, e_is, e_B, e_bK, e_Cons, e_consK, e_consK2, e_Nil, e_var, e_C, e_bind, e_bindX, e_bindB, e_lookS, e_lookO, M.toD, e_of, e_asgK, e_gSet, e_stK, e_sqN, e_sqR, e_sqB, e_sqC, e_sNil, e_retK, e_retFK, e_add, e_vI, e_neg, e_fInt, e_fIntB, e_sIf, e_sifT, e_sifF, e_T, e_toB, e_Tru, e_truB, e_And, e_Or, e_andT, e_andF, e_orT, e_orF, e_Not, e_notK, e_AndV, e_OrV, e_andVT, e_andVF, e_orVT, e_orVF, e_NotV, e_notVK, e_If, e_ifT, e_ifF, e_Tup, e_Lst, e_LstF, e_tup0, e_lst0, e_lstF0, e_eqI, e_neI, e_ltI, e_leI, e_gtI, e_geI, e_lenL, e_lenT, e_lenR, e_lenS, e_ixL, e_ixT, at0, at1, at2, at3, e_tupL, e_tupT, e_lstT, e_Own, e_ownK, e_Sub, e_For, e_Items, e_itL, e_itT, e_itR, e_Call, e_CallF, e_aNil, e_aVal, e_aVK, e_aVK2, step0, step1, step2, step3, out0, out1, out2, out3, outX1, outX2, outO1, outO2, outO3, e_onSh, e_onOw, decide_true, decide_false, Bool.not_true, Bool.not_false, List.cons_append, List.nil_append, List.getElem?_cons_zero, List.getElem?_cons_succ, List.set_cons_zero, List.set_cons_succ, Nat.reduceLT, Nat.reduceAdd, Nat.reduceSub, Option.map_some, finF, outsE, e_frz, d_rng7, e_forK, e_tnN, e_tnC, e_tnB, e_tnR, e_whT, e_whF, e_Raise, e_Par, e_parK, e_parK2, e_augK, e_Ch, e_chK1, e_chK2, e_chT, e_chF, e_Try, e_tryO, e_tru, e_While, e_abs, e_max2, e_min2, e_gSq2, e_tup1, e_lst1, e_tup2, e_lst2, e_tup3, e_lst3, e_tup4, e_lst4, e_tup5, e_lst5, e_tup6, e_lst6, e_tup7, e_lst7, e_tup8, e_lst8, e_RaF, e_raF1, e_raF2, e_TryA, e_tryAO, e_asgnK, e_frzX, e_bindX, e_Fld, e_SFld, e_Mk, e_mkK1, e_mkK2, e_mkK3, e_mkK4, e_mkO, e_mkX, e_Met, e_metK2, e_Enum, e_enumL, e_enumT, pairs2, pairs3, pairs4, e_lst13, e_lst14, e_lst15, e_lst16, e_lst9, e_lst10, e_lst11, e_lst12, e_tup9, e_tup10, e_tup11, e_tup12, e_ListF, e_listFT, e_listFL, e_GetK, e_getK, e_IfB, e_ifBT, e_ifBF, e_notB, e_isB, o_int, o_str, o_tup, o_lst, o_non, o_bl, n_int, n_str, n_tup, n_lst, n_non, n_bl, isT, isStr, lenT2, z1, z2, z3, ix20, ix21, q1, q2, show m__law_whole [.sh .non] = .ok (.sh (.bl false)) [] from ew, kd2, if_true, if_false, Bool.false_eq_true, -e_lenT, -e_eqI, -e_gtI]
      | bl b => simp only [startE, List.map, List.length, List.replicate, e_Seq, e_Asg, e_Ret, e_RetF, e_Expr, e_exprK, e_op, e_op2, e_op1, e_un, e_is, e_B, e_bK, e_Cons, e_consK, e_consK2, e_Nil, e_var, e_C, e_bind, e_bindX, e_bindB, e_lookS, e_lookO, M.toD, e_of, e_asgK, e_gSet, e_stK, e_sqN, e_sqR, e_sqB, e_sqC, e_sNil, e_retK, e_retFK, e_add, e_vI, e_neg, e_fInt, e_fIntB, e_sIf, e_sifT, e_sifF, e_T, e_toB, e_Tru, e_truB, e_And, e_Or, e_andT, e_andF, e_orT, e_orF, e_Not, e_notK, e_AndV, e_OrV, e_andVT, e_andVF, e_orVT, e_orVF, e_NotV, e_notVK, e_If, e_ifT, e_ifF, e_Tup, e_Lst, e_LstF, e_tup0, e_lst0, e_lstF0, e_eqI, e_neI, e_ltI, e_leI, e_gtI, e_geI, e_lenL, e_lenT, e_lenR, e_lenS, e_ixL, e_ixT, at0, at1, at2, at3, e_tupL, e_tupT, e_lstT, e_Own, e_ownK, e_Sub, e_For, e_Items, e_itL, e_itT, e_itR, e_Call, e_CallF, e_aNil, e_aVal, e_aVK, e_aVK2, step0, step1, step2, step3, out0, out1, out2, out3, outX1, outX2, outO1, outO2, outO3, e_onSh, e_onOw, decide_true, decide_false, Bool.not_true, Bool.not_false, List.cons_append, List.nil_append, List.getElem?_cons_zero, List.getElem?_cons_succ, List.set_cons_zero, List.set_cons_succ, Nat.reduceLT, Nat.reduceAdd, Nat.reduceSub, Option.map_some, finF, outsE, e_frz, d_rng7, e_forK, e_tnN, e_tnC, e_tnB, e_tnR, e_whT, e_whF, e_Raise, e_Par, e_parK, e_parK2, e_augK, e_Ch, e_chK1, e_chK2, e_chT, e_chF, e_Try, e_tryO, e_tru, e_While, e_abs, e_max2, e_min2, e_gSq2, e_tup1, e_lst1, e_tup2, e_lst2, e_tup3, e_lst3, e_tup4, e_lst4, e_tup5, e_lst5, e_tup6, e_lst6, e_tup7, e_lst7, e_tup8, e_lst8, e_RaF, e_raF1, e_raF2, e_TryA, e_tryAO, e_asgnK, e_frzX, e_bindX, e_Fld, e_SFld, e_Mk, e_mkK1, e_mkK2, e_mkK3, e_mkK4, e_mkO, e_mkX, e_Met, e_metK2, e_Enum, e_enumL, e_enumT, pairs2, pairs3, pairs4, e_lst13, e_lst14, e_lst15, e_lst16, e_lst9, e_lst10, e_lst11, e_lst12, e_tup9, e_tup10, e_tup11, e_tup12, e_ListF, e_listFT, e_listFL, e_GetK, e_getK, e_IfB, e_ifBT, e_ifBF, e_notB, e_isB, o_int, o_str, o_tup, o_lst, o_non, o_bl, n_int, n_str, n_tup, n_lst, n_non, n_bl, isT, isStr, lenT2, z1, z2, z3, ix20, ix21, q1, q2, show m__law_whole [.sh (.bl b)] = .ok (.sh (.bl false)) [] from ew, kd2, if_true, if_false, Bool.false_eq_true, -e_lenT, -e_eqI, -e_gtI]
      | lst b => simp only [startE, List.map, List.length, List.replicate, e_Seq, e_Asg, e_Ret, e_RetF, e_Expr, e_exprK, e_op, e_op2, e_op1, e_un, e_is, e_B, e_bK, e_Cons, e_consK, e_consK2, e_Nil, e_var, e_C, e_bind, e_bindX, e_bindB, e_lookS, e_lookO, M.toD, e_of, e_asgK, e_gSet, e_stK, e_sqN, e_sqR, e_sqB, e_sqC, e_sNil, e_retK, e_retFK, e_add, e_vI, e_neg, e_fInt, e_fIntB, e_sIf, e_sifT, e_sifF, e_T, e_toB, e_Tru, e_truB, e_And, e_Or, e_andT, e_andF, e_orT, e_orF, e_Not, e_notK, e_AndV, e_OrV, e_andVT, e_andVF, e_orVT, e_orVF, e_NotV, e_notVK, e_If, e_ifT, e_ifF, e_Tup, e_Lst, e_LstF, e_tup0, e_lst0, e_lstF0, e_eqI, e_neI, e_ltI, e_leI, e_gtI, e_geI, e_lenL, e_lenT, e_lenR, e_lenS, e_ixL, e_ixT, at0, at1, at2, at3, e_tupL, e_tupT, e_lstT, e_Own, e_ownK, e_Sub, e_For, e_Items, e_itL, e_itT, e_itR, e_Call, e_CallF, e_aNil, e_aVal, e_aVK, e_aVK2, step0, step1, step2, step3, out0, out1, out2, out3, outX1, outX2, outO1, outO2, outO3, e_onSh, e_onOw, decide_true, decide_false, Bool.not_true, Bool.not_false, List.cons_append, List.nil_append, List.getElem?_cons_zero, List.getElem?_cons_succ, List.set_cons_zero, List.set_cons_succ, Nat.reduceLT, Nat.reduceAdd, Nat.reduceSub, Option.map_some, finF, outsE, e_frz, d_rng7, e_forK, e_tnN, e_tnC, e_tnB, e_tnR, e_whT, e_whF, e_Raise, e_Par, e_parK, e_parK2, e_augK, e_Ch, e_chK1, e_chK2, e_chT, e_chF, e_Try, e_tryO, e_tru, e_While, e_abs, e_max2, e_min2, e_gSq2, e_tup1, e_lst1, e_tup2, e_lst2, e_tup3, e_lst3, e_tup4, e_lst4, e_tup5, e_lst5, e_tup6, e_lst6, e_tup7, e_lst7, e_tup8, e_lst8, e_RaF, e_raF1, e_raF2, e_TryA, e_tryAO, e_asgnK, e_frzX, e_bindX, e_Fld, e_SFld, e_Mk, e_mkK1, e_mkK2, e_mkK3, e_mkK4, e_mkO, e_mkX, e_Met, e_metK2, e_Enum, e_enumL, e_enumT, pairs2, pairs3, pairs4, e_lst13, e_lst14, e_lst15, e_lst16, e_lst9, e_lst10, e_lst11, e_lst12, e_tup9, e_tup10, e_tup11, e_tup12, e_ListF, e_listFT, e_listFL, e_GetK, e_getK, e_IfB, e_ifBT, e_ifBF, e_notB, e_isB, o_int, o_str, o_tup, o_lst, o_non, o_bl, n_int, n_str, n_tup, n_lst, n_non, n_bl, isT, isStr, lenT2, z1, z2, z3, ix20, ix21, q1, q2, show m__law_whole [.sh (.lst b)] = .ok (.sh (.bl false)) [] from ew, kd2, if_true, if_false, Bool.false_eq_true, -e_lenT, -e_eqI, -e_gtI]
      | tup b => simp only [startE, List.map, List.length, List.replicate, e_Seq, e_Asg, e_Ret, e_RetF, e_Expr, e_exprK, e_op, e_op2, e_op1, e_un, e_is, e_B, e_bK, e_Cons, e_consK, e_consK2, e_Nil, e_var, e_C, e_bind, e_bindX, e_bindB, e_lookS, e_lookO, M.toD, e_of, e_asgK, e_gSet, e_stK, e_sqN, e_sqR, e_sqB, e_sqC, e_sNil, e_retK, e_retFK, e_add, e_vI, e_neg, e_fInt, e_fIntB, e_sIf, e_sifT, e_sifF, e_T, e_toB, e_Tru, e_truB, e_And, e_Or, e_andT, e_andF, e_orT, e_orF, e_Not, e_notK, e_AndV, e_OrV, e_andVT, e_andVF, e_orVT, e_orVF, e_NotV, e_notVK, e_If, e_ifT, e_ifF, e_Tup, e_Lst, e_LstF, e_tup0, e_lst0, e_lstF0, e_eqI, e_neI, e_ltI, e_leI, e_gtI, e_geI, e_lenL, e_lenT, e_lenR, e_lenS, e_ixL, e_ixT, at0, at1, at2, at3, e_tupL, e_tupT, e_lstT, e_Own, e_ownK, e_Sub, e_For, e_Items, e_itL, e_itT, e_itR, e_Call, e_CallF, e_aNil, e_aVal, e_aVK, e_aVK2, step0, step1, step2, step3, out0, out1, out2, out3, outX1, outX2, outO1, outO2, outO3, e_onSh, e_onOw, decide_true, decide_false, Bool.not_true, Bool.not_false, List.cons_append, List.nil_append, List.getElem?_cons_zero, List.getElem?_cons_succ, List.set_cons_zero, List.set_cons_succ, Nat.reduceLT, Nat.reduceAdd, Nat.reduceSub, Option.map_some, finF, outsE, e_frz, d_rng7, e_forK, e_tnN, e_tnC, e_tnB, e_tnR, e_whT, e_whF, e_Raise, e_Par, e_parK, e_parK2, e_augK, e_Ch, e_chK1, e_chK2, e_chT, e_chF, e_Try, e_tryO, e_tru, e_While, e_abs, e_max2, e_min2, e_gSq2, e_tup1, e_lst1, e_tup2, e_lst2, e_tup3, e_lst3, e_tup4, e_lst4, e_tup5, e_lst5, e_tup6, e_lst6, e_tup7, e_lst7, e_tup8, e_lst8, e_RaF, e_raF1, e_raF2, e_TryA, e_tryAO, e_asgnK, e_frzX, e_bindX, e_Fld, e_SFld, e_Mk, e_mkK1, e_mkK2, e_mkK3, e_mkK4, e_mkO, e_mkX, e_Met, e_metK2, e_Enum, e_enumL, e_enumT, pairs2, pairs3, pairs4, e_lst13, e_lst14, e_lst15, e_lst16, e_lst9, e_lst10, e_lst11, e_lst12, e_tup9, e_tup10, e_tup11, e_tup12, e_ListF, e_listFT, e_listFL, e_GetK, e_getK, e_IfB, e_ifBT, e_ifBF, e_notB, e_isB, o_int, o_str, o_tup, o_lst, o_non, o_bl, n_int, n_str, n_tup, n_lst, n_non, n_bl, isT, isStr, lenT2, z1, z2, z3, ix20, ix21, q1, q2, show m__law_whole [.sh (.tup b)] = .ok (.sh (.bl false)) [] from ew, kd2, if_true, if_false, Bool.false_eq_true, -e_lenT, -e_eqI, -e_gtI]
      | @nam x hx => simp only [startE, List.map, List.length, List.replicate, e_Seq, e_Asg, e_Ret, e_RetF, e_Expr, e_exprK, e_op, e_op2, e_op1, e_un, e_is, e_B, e_bK, e_Cons, e_consK, e_consK2, e_Nil, e_var, e_C, e_bind, e_bindX, e_bindB, e_lookS, e_lookO, M.toD, e_of, e_asgK, e_gSet, e_stK, e_sqN, e_sqR, e_sqB, e_sqC, e_sNil, e_retK, e_retFK, e_add, e_vI, e_neg, e_fInt, e_fIntB, e_sIf, e_sifT, e_sifF, e_T, e_toB, e_Tru, e_truB, e_And, e_Or, e_andT, e_andF, e_orT, e_orF, e_Not, e_notK, e_AndV, e_OrV, e_andVT, e_andVF, e_orVT, e_orVF, e_NotV, e_notVK, e_If, e_ifT, e_ifF, e_Tup, e_Lst, e_LstF, e_tup0, e_lst0, e_lstF0, e_eqI, e_neI, e_ltI, e_leI, e_gtI, e_geI, e_lenL, e_lenT, e_lenR, e_lenS, e_ixL, e_ixT, at0, at1, at2, at3, e_tupL, e_tupT, e_lstT, e_Own, e_ownK, e_Sub, e_For, e_Items, e_itL, e_itT, e_itR, e_Call, e_CallF, e_aNil, e_aVal, e_aVK, e_aVK2, step0, step1, step2, step3, out0, out1, out2, out3, outX1, outX2, outO1, outO2, outO3, e_onSh, e_onOw, decide_true, decide_false, Bool.not_true, Bool.not_false, List.cons_append, List.nil_append, List.getElem?_cons_zero, List.getElem?_cons_succ, List.set_cons_zero, List.set_cons_succ, Nat.reduceLT, Nat.reduceAdd, Nat.reduceSub, Option.map_some, finF, outsE, e_frz, d_rng7, e_forK, e_tnN, e_tnC, e_tnB, e_tnR, e_whT, e_whF, e_Raise, e_Par, e_parK, e_parK2, e_augK, e_Ch, e_chK1, e_chK2, e_chT, e_chF, e_Try, e_tryO, e_tru, e_While, e_abs, e_max2, e_min2, e_gSq2, e_tup1, e_lst1, e_tup2, e_lst2, e_tup3, e_lst3, e_tup4, e_lst4, e_tup5, e_lst5, e_tup6, e_lst6, e_tup7, e_lst7, e_tup8, e_lst8, e_RaF, e_raF1, e_raF2, e_TryA, e_tryAO, e_asgnK, e_frzX, e_bindX, e_Fld, e_SFld, e_Mk, e_mkK1, e_mkK2, e_mkK3, e_mkK4, e_mkO, e_mkX, e_Met, e_metK2, e_Enum, e_enumL, e_enumT, pairs2, pairs3, pairs4, e_lst13, e_lst14, e_lst15, e_lst16, e_lst9, e_lst10, e_lst11, e_lst12, e_tup9, e_tup10, e_tup11, e_tup12, e_ListF, e_listFT, e_listFL, e_GetK, e_getK, e_IfB, e_ifBT, e_ifBF, e_notB, e_isB, o_int, o_str, o_tup, o_lst, o_non, o_bl, n_int, n_str, n_tup, n_lst, n_non, n_bl, isT, isStr, lenT2, z1, z2, z3, ix20, ix21, q1, q2, show m__law_whole [.sh (.str x)] = .ok (.sh (.bl false)) [] from ew, kd2, if_true, if_false, Bool.false_eq_true, -e_lenT, -e_eqI, -e_gtI]
      | @bad x hx _ => simp only [startE, List.map, List.length, List.replicate, e_Seq, e_Asg, e_Ret, e_RetF, e_Expr, e_exprK, e_op, e_op2, e_op1, e_un, e_is, e_B, e_bK, e_Cons, e_consK, e_consK2, e_Nil, e_var, e_C, e_bind, e_bindX, e_bindB, e_lookS, e_lookO, M.toD, e_of, e_asgK, e_gSet, e_stK, e_sqN, e_sqR, e_sqB, e_sqC, e_sNil, e_retK, e_retFK, e_add, e_vI, e_neg, e_fInt, e_fIntB, e_sIf, e_sifT, e_sifF, e_T, e_toB, e_Tru, e_truB, e_And, e_Or, e_andT, e_andF, e_orT, e_orF, e_Not, e_notK, e_AndV, e_OrV, e_andVT, e_andVF, e_orVT, e_orVF, e_NotV, e_notVK, e_If, e_ifT, e_ifF, e_Tup, e_Lst, e_LstF, e_tup0, e_lst0, e_lstF0, e_eqI, e_neI, e_ltI, e_leI, e_gtI, e_geI, e_lenL, e_lenT, e_lenR, e_lenS, e_ixL, e_ixT, at0, at1, at2, at3, e_tupL, e_tupT, e_lstT, e_Own, e_ownK, e_Sub, e_For, e_Items, e_itL, e_itT, e_itR, e_Call, e_CallF, e_aNil, e_aVal, e_aVK, e_aVK2, step0, step1, step2, step3, out0, out1, out2, out3, outX1, outX2, outO1, outO2, outO3, e_onSh, e_onOw, decide_true, decide_false, Bool.not_true, Bool.not_false, List.cons_append, List.nil_append, List.getElem?_cons_zero, List.getElem?_cons_succ, List.set_cons_zero, List.set_cons_succ, Nat.reduceLT, Nat.reduceAdd, Nat.reduceSub, Option.map_some, finF, outsE, e_frz, d_rng7, e_forK, e_tnN, e_tnC, e_tnB, e_tnR, e_whT, e_whF, e_Raise, e_Par, e_parK, e_parK2, e_augK, e_Ch, e_chK1, e_chK2, e_chT, e_chF, e_Try, e_tryO, e_tru, e_While, e_abs, e_max2, e_min2, e_gSq2, e_tup1, e_lst1, e_tup2, e_lst2, e_tup3, e_lst3, e_tup4, e_lst4, e_tup5, e_lst5, e_tup6, e_lst6, e_tup7, e_lst7, e_tup8, e_lst8, e_RaF, e_raF1, e_raF2, e_TryA, e_tryAO, e_asgnK, e_frzX, e_bindX, e_Fld, e_SFld, e_Mk, e_mkK1, e_mkK2, e_mkK3, e_mkK4, e_mkO, e_mkX, e_Met, e_metK2, e_Enum, e_enumL, e_enumT, pairs2, pairs3, pairs4, e_lst13, e_lst14, e_lst15, e_lst16, e_lst9, e_lst10, e_lst11, e_lst12, e_tup9, e_tup10, e_tup11, e_tup12, e_ListF, e_listFT, e_listFL, e_GetK, e_getK, e_IfB, e_ifBT, e_ifBF, e_notB, e_isB, o_int, o_str, o_tup, o_lst, o_non, o_bl, n_int, n_str, n_tup, n_lst, n_non, n_bl, isT, isStr, lenT2, z1, z2, z3, ix20, ix21, q1, q2, show m__law_whole [.sh (.str x)] = .ok (.sh (.bl false)) [] from ew, kd2, if_true, if_false, Bool.false_eq_true, -e_lenT, -e_eqI, -e_gtI]
/-! ### things -/
/-- what a drawn number or text may be, behind a head -/
structure Rs (r : D) : Prop where
  pl : Pl r
  few : ∀ i, r = .int i → i.natAbs.log2 < 1920
inductive Th : D → Prop
  | one {h : Str} (ok : PyData.strOk h = true) : Th (.tup [.str h])
  | two {h : Str} {r : D} (ok : PyData.strOk h = true) (p : Rs r) : Th (.tup [.str h, r])
  | non : Th .non
  | bl (b : Bool) : Th (.bl b)
  | int (i : Int) : Th (.int i)
  | str (x : Str) : Th (.str x)
  | lst (ds : List D) : Th (.lst ds)
  | nil : Th (.tup [])
  | num (i : Int) : Th (.tup [.int i])
  | three (a b c : D) : Th (.tup [a, b, c])
theorem find_ok {d : D} (h : Th d) : m_find_kind [.sh d] = .ok (.sh (kd d)) [] := by
  cases h with
  | one ok => exact find1 _
  | two ok p => exact find2 ok p.pl
  | non => kernel_rfl
  | bl b => kernel_rfl
  | int i => kernel_rfl
  | str x => kernel_rfl
  | lst ds => kernel_rfl
  | nil => kernel_rfl
  | num i => kernel_rfl
  | three a b c => rw [show kd (.tup [a, b, c]) = .non from by cases a <;> rfl]; kernel_rfl
theorem lkind_ok {d : D} (h : Th d) : m__law_kind [.sh d] = .ok (.sh (kd d)) [] := by
  cases h with
  | one ok => exact lkind1 ok
  | two ok p => exact lkind2 ok p.pl
  | non => kernel_rfl
  | bl b => kernel_rfl
  | int i => kernel_rfl
  | str x => kernel_rfl
  | lst ds => kernel_rfl
  | nil => kernel_rfl
  | num i => kernel_rfl
  | three a b c => rw [show kd (.tup [a, b, c]) = .non from by cases a <;> rfl]; kernel_rfl
end L01
set_option Elab.async false
set_option linter.all false
set_option maxRecDepth 100000
set_option maxHeartbeats 4000000
namespace L01
open PySem L2 Rf
def xW : EX := ⟨1, []⟩
theorem kof_bad {d : D} (h : Th d) (q : kd d = .non) : m_kind_of [.sh d] = .exc xW [] := by
  have e := find_ok h
  rw [q] at e
  have i : CK.f .isN .non .non = some (.bl true) := rfl
  refine (e_run [] 2 _ _ rfl).trans ?_
  unfold b_kind_of
  simp only [startE, List.map, List.length, List.replicate, e_Seq, e_Asg, e_Ret, e_RetF, e_Expr, e_exprK, e_op, e_op2, e_op1, e_un, e_is, e_B, e_bK, e_Cons, e_consK, e_consK2, e_Nil, e_var, e_C, e_bind, e_bindX, e_bindB, e_lookS, e_lookO, M.toD, e_of, e_asgK, e_gSet, e_stK, e_sqN, e_sqR, e_sqB, e_sqC, e_sNil, e_retK, e_retFK, e_add, e_vI, e_neg, e_fInt, e_fIntB, e_sIf, e_sifT, e_sifF, e_T, e_toB, e_Tru, e_truB, e_And, e_Or, e_andT, e_andF, e_orT, e_orF, e_Not, e_notK, e_AndV, e_OrV, e_andVT, e_andVF, e_orVT, e_orVF, e_NotV, e_notVK, e_If, e_ifT, e_ifF, e_Tup, e_Lst, e_LstF, e_tup0, e_lst0, e_lstF0, e_eqI, e_neI, e_ltI, e_leI, e_gtI, e_geI, e_lenL, e_lenT, e_lenR, e_lenS, e_ixL, e_ixT, at0, at1, at2, at3, e_tupL, e_tupT, e_lstT, e_Own, e_ownK, e_Sub, e_For, e_Items, e_itL, e_itT, e_itR, e_Call, e_CallF, e_aNil, e_aVal, e_aVK, e_aVK2, step0, step1, step2, step3, out0, out1, out2, out3, outX1, outX2, outO1, outO2, outO3, e_onSh, e_onOw, decide_true, decide_false, Bool.not_true, Bool.not_false, List.cons_append, List.nil_append, List.getElem?_cons_zero, List.getElem?_cons_succ, List.set_cons_zero, List.set_cons_succ, Nat.reduceLT, Nat.reduceAdd, Nat.reduceSub, Option.map_some, finF, outsE, e_frz, d_rng7, e_forK, e_tnN, e_tnC, e_tnB, e_tnR, e_whT, e_whF, e_Raise, e_Par, e_parK, e_parK2, e_augK, e_Ch, e_chK1, e_chK2, e_chT, e_chF, e_Try, e_tryO, e_tru, e_While, e_abs, e_max2, e_min2, e_gSq2, e_tup1, e_lst1, e_tup2, e_lst2, e_tup3, e_lst3, e_tup4, e_lst4, e_tup5, e_lst5, e_tup6, e_lst6, e_tup7, e_lst7, e_tup8, e_lst8, e_RaF, e_raF1, e_raF2, e_TryA, e_tryAO, e_asgnK, e_frzX, e_bindX, e_Fld, e_SFld, e_Mk, e_mkK1, e_mkK2, e_mkK3, e_mkK4, e_mkO, e_mkX, e_Met, e_metK2, e_Enum, e_enumL, e_enumT, pairs2, pairs3, pairs4, e_lst13, e_lst14, e_lst15, e_lst16, e_lst9, e_lst10, e_lst11, e_lst12, e_tup9, e_tup10, e_tup11, e_tup12, e_ListF, e_listFT, e_listFL, e_GetK, e_getK, e_IfB, e_ifBT, e_ifBF, e_notB, e_isB, o_int, o_str, o_tup, o_lst, o_non, o_bl, n_int, n_str, n_tup, n_lst, n_non, n_bl, e, i, xW]
theorem kof_ok {d : D} {k : Str} (h : Th d) (q : kd d = .str k) : m_kind_of [.sh d] = .ok (.sh (.str k)) [] := by
  have e := find_ok h
  rw [q] at e
  have i : CK.f .isN (.str k) .non = some (.bl false) := rfl
  refine (e_run [] 2 _ _ rfl).trans ?_
  unfold b_kind_of
  simp only [startE, List.map, List.length, List.replicate, e_Seq, e_Asg, e_Ret, e_RetF, e_Expr, e_exprK, e_op, e_op2, e_op1, e_un, e_is, e_B, e_bK, e_Cons, e_consK, e_consK2, e_Nil, e_var, e_C, e_bind, e_bindX, e_bindB, e_lookS, e_lookO, M.toD, e_of, e_asgK, e_gSet, e_stK, e_sqN, e_sqR, e_sqB, e_sqC, e_sNil, e_retK, e_retFK, e_add, e_vI, e_neg, e_fInt, e_fIntB, e_sIf, e_sifT, e_sifF, e_T, e_toB, e_Tru, e_truB, e_And, e_Or, e_andT, e_andF, e_orT, e_orF, e_Not, e_notK, e_AndV, e_OrV, e_andVT, e_andVF, e_orVT, e_orVF, e_NotV, e_notVK, e_If, e_ifT, e_ifF, e_Tup, e_Lst, e_LstF, e_tup0, e_lst0, e_lstF0, e_eqI, e_neI, e_ltI, e_leI, e_gtI, e_geI, e_lenL, e_lenT, e_lenR, e_lenS, e_ixL, e_ixT, at0, at1, at2, at3, e_tupL, e_tupT, e_lstT, e_Own, e_ownK, e_Sub, e_For, e_Items, e_itL, e_itT, e_itR, e_Call, e_CallF, e_aNil, e_aVal, e_aVK, e_aVK2, step0, step1, step2, step3, out0, out1, out2, out3, outX1, outX2, outO1, outO2, outO3, e_onSh, e_onOw, decide_true, decide_false, Bool.not_true, Bool.not_false, List.cons_append, List.nil_append, List.getElem?_cons_zero, List.getElem?_cons_succ, List.set_cons_zero, List.set_cons_succ, Nat.reduceLT, Nat.reduceAdd, Nat.reduceSub, Option.map_some, finF, outsE, e_frz, d_rng7, e_forK, e_tnN, e_tnC, e_tnB, e_tnR, e_whT, e_whF, e_Raise, e_Par, e_parK, e_parK2, e_augK, e_Ch, e_chK1, e_chK2, e_chT, e_chF, e_Try, e_tryO, e_tru, e_While, e_abs, e_max2, e_min2, e_gSq2, e_tup1, e_lst1, e_tup2, e_lst2, e_tup3, e_lst3, e_tup4, e_lst4, e_tup5, e_lst5, e_tup6, e_lst6, e_tup7, e_lst7, e_tup8, e_lst8, e_RaF, e_raF1, e_raF2, e_TryA, e_tryAO, e_asgnK, e_frzX, e_bindX, e_Fld, e_SFld, e_Mk, e_mkK1, e_mkK2, e_mkK3, e_mkK4, e_mkO, e_mkX, e_Met, e_metK2, e_Enum, e_enumL, e_enumT, pairs2, pairs3, pairs4, e_lst13, e_lst14, e_lst15, e_lst16, e_lst9, e_lst10, e_lst11, e_lst12, e_tup9, e_tup10, e_tup11, e_tup12, e_ListF, e_listFT, e_listFL, e_GetK, e_getK, e_IfB, e_ifBT, e_ifBF, e_notB, e_isB, o_int, o_str, o_tup, o_lst, o_non, o_bl, n_int, n_str, n_tup, n_lst, n_non, n_bl, e, i]
theorem oX1 (a : D) (ρ : ENV) : outK [.inl a] ρ (.exc xW []) = .exc xW ρ := rfl
theorem chk_bad {d : D} (h : Th d) (q : kd d = .non) : m_check_word [.sh d] = .exc xW [] := by
  have e := kof_bad h q
  refine (e_run [] 1 _ _ rfl).trans ?_
  unfold b_check_word
  simp only [startE, List.map, List.length, List.replicate, e_Seq, e_Asg, e_Ret, e_RetF, e_Expr, e_exprK, e_op, e_op2, e_op1, e_un, e_is, e_B, e_bK, e_Cons, e_consK, e_consK2, e_Nil, e_var, e_C, e_bind, e_bindX, e_bindB, e_lookS, e_lookO, M.toD, e_of, e_asgK, e_gSet, e_stK, e_sqN, e_sqR, e_sqB, e_sqC, e_sNil, e_retK, e_retFK, e_add, e_vI, e_neg, e_fInt, e_fIntB, e_sIf, e_sifT, e_sifF, e_T, e_toB, e_Tru, e_truB, e_And, e_Or, e_andT, e_andF, e_orT, e_orF, e_Not, e_notK, e_AndV, e_OrV, e_andVT, e_andVF, e_orVT, e_orVF, e_NotV, e_notVK, e_If, e_ifT, e_ifF, e_Tup, e_Lst, e_LstF, e_tup0, e_lst0, e_lstF0, e_eqI, e_neI, e_ltI, e_leI, e_gtI, e_geI, e_lenL, e_lenT, e_lenR, e_lenS, e_ixL, e_ixT, at0, at1, at2, at3, e_tupL, e_tupT, e_lstT, e_Own, e_ownK, e_Sub, e_For, e_Items, e_itL, e_itT, e_itR, e_Call, e_CallF, e_aNil, e_aVal, e_aVK, e_aVK2, step0, step1, step2, step3, out0, out1, out2, out3, outX1, outX2, outO1, outO2, outO3, e_onSh, e_onOw, decide_true, decide_false, Bool.not_true, Bool.not_false, List.cons_append, List.nil_append, List.getElem?_cons_zero, List.getElem?_cons_succ, List.set_cons_zero, List.set_cons_succ, Nat.reduceLT, Nat.reduceAdd, Nat.reduceSub, Option.map_some, finF, outsE, e_frz, d_rng7, e_forK, e_tnN, e_tnC, e_tnB, e_tnR, e_whT, e_whF, e_Raise, e_Par, e_parK, e_parK2, e_augK, e_Ch, e_chK1, e_chK2, e_chT, e_chF, e_Try, e_tryO, e_tru, e_While, e_abs, e_max2, e_min2, e_gSq2, e_tup1, e_lst1, e_tup2, e_lst2, e_tup3, e_lst3, e_tup4, e_lst4, e_tup5, e_lst5, e_tup6, e_lst6, e_tup7, e_lst7, e_tup8, e_lst8, e_RaF, e_raF1, e_raF2, e_TryA, e_tryAO, e_asgnK, e_frzX, e_bindX, e_Fld, e_SFld, e_Mk, e_mkK1, e_mkK2, e_mkK3, e_mkK4, e_mkO, e_mkX, e_Met, e_metK2, e_Enum, e_enumL, e_enumT, pairs2, pairs3, pairs4, e_lst13, e_lst14, e_lst15, e_lst16, e_lst9, e_lst10, e_lst11, e_lst12, e_tup9, e_tup10, e_tup11, e_tup12, e_ListF, e_listFT, e_listFL, e_GetK, e_getK, e_IfB, e_ifBT, e_ifBF, e_notB, e_isB, o_int, o_str, o_tup, o_lst, o_non, o_bl, n_int, n_str, n_tup, n_lst, n_non, n_bl, e, oX1]
theorem unk_bad {d : D} (h : Th d) (q : kd d = .non) : m_is_unknown [.sh d] = .exc xW [] := by
  have e := kof_bad h q
  refine (e_run [] 1 _ _ rfl).trans ?_
  unfold b_is_unknown
  simp only [startE, List.map, List.length, List.replicate, e_Seq, e_Asg, e_Ret, e_RetF, e_Expr, e_exprK, e_op, e_op2, e_op1, e_un, e_is, e_B, e_bK, e_Cons, e_consK, e_consK2, e_Nil, e_var, e_C, e_bind, e_bindX, e_bindB, e_lookS, e_lookO, M.toD, e_of, e_asgK, e_gSet, e_stK, e_sqN, e_sqR, e_sqB, e_sqC, e_sNil, e_retK, e_retFK, e_add, e_vI, e_neg, e_fInt, e_fIntB, e_sIf, e_sifT, e_sifF, e_T, e_toB, e_Tru, e_truB, e_And, e_Or, e_andT, e_andF, e_orT, e_orF, e_Not, e_notK, e_AndV, e_OrV, e_andVT, e_andVF, e_orVT, e_orVF, e_NotV, e_notVK, e_If, e_ifT, e_ifF, e_Tup, e_Lst, e_LstF, e_tup0, e_lst0, e_lstF0, e_eqI, e_neI, e_ltI, e_leI, e_gtI, e_geI, e_lenL, e_lenT, e_lenR, e_lenS, e_ixL, e_ixT, at0, at1, at2, at3, e_tupL, e_tupT, e_lstT, e_Own, e_ownK, e_Sub, e_For, e_Items, e_itL, e_itT, e_itR, e_Call, e_CallF, e_aNil, e_aVal, e_aVK, e_aVK2, step0, step1, step2, step3, out0, out1, out2, out3, outX1, outX2, outO1, outO2, outO3, e_onSh, e_onOw, decide_true, decide_false, Bool.not_true, Bool.not_false, List.cons_append, List.nil_append, List.getElem?_cons_zero, List.getElem?_cons_succ, List.set_cons_zero, List.set_cons_succ, Nat.reduceLT, Nat.reduceAdd, Nat.reduceSub, Option.map_some, finF, outsE, e_frz, d_rng7, e_forK, e_tnN, e_tnC, e_tnB, e_tnR, e_whT, e_whF, e_Raise, e_Par, e_parK, e_parK2, e_augK, e_Ch, e_chK1, e_chK2, e_chT, e_chF, e_Try, e_tryO, e_tru, e_While, e_abs, e_max2, e_min2, e_gSq2, e_tup1, e_lst1, e_tup2, e_lst2, e_tup3, e_lst3, e_tup4, e_lst4, e_tup5, e_lst5, e_tup6, e_lst6, e_tup7, e_lst7, e_tup8, e_lst8, e_RaF, e_raF1, e_raF2, e_TryA, e_tryAO, e_asgnK, e_frzX, e_bindX, e_Fld, e_SFld, e_Mk, e_mkK1, e_mkK2, e_mkK3, e_mkK4, e_mkO, e_mkX, e_Met, e_metK2, e_Enum, e_enumL, e_enumT, pairs2, pairs3, pairs4, e_lst13, e_lst14, e_lst15, e_lst16, e_lst9, e_lst10, e_lst11, e_lst12, e_tup9, e_tup10, e_tup11, e_tup12, e_ListF, e_listFT, e_listFL, e_GetK, e_getK, e_IfB, e_ifBT, e_ifBF, e_notB, e_isB, o_int, o_str, o_tup, o_lst, o_non, o_bl, n_int, n_str, n_tup, n_lst, n_non, n_bl, e, oX1]
theorem abs_bad {d : D} (h : Th d) (q : kd d = .non) : m_is_absolute [.sh d] = .exc xW [] := by
  have e := kof_bad h q
  refine (e_run [] 1 _ _ rfl).trans ?_
  unfold b_is_absolute
  simp only [startE, List.map, List.length, List.replicate, e_Seq, e_Asg, e_Ret, e_RetF, e_Expr, e_exprK, e_op, e_op2, e_op1, e_un, e_is, e_B, e_bK, e_Cons, e_consK, e_consK2, e_Nil, e_var, e_C, e_bind, e_bindX, e_bindB, e_lookS, e_lookO, M.toD, e_of, e_asgK, e_gSet, e_stK, e_sqN, e_sqR, e_sqB, e_sqC, e_sNil, e_retK, e_retFK, e_add, e_vI, e_neg, e_fInt, e_fIntB, e_sIf, e_sifT, e_sifF, e_T, e_toB, e_Tru, e_truB, e_And, e_Or, e_andT, e_andF, e_orT, e_orF, e_Not, e_notK, e_AndV, e_OrV, e_andVT, e_andVF, e_orVT, e_orVF, e_NotV, e_notVK, e_If, e_ifT, e_ifF, e_Tup, e_Lst, e_LstF, e_tup0, e_lst0, e_lstF0, e_eqI, e_neI, e_ltI, e_leI, e_gtI, e_geI, e_lenL, e_lenT, e_lenR, e_lenS, e_ixL, e_ixT, at0, at1, at2, at3, e_tupL, e_tupT, e_lstT, e_Own, e_ownK, e_Sub, e_For, e_Items, e_itL, e_itT, e_itR, e_Call, e_CallF, e_aNil, e_aVal, e_aVK, e_aVK2, step0, step1, step2, step3, out0, out1, out2, out3, outX1, outX2, outO1, outO2, outO3, e_onSh, e_onOw, decide_true, decide_false, Bool.not_true, Bool.not_false, List.cons_append, List.nil_append, List.getElem?_cons_zero, List.getElem?_cons_succ, List.set_cons_zero, List.set_cons_succ, Nat.reduceLT, Nat.reduceAdd, Nat.reduceSub, Option.map_some, finF, outsE, e_frz, d_rng7, e_forK, e_tnN, e_tnC, e_tnB, e_tnR, e_whT, e_whF, e_Raise, e_Par, e_parK, e_parK2, e_augK, e_Ch, e_chK1, e_chK2, e_chT, e_chF, e_Try, e_tryO, e_tru, e_While, e_abs, e_max2, e_min2, e_gSq2, e_tup1, e_lst1, e_tup2, e_lst2, e_tup3, e_lst3, e_tup4, e_lst4, e_tup5, e_lst5, e_tup6, e_lst6, e_tup7, e_lst7, e_tup8, e_lst8, e_RaF, e_raF1, e_raF2, e_TryA, e_tryAO, e_asgnK, e_frzX, e_bindX, e_Fld, e_SFld, e_Mk, e_mkK1, e_mkK2, e_mkK3, e_mkK4, e_mkO, e_mkX, e_Met, e_metK2, e_Enum, e_enumL, e_enumT, pairs2, pairs3, pairs4, e_lst13, e_lst14, e_lst15, e_lst16, e_lst9, e_lst10, e_lst11, e_lst12, e_tup9, e_tup10, e_tup11, e_tup12, e_ListF, e_listFT, e_listFL, e_GetK, e_getK, e_IfB, e_ifBT, e_ifBF, e_notB, e_isB, o_int, o_str, o_tup, o_lst, o_non, o_bl, n_int, n_str, n_tup, n_lst, n_non, n_bl, e, oX1]
theorem ner_bad {d : D} (h : Th d) (q : kd d = .non) : m_needs_report [.sh d] = .exc xW [] := by
  have e := kof_bad h q
  refine (e_run [] 1 _ _ rfl).trans ?_
  unfold b_needs_report
  simp only [startE, List.map, List.length, List.replicate, e_Seq, e_Asg, e_Ret, e_RetF, e_Expr, e_exprK, e_op, e_op2, e_op1, e_un, e_is, e_B, e_bK, e_Cons, e_consK, e_consK2, e_Nil, e_var, e_C, e_bind, e_bindX, e_bindB, e_lookS, e_lookO, M.toD, e_of, e_asgK, e_gSet, e_stK, e_sqN, e_sqR, e_sqB, e_sqC, e_sNil, e_retK, e_retFK, e_add, e_vI, e_neg, e_fInt, e_fIntB, e_sIf, e_sifT, e_sifF, e_T, e_toB, e_Tru, e_truB, e_And, e_Or, e_andT, e_andF, e_orT, e_orF, e_Not, e_notK, e_AndV, e_OrV, e_andVT, e_andVF, e_orVT, e_orVF, e_NotV, e_notVK, e_If, e_ifT, e_ifF, e_Tup, e_Lst, e_LstF, e_tup0, e_lst0, e_lstF0, e_eqI, e_neI, e_ltI, e_leI, e_gtI, e_geI, e_lenL, e_lenT, e_lenR, e_lenS, e_ixL, e_ixT, at0, at1, at2, at3, e_tupL, e_tupT, e_lstT, e_Own, e_ownK, e_Sub, e_For, e_Items, e_itL, e_itT, e_itR, e_Call, e_CallF, e_aNil, e_aVal, e_aVK, e_aVK2, step0, step1, step2, step3, out0, out1, out2, out3, outX1, outX2, outO1, outO2, outO3, e_onSh, e_onOw, decide_true, decide_false, Bool.not_true, Bool.not_false, List.cons_append, List.nil_append, List.getElem?_cons_zero, List.getElem?_cons_succ, List.set_cons_zero, List.set_cons_succ, Nat.reduceLT, Nat.reduceAdd, Nat.reduceSub, Option.map_some, finF, outsE, e_frz, d_rng7, e_forK, e_tnN, e_tnC, e_tnB, e_tnR, e_whT, e_whF, e_Raise, e_Par, e_parK, e_parK2, e_augK, e_Ch, e_chK1, e_chK2, e_chT, e_chF, e_Try, e_tryO, e_tru, e_While, e_abs, e_max2, e_min2, e_gSq2, e_tup1, e_lst1, e_tup2, e_lst2, e_tup3, e_lst3, e_tup4, e_lst4, e_tup5, e_lst5, e_tup6, e_lst6, e_tup7, e_lst7, e_tup8, e_lst8, e_RaF, e_raF1, e_raF2, e_TryA, e_tryAO, e_asgnK, e_frzX, e_bindX, e_Fld, e_SFld, e_Mk, e_mkK1, e_mkK2, e_mkK3, e_mkK4, e_mkO, e_mkX, e_Met, e_metK2, e_Enum, e_enumL, e_enumT, pairs2, pairs3, pairs4, e_lst13, e_lst14, e_lst15, e_lst16, e_lst9, e_lst10, e_lst11, e_lst12, e_tup9, e_tup10, e_tup11, e_tup12, e_ListF, e_listFT, e_listFL, e_GetK, e_getK, e_IfB, e_ifBT, e_ifBF, e_notB, e_isB, o_int, o_str, o_tup, o_lst, o_non, o_bl, n_int, n_str, n_tup, n_lst, n_non, n_bl, e, oX1]
theorem tryW (i : Nat) (ss : ENV → R Fl) (ρ ρ' : ENV) (f : Fl) (h2 : ss ρ = .ok f ρ') : tryK subT 1 ss (.exc xW ρ) = .ok f ρ' := e_tryX _ _ _ _ _ _ _ rfl h2
theorem asked_bad {d : D} (h : Th d) (q : kd d = .non) : m__law_asked [.sh d] = .ok (.sh (.lst [.lst [], .int 5])) [] := by
  have e1 := kof_bad h q
  have e2 := chk_bad h q
  have e3 := unk_bad h q
  have e4 := abs_bad h q
  have e5 := ner_bad h q
  have step : ∀ (F : List DV → FO) (n : Int), F [.sh d] = .exc xW [] → sTry subT (sApp 1 (dCall F (aVal (dVar 0) (aNil)))) 1 (sAsg (dAdd (dVar 2) (dC (.int 1))) (gSet 2)) [some (.sh d), some (.ow (.lst [])), some (.sh (.int n))]
      = .ok .nx [some (.sh d), some (.ow (.lst [])), some (.sh (.int (n + 1)))] := by
    intro F n hF
    rw [e_Try]
    have h1 : sApp 1 (dCall F (aVal (dVar 0) (aNil))) [some (.sh d), some (.ow (.lst [])), some (.sh (.int n))] = .exc xW [some (.sh d), some (.ow (.lst [])), some (.sh (.int n))] := by
      simp only [startE, List.map, List.length, List.replicate, e_Seq, e_Asg, e_Ret, e_RetF, e_Expr, e_exprK, e_op, e_op2, e_op1, e_un, e_is, e_B, e_bK, e_Cons, e_consK, e_consK2, e_Nil, e_var, e_C, e_bind, e_bindX, e_bindB, e_lookS, e_lookO, M.toD, e_of, e_asgK, e_gSet, e_stK, e_sqN, e_sqR, e_sqB, e_sqC, e_sNil, e_retK, e_retFK, e_add, e_vI, e_neg, e_fInt, e_fIntB, e_sIf, e_sifT, e_sifF, e_T, e_toB, e_Tru, e_truB, e_And, e_Or, e_andT, e_andF, e_orT, e_orF, e_Not, e_notK, e_AndV, e_OrV, e_andVT, e_andVF, e_orVT, e_orVF, e_NotV, e_notVK, e_If, e_ifT, e_ifF, e_Tup, e_Lst, e_LstF, e_tup0, e_lst0, e_lstF0, e_eqI, e_neI, e_ltI, e_leI, e_gtI, e_geI, e_lenL, e_lenT, e_lenR, e_lenS, e_ixL, e_ixT, at0, at1, at2, at3, e_tupL, e_tupT, e_lstT, e_Own, e_ownK, e_Sub, e_For, e_Items, e_itL, e_itT, e_itR, e_Call, e_CallF, e_aNil, e_aVal, e_aVK, e_aVK2, step0, step1, step2, step3, out0, out1, out2, out3, outX1, outX2, outO1, outO2, outO3, e_onSh, e_onOw, decide_true, decide_false, Bool.not_true, Bool.not_false, List.cons_append, List.nil_append, List.getElem?_cons_zero, List.getElem?_cons_succ, List.set_cons_zero, List.set_cons_succ, Nat.reduceLT, Nat.reduceAdd, Nat.reduceSub, Option.map_some, finF, outsE, e_frz, d_rng7, e_forK, e_tnN, e_tnC, e_tnB, e_tnR, e_whT, e_whF, e_Raise, e_Par, e_parK, e_parK2, e_augK, e_Ch, e_chK1, e_chK2, e_chT, e_chF, e_Try, e_tryO, e_tru, e_While, e_abs, e_max2, e_min2, e_gSq2, e_tup1, e_lst1, e_tup2, e_lst2, e_tup3, e_lst3, e_tup4, e_lst4, e_tup5, e_lst5, e_tup6, e_lst6, e_tup7, e_lst7, e_tup8, e_lst8, e_RaF, e_raF1, e_raF2, e_TryA, e_tryAO, e_asgnK, e_frzX, e_bindX, e_Fld, e_SFld, e_Mk, e_mkK1, e_mkK2, e_mkK3, e_mkK4, e_mkO, e_mkX, e_Met, e_metK2, e_Enum, e_enumL, e_enumT, pairs2, pairs3, pairs4, e_lst13, e_lst14, e_lst15, e_lst16, e_lst9, e_lst10, e_lst11, e_lst12, e_tup9, e_tup10, e_tup11, e_tup12, e_ListF, e_listFT, e_listFL, e_GetK, e_getK, e_IfB, e_ifBT, e_ifBF, e_notB, e_isB, o_int, o_str, o_tup, o_lst, o_non, o_bl, n_int, n_str, n_tup, n_lst, n_non, n_bl, e_App (ds := []), hF, oX1]
    rw [h1]
    exact tryW 0 _ _ _ _ (by simp only [startE, List.map, List.length, List.replicate, e_Seq, e_Asg, e_Ret, e_RetF, e_Expr, e_exprK, e_op, e_op2, e_op1, e_un, e_is, e_B, e_bK, e_Cons, e_consK, e_consK2, e_Nil, e_var, e_C, e_bind, e_bindX, e_bindB, e_lookS, e_lookO, M.toD, e_of, e_asgK, e_gSet, e_stK, e_sqN, e_sqR, e_sqB, e_sqC, e_sNil, e_retK, e_retFK, e_add, e_vI, e_neg, e_fInt, e_fIntB, e_sIf, e_sifT, e_sifF, e_T, e_toB, e_Tru, e_truB, e_And, e_Or, e_andT, e_andF, e_orT, e_orF, e_Not, e_notK, e_AndV, e_OrV, e_andVT, e_andVF, e_orVT, e_orVF, e_NotV, e_notVK, e_If, e_ifT, e_ifF, e_Tup, e_Lst, e_LstF, e_tup0, e_lst0, e_lstF0, e_eqI, e_neI, e_ltI, e_leI, e_gtI, e_geI, e_lenL, e_lenT, e_lenR, e_lenS, e_ixL, e_ixT, at0, at1, at2, at3, e_tupL, e_tupT, e_lstT, e_Own, e_ownK, e_Sub, e_For, e_Items, e_itL, e_itT, e_itR, e_Call, e_CallF, e_aNil, e_aVal, e_aVK, e_aVK2, step0, step1, step2, step3, out0, out1, out2, out3, outX1, outX2, outO1, outO2, outO3, e_onSh, e_onOw, decide_true, decide_false, Bool.not_true, Bool.not_false, List.cons_append, List.nil_append, List.getElem?_cons_zero, List.getElem?_cons_succ, List.set_cons_zero, List.set_cons_succ, Nat.reduceLT, Nat.reduceAdd, Nat.reduceSub, Option.map_some, finF, outsE, e_frz, d_rng7, e_forK, e_tnN, e_tnC, e_tnB, e_tnR, e_whT, e_whF, e_Raise, e_Par, e_parK, e_parK2, e_augK, e_Ch, e_chK1, e_chK2, e_chT, e_chF, e_Try, e_tryO, e_tru, e_While, e_abs, e_max2, e_min2, e_gSq2, e_tup1, e_lst1, e_tup2, e_lst2, e_tup3, e_lst3, e_tup4, e_lst4, e_tup5, e_lst5, e_tup6, e_lst6, e_tup7, e_lst7, e_tup8, e_lst8])
  refine (e_run [] 3 _ _ rfl).trans ?_
  unfold b__law_asked
  rw [show startE 3 [.sh d] = [some (.sh d), none, none] from rfl, seq_ok (show sOwn (fLst (dNil)) 1 [some (.sh d), none, none] = .ok .nx [some (.sh d), some (.ow (.lst [])), none] from rfl),
    seq_ok (show sAsg (dC (.int 0)) (gSet 2) [some (.sh d), some (.ow (.lst [])), none] = .ok .nx [some (.sh d), some (.ow (.lst [])), some (.sh (.int 0))] from rfl), seq_ok (step _ 0 e1), seq_ok (step _ _ e2), seq_ok (step _ _ e3), seq_ok (step _ _ e4), seq_ok (step _ _ e5)]
  rfl
/-! ### words -/
/-- a word: its head, its kind -/
structure Wd (d : D) (h k : Str) (r : List D) : Prop where
  th : Th d
  eq : d = .tup (.str h :: r)
  ok : PyData.strOk h = true
  kd : kd d = .str k
theorem ix0 (a : D) (r : List D) : vIxI (.tup (a :: r)) (.int 0) = some a := at0 _ _
theorem in_unk (h : Str) (ok : PyData.strOk h = true) : CK.f .in_ (.str h) g_UNKNOWN = some (.bl (decide (h ∈ UNK))) := in_tupS (ws := UNK) false ok (by decide +kernel)
theorem in_inn (h : Str) (ok : PyData.strOk h = true) : CK.f .in_ (.str h) g_INNER_WORDS = some (.bl (decide (h ∈ INN))) := in_tupS (ws := INN) false ok (by decide +kernel)
theorem in_abs (h : Str) (ok : PyData.strOk h = true) : CK.f .in_ (.str h) (.tup [.str "name", .str "date", .str "place"]) = some (.bl (decide (h ∈ ABS))) := in_tupS (ws := ABS) false ok (by decide +kernel)
section
variable {d : D} {h k : Str} {r : List D}
theorem chk_ok (w : Wd d h k r) : m_check_word [.sh d] = .ok (.sh d) [] := by
  have e := kof_ok w.th w.kd
  refine (e_run [] 1 _ _ rfl).trans ?_
  unfold b_check_word
  simp only [startE, List.map, List.length, List.replicate, e_Seq, e_Asg, e_Ret, e_RetF, e_Expr, e_exprK, e_op, e_op2, e_op1, e_un, e_is, e_B, e_bK, e_Cons, e_consK, e_consK2, e_Nil, e_var, e_C, e_bind, e_bindX, e_bindB, e_lookS, e_lookO, M.toD, e_of, e_asgK, e_gSet, e_stK, e_sqN, e_sqR, e_sqB, e_sqC, e_sNil, e_retK, e_retFK, e_add, e_vI, e_neg, e_fInt, e_fIntB, e_sIf, e_sifT, e_sifF, e_T, e_toB, e_Tru, e_truB, e_And, e_Or, e_andT, e_andF, e_orT, e_orF, e_Not, e_notK, e_AndV, e_OrV, e_andVT, e_andVF, e_orVT, e_orVF, e_NotV, e_notVK, e_If, e_ifT, e_ifF, e_Tup, e_Lst, e_LstF, e_tup0, e_lst0, e_lstF0, e_eqI, e_neI, e_ltI, e_leI, e_gtI, e_geI, e_lenL, e_lenT, e_lenR, e_lenS, e_ixL, e_ixT, at0, at1, at2, at3, e_tupL, e_tupT, e_lstT, e_Own, e_ownK, e_Sub, e_For, e_Items, e_itL, e_itT, e_itR, e_Call, e_CallF, e_aNil, e_aVal, e_aVK, e_aVK2, step0, step1, step2, step3, out0, out1, out2, out3, outX1, outX2, outO1, outO2, outO3, e_onSh, e_onOw, decide_true, decide_false, Bool.not_true, Bool.not_false, List.cons_append, List.nil_append, List.getElem?_cons_zero, List.getElem?_cons_succ, List.set_cons_zero, List.set_cons_succ, Nat.reduceLT, Nat.reduceAdd, Nat.reduceSub, Option.map_some, finF, outsE, e_frz, d_rng7, e_forK, e_tnN, e_tnC, e_tnB, e_tnR, e_whT, e_whF, e_Raise, e_Par, e_parK, e_parK2, e_augK, e_Ch, e_chK1, e_chK2, e_chT, e_chF, e_Try, e_tryO, e_tru, e_While, e_abs, e_max2, e_min2, e_gSq2, e_tup1, e_lst1, e_tup2, e_lst2, e_tup3, e_lst3, e_tup4, e_lst4, e_tup5, e_lst5, e_tup6, e_lst6, e_tup7, e_lst7, e_tup8, e_lst8, e_RaF, e_raF1, e_raF2, e_TryA, e_tryAO, e_asgnK, e_frzX, e_bindX, e_Fld, e_SFld, e_Mk, e_mkK1, e_mkK2, e_mkK3, e_mkK4, e_mkO, e_mkX, e_Met, e_metK2, e_Enum, e_enumL, e_enumT, pairs2, pairs3, pairs4, e_lst13, e_lst14, e_lst15, e_lst16, e_lst9, e_lst10, e_lst11, e_lst12, e_tup9, e_tup10, e_tup11, e_tup12, e_ListF, e_listFT, e_listFL, e_GetK, e_getK, e_IfB, e_ifBT, e_ifBF, e_notB, e_isB, o_int, o_str, o_tup, o_lst, o_non, o_bl, n_int, n_str, n_tup, n_lst, n_non, n_bl, e]
theorem unk_ok (w : Wd d h k r) : m_is_unknown [.sh d] = .ok (.sh (.bl (decide (h ∈ UNK)))) [] := by
  have e := kof_ok w.th w.kd
  have q := in_unk h w.ok
  have z := w.eq
  subst z
  generalize decide (h ∈ UNK) = b at *
  refine (e_run [] 1 _ _ rfl).trans ?_
  unfold b_is_unknown
  simp only [startE, List.map, List.length, List.replicate, e_Seq, e_Asg, e_Ret, e_RetF, e_Expr, e_exprK, e_op, e_op2, e_op1, e_un, e_is, e_B, e_bK, e_Cons, e_consK, e_consK2, e_Nil, e_var, e_C, e_bind, e_bindX, e_bindB, e_lookS, e_lookO, M.toD, e_of, e_asgK, e_gSet, e_stK, e_sqN, e_sqR, e_sqB, e_sqC, e_sNil, e_retK, e_retFK, e_add, e_vI, e_neg, e_fInt, e_fIntB, e_sIf, e_sifT, e_sifF, e_T, e_toB, e_Tru, e_truB, e_And, e_Or, e_andT, e_andF, e_orT, e_orF, e_Not, e_notK, e_AndV, e_OrV, e_andVT, e_andVF, e_orVT, e_orVF, e_NotV, e_notVK, e_If, e_ifT, e_ifF, e_Tup, e_Lst, e_LstF, e_tup0, e_lst0, e_lstF0, e_eqI, e_neI, e_ltI, e_leI, e_gtI, e_geI, e_lenL, e_lenT, e_lenR, e_lenS, e_ixL, e_ixT, at0, at1, at2, at3, e_tupL, e_tupT, e_lstT, e_Own, e_ownK, e_Sub, e_For, e_Items, e_itL, e_itT, e_itR, e_Call, e_CallF, e_aNil, e_aVal, e_aVK, e_aVK2, step0, step1, step2, step3, out0, out1, out2, out3, outX1, outX2, outO1, outO2, outO3, e_onSh, e_onOw, decide_true, decide_false, Bool.not_true, Bool.not_false, List.cons_append, List.nil_append, List.getElem?_cons_zero, List.getElem?_cons_succ, List.set_cons_zero, List.set_cons_succ, Nat.reduceLT, Nat.reduceAdd, Nat.reduceSub, Option.map_some, finF, outsE, e_frz, d_rng7, e_forK, e_tnN, e_tnC, e_tnB, e_tnR, e_whT, e_whF, e_Raise, e_Par, e_parK, e_parK2, e_augK, e_Ch, e_chK1, e_chK2, e_chT, e_chF, e_Try, e_tryO, e_tru, e_While, e_abs, e_max2, e_min2, e_gSq2, e_tup1, e_lst1, e_tup2, e_lst2, e_tup3, e_lst3, e_tup4, e_lst4, e_tup5, e_lst5, e_tup6, e_lst6, e_tup7, e_lst7, e_tup8, e_lst8, e_RaF, e_raF1, e_raF2, e_TryA, e_tryAO, e_asgnK, e_frzX, e_bindX, e_Fld, e_SFld, e_Mk, e_mkK1, e_mkK2, e_mkK3, e_mkK4, e_mkO, e_mkX, e_Met, e_metK2, e_Enum, e_enumL, e_enumT, pairs2, pairs3, pairs4, e_lst13, e_lst14, e_lst15, e_lst16, e_lst9, e_lst10, e_lst11, e_lst12, e_tup9, e_tup10, e_tup11, e_tup12, e_ListF, e_listFT, e_listFL, e_GetK, e_getK, e_IfB, e_ifBT, e_ifBF, e_notB, e_isB, o_int, o_str, o_tup, o_lst, o_non, o_bl, n_int, n_str, n_tup, n_lst, n_non, n_bl, e, ix0, q, -e_ixT]
theorem ner_ok (w : Wd d h k r) : m_needs_report [.sh d] = .ok (.sh (.bl (decide (h ∈ INN)))) [] := by
  have e := kof_ok w.th w.kd
  have q := in_inn h w.ok
  have z := w.eq
  subst z
  generalize decide (h ∈ INN) = b at *
  refine (e_run [] 1 _ _ rfl).trans ?_
  unfold b_needs_report
  simp only [startE, List.map, List.length, List.replicate, e_Seq, e_Asg, e_Ret, e_RetF, e_Expr, e_exprK, e_op, e_op2, e_op1, e_un, e_is, e_B, e_bK, e_Cons, e_consK, e_consK2, e_Nil, e_var, e_C, e_bind, e_bindX, e_bindB, e_lookS, e_lookO, M.toD, e_of, e_asgK, e_gSet, e_stK, e_sqN, e_sqR, e_sqB, e_sqC, e_sNil, e_retK, e_retFK, e_add, e_vI, e_neg, e_fInt, e_fIntB, e_sIf, e_sifT, e_sifF, e_T, e_toB, e_Tru, e_truB, e_And, e_Or, e_andT, e_andF, e_orT, e_orF, e_Not, e_notK, e_AndV, e_OrV, e_andVT, e_andVF, e_orVT, e_orVF, e_NotV, e_notVK, e_If, e_ifT, e_ifF, e_Tup, e_Lst, e_LstF, e_tup0, e_lst0, e_lstF0, e_eqI, e_neI, e_ltI, e_leI, e_gtI, e_geI, e_lenL, e_lenT, e_lenR, e_lenS, e_ixL, e_ixT, at0, at1, at2, at3, e_tupL, e_tupT, e_lstT, e_Own, e_ownK, e_Sub, e_For, e_Items, e_itL, e_itT, e_itR, e_Call, e_CallF, e_aNil, e_aVal, e_aVK, e_aVK2, step0, step1, step2, step3, out0, out1, out2, out3, outX1, outX2, outO1, outO2, outO3, e_onSh, e_onOw, decide_true, decide_false, Bool.not_true, Bool.not_false, List.cons_append, List.nil_append, List.getElem?_cons_zero, List.getElem?_cons_succ, List.set_cons_zero, List.set_cons_succ, Nat.reduceLT, Nat.reduceAdd, Nat.reduceSub, Option.map_some, finF, outsE, e_frz, d_rng7, e_forK, e_tnN, e_tnC, e_tnB, e_tnR, e_whT, e_whF, e_Raise, e_Par, e_parK, e_parK2, e_augK, e_Ch, e_chK1, e_chK2, e_chT, e_chF, e_Try, e_tryO, e_tru, e_While, e_abs, e_max2, e_min2, e_gSq2, e_tup1, e_lst1, e_tup2, e_lst2, e_tup3, e_lst3, e_tup4, e_lst4, e_tup5, e_lst5, e_tup6, e_lst6, e_tup7, e_lst7, e_tup8, e_lst8, e_RaF, e_raF1, e_raF2, e_TryA, e_tryAO, e_asgnK, e_frzX, e_bindX, e_Fld, e_SFld, e_Mk, e_mkK1, e_mkK2, e_mkK3, e_mkK4, e_mkO, e_mkX, e_Met, e_metK2, e_Enum, e_enumL, e_enumT, pairs2, pairs3, pairs4, e_lst13, e_lst14, e_lst15, e_lst16, e_lst9, e_lst10, e_lst11, e_lst12, e_tup9, e_tup10, e_tup11, e_tup12, e_ListF, e_listFT, e_listFL, e_GetK, e_getK, e_IfB, e_ifBT, e_ifBF, e_notB, e_isB, o_int, o_str, o_tup, o_lst, o_non, o_bl, n_int, n_str, n_tup, n_lst, n_non, n_bl, e, ix0, q, -e_ixT]
theorem abs_ok (w : Wd d h k r) : m_is_absolute [.sh d] = .ok (.sh (.bl (decide (h ∈ ABS)))) [] := by
  have e := kof_ok w.th w.kd
  have q := in_abs h w.ok
  have z := w.eq
  subst z
  generalize decide (h ∈ ABS) = b at *
  refine (e_run [] 1 _ _ rfl).trans ?_
  unfold b_is_absolute
  simp only [startE, List.map, List.length, List.replicate, e_Seq, e_Asg, e_Ret, e_RetF, e_Expr, e_exprK, e_op, e_op2, e_op1, e_un, e_is, e_B, e_bK, e_Cons, e_consK, e_consK2, e_Nil, e_var, e_C, e_bind, e_bindX, e_bindB, e_lookS, e_lookO, M.toD, e_of, e_asgK, e_gSet, e_stK, e_sqN, e_sqR, e_sqB, e_sqC, e_sNil, e_retK, e_retFK, e_add, e_vI, e_neg, e_fInt, e_fIntB, e_sIf, e_sifT, e_sifF, e_T, e_toB, e_Tru, e_truB, e_And, e_Or, e_andT, e_andF, e_orT, e_orF, e_Not, e_notK, e_AndV, e_OrV, e_andVT, e_andVF, e_orVT, e_orVF, e_NotV, e_notVK, e_If, e_ifT, e_ifF, e_Tup, e_Lst, e_LstF, e_tup0, e_lst0, e_lstF0, e_eqI, e_neI, e_ltI, e_leI, e_gtI, e_geI, e_lenL, e_lenT, e_lenR, e_lenS, e_ixL, e_ixT, at0, at1, at2, at3, e_tupL, e_tupT, e_lstT, e_Own, e_ownK, e_Sub, e_For, e_Items, e_itL, e_itT, e_itR, e_Call, e_CallF, e_aNil, e_aVal, e_aVK, e_aVK2, step0, step1, step2, step3, out0, out1, out2, out3, outX1, outX2, outO1, outO2, outO3, e_onSh, e_onOw, decide_true, decide_false, Bool.not_true, Bool.not_false, List.cons_append, List.nil_append, List.getElem?_cons_zero, List.getElem?_cons_succ, List.set_cons_zero, List.set_cons_succ, Nat.reduceLT, Nat.reduceAdd, Nat.reduceSub, Option.map_some, finF, outsE, e_frz, d_rng7, e_forK, e_tnN, e_tnC, e_tnB, e_tnR, e_whT, e_whF, e_Raise, e_Par, e_parK, e_parK2, e_augK, e_Ch, e_chK1, e_chK2, e_chT, e_chF, e_Try, e_tryO, e_tru, e_While, e_abs, e_max2, e_min2, e_gSq2, e_tup1, e_lst1, e_tup2, e_lst2, e_tup3, e_lst3, e_tup4, e_lst4, e_tup5, e_lst5, e_tup6, e_lst6, e_tup7, e_lst7, e_tup8, e_lst8, e_RaF, e_raF1, e_raF2, e_TryA, e_tryAO, e_asgnK, e_frzX, e_bindX, e_Fld, e_SFld, e_Mk, e_mkK1, e_mkK2, e_mkK3, e_mkK4, e_mkO, e_mkX, e_Met, e_metK2, e_Enum, e_enumL, e_enumT, pairs2, pairs3, pairs4, e_lst13, e_lst14, e_lst15, e_lst16, e_lst9, e_lst10, e_lst11, e_lst12, e_tup9, e_tup10, e_tup11, e_tup12, e_ListF, e_listFT, e_listFL, e_GetK, e_getK, e_IfB, e_ifBT, e_ifBF, e_notB, e_isB, o_int, o_str, o_tup, o_lst, o_non, o_bl, n_int, n_str, n_tup, n_lst, n_non, n_bl, e, ix0, q, -e_ixT]
theorem asked_ok (w : Wd d h k r) : m__law_asked [.sh d] = .ok (.sh (.lst [.lst [.str k, d, .bl (decide (h ∈ UNK)), .bl (decide (h ∈ ABS)), .bl (decide (h ∈ INN))], .int 0])) [] := by
  have e1 := kof_ok w.th w.kd
  have e2 := chk_ok w
  have e3 := unk_ok w
  have e4 := abs_ok w
  have e5 := ner_ok w
  generalize decide (h ∈ UNK) = b1 at *
  generalize decide (h ∈ INN) = b2 at *
  generalize decide (h ∈ ABS) = b3 at *
  have step : ∀ (F : List DV → FO) (x : D) (ds : List D), ds.length < 100 → F [.sh d] = .ok (.sh x) [] → sTry subT (sApp 1 (dCall F (aVal (dVar 0) (aNil)))) 1 (sAsg (dAdd (dVar 2) (dC (.int 1))) (gSet 2)) [some (.sh d), some (.ow (.lst ds)), some (.sh (.int 0))]
      = .ok .nx [some (.sh d), some (.ow (.lst (ds ++ [x]))), some (.sh (.int 0))] := by
    intro F x ds hl hF
    have hz : ds.length < sizeLine := by rw [sizeLine_eq]; omega
    rw [e_Try]
    simp only [startE, List.map, List.length, List.replicate, e_Seq, e_Asg, e_Ret, e_RetF, e_Expr, e_exprK, e_op, e_op2, e_op1, e_un, e_is, e_B, e_bK, e_Cons, e_consK, e_consK2, e_Nil, e_var, e_C, e_bind, e_bindX, e_bindB, e_lookS, e_lookO, M.toD, e_of, e_asgK, e_gSet, e_stK, e_sqN, e_sqR, e_sqB, e_sqC, e_sNil, e_retK, e_retFK, e_add, e_vI, e_neg, e_fInt, e_fIntB, e_sIf, e_sifT, e_sifF, e_T, e_toB, e_Tru, e_truB, e_And, e_Or, e_andT, e_andF, e_orT, e_orF, e_Not, e_notK, e_AndV, e_OrV, e_andVT, e_andVF, e_orVT, e_orVF, e_NotV, e_notVK, e_If, e_ifT, e_ifF, e_Tup, e_Lst, e_LstF, e_tup0, e_lst0, e_lstF0, e_eqI, e_neI, e_ltI, e_leI, e_gtI, e_geI, e_lenL, e_lenT, e_lenR, e_lenS, e_ixL, e_ixT, at0, at1, at2, at3, e_tupL, e_tupT, e_lstT, e_Own, e_ownK, e_Sub, e_For, e_Items, e_itL, e_itT, e_itR, e_Call, e_CallF, e_aNil, e_aVal, e_aVK, e_aVK2, step0, step1, step2, step3, out0, out1, out2, out3, outX1, outX2, outO1, outO2, outO3, e_onSh, e_onOw, decide_true, decide_false, Bool.not_true, Bool.not_false, List.cons_append, List.nil_append, List.getElem?_cons_zero, List.getElem?_cons_succ, List.set_cons_zero, List.set_cons_succ, Nat.reduceLT, Nat.reduceAdd, Nat.reduceSub, Option.map_some, finF, outsE, e_frz, d_rng7, e_forK, e_tnN, e_tnC, e_tnB, e_tnR, e_whT, e_whF, e_Raise, e_Par, e_parK, e_parK2, e_augK, e_Ch, e_chK1, e_chK2, e_chT, e_chF, e_Try, e_tryO, e_tru, e_While, e_abs, e_max2, e_min2, e_gSq2, e_tup1, e_lst1, e_tup2, e_lst2, e_tup3, e_lst3, e_tup4, e_lst4, e_tup5, e_lst5, e_tup6, e_lst6, e_tup7, e_lst7, e_tup8, e_lst8, e_RaF, e_raF1, e_raF2, e_TryA, e_tryAO, e_asgnK, e_frzX, e_bindX, e_Fld, e_SFld, e_Mk, e_mkK1, e_mkK2, e_mkK3, e_mkK4, e_mkO, e_mkX, e_Met, e_metK2, e_Enum, e_enumL, e_enumT, pairs2, pairs3, pairs4, e_lst13, e_lst14, e_lst15, e_lst16, e_lst9, e_lst10, e_lst11, e_lst12, e_tup9, e_tup10, e_tup11, e_tup12, e_ListF, e_listFT, e_listFL, e_GetK, e_getK, e_IfB, e_ifBT, e_ifBF, e_notB, e_isB, o_int, o_str, o_tup, o_lst, o_non, o_bl, n_int, n_str, n_tup, n_lst, n_non, n_bl, e_App (ds := ds), hF, e_appK (ds := ds) (hl := hz)]
  refine (e_run [] 3 _ _ rfl).trans ?_
  unfold b__law_asked
  rw [show startE 3 [.sh d] = [some (.sh d), none, none] from rfl, seq_ok (show sOwn (fLst (dNil)) 1 [some (.sh d), none, none] = .ok .nx [some (.sh d), some (.ow (.lst [])), none] from rfl),
    seq_ok (show sAsg (dC (.int 0)) (gSet 2) [some (.sh d), some (.ow (.lst [])), none] = .ok .nx [some (.sh d), some (.ow (.lst [])), some (.sh (.int 0))] from rfl), seq_ok (step _ _ [] (by decide) e1), seq_ok (step _ _ _ (by show 1 < 100; decide) e2), seq_ok (step _ _ _ (by show 2 < 100; decide) e3), seq_ok (step _ _ _ (by show 3 < 100; decide) e4), seq_ok (step _ _ _ (by show 4 < 100; decide) e5)]
  rfl
end
end L01
set_option Elab.async false
set_option linter.all false
set_option maxRecDepth 100000
set_option maxHeartbeats 4000000
namespace L01
open PySem L2 Rf
theorem eq_one {h : Str} (ok : PyData.strOk h = true) : CK.f .ne (.tup [.str h]) (.tup [.str h]) = some (.bl false) := by
  have s : SeqAt.shaped (D.tup [.str h]).toPy = true := by simp [SeqAt.shaped, D.toPy, toPyL, PyData.canLay0, PyData.canLayAll0, PyData.depth, PyData.depthAll, ok]
  show vEq true _ _ = _
  unfold vEq
  rw [if_pos ⟨s, s⟩]
  simp [D.toPy, toPyL, PyData.eqv, PyData.eqvAll]
theorem eq_int {h : Str} {i : Int} (ok : PyData.strOk h = true) : CK.f .ne (.tup [.str h, .int i]) (.tup [.str h, .int i]) = some (.bl false) := by
  have s : SeqAt.shaped (D.tup [.str h, .int i]).toPy = true := by simp [SeqAt.shaped, D.toPy, toPyL, PyData.canLay0, PyData.canLayAll0, PyData.depth, PyData.depthAll, ok]
  show vEq true _ _ = _
  unfold vEq
  rw [if_pos ⟨s, s⟩]
  simp [D.toPy, toPyL, PyData.eqv, PyData.eqvAll]
theorem eq_str {h x : Str} (ok : PyData.strOk h = true) (okx : PyData.strOk x = true) : CK.f .ne (.tup [.str h, .str x]) (.tup [.str h, .str x]) = some (.bl false) := by
  have s : SeqAt.shaped (D.tup [.str h, .str x]).toPy = true := by simp [SeqAt.shaped, D.toPy, toPyL, PyData.canLay0, PyData.canLayAll0, PyData.depth, PyData.depthAll, ok, okx]
  show vEq true _ _ = _
  unfold vEq
  rw [if_pos ⟨s, s⟩]
  simp [D.toPy, toPyL, PyData.eqv, PyData.eqvAll]
/-! ### repr -/
theorem rc39 : lowS.all (fun c => decide ((Builtin.Str.reprChar 39 c).length ≤ 1)) = true := by kernel_rfl
theorem rc34 : lowS.all (fun c => decide ((Builtin.Str.reprChar 34 c).length ≤ 1)) = true := by kernel_rfl
theorem rfold (q : Nat) : ∀ (l : List Nat) (n : Nat), (∀ c ∈ l, (Builtin.Str.reprChar q c).length ≤ 1) → l.foldl (fun n c => n + (Builtin.Str.reprChar q c).length) n ≤ n + l.length
  | [], n, _ => Nat.le_refl _
  | c :: r, n, h => by
    have h1 := h c List.mem_cons_self
    have ih := rfold q r (n + (Builtin.Str.reprChar q c).length) fun c hc => h c (List.mem_cons_of_mem _ hc)
    simp only [List.foldl_cons, List.length_cons]
    omega
theorem repr_len {x : Str} (h : Nm x) : (reprText x).length ≤ sizeLine := by
  rw [← reprLen_eq, ← Array.foldl_toList]
  have hq : ∀ c ∈ x.cps.toList, (Builtin.Str.reprChar (reprQuote x) c).length ≤ 1 := fun c hc => by
    have q : reprQuote x = 34 ∨ reprQuote x = 39 := by unfold reprQuote; split; exact .inl rfl; exact .inr rfl
    rcases q with q | q
    · rw [q]; simpa using List.all_eq_true.mp rc34 c (h.mem c hc)
    · rw [q]; simpa using List.all_eq_true.mp rc39 c (h.mem c hc)
  have := rfold _ _ 2 hq
  have hl := h.hi
  rw [sizeLine_eq]
  have : x.cps.toList.length = x.cps.size := Array.length_toList
  omega
theorem repr_str {x : Str} (h : (reprText x).length ≤ sizeLine) : fRepr [.str x] = some (.str (reprText x)) := if_pos h
theorem repr_int {i : Int} (h : i.natAbs.log2 < 1920) : fRepr [.int i] = some (.str (toString i)) := if_pos ⟨h, int_text_fits h⟩
/-- what else is asked of a word -/
structure W2 (d : D) (h k : Str) (r : List D) : Prop extends Wd d h k r where
  ne : CK.f .ne d d = some (.bl false)
  la : ∃ l t, vIxI d (.int (-1)) = some l ∧ fRepr [l] = some (.str t)
theorem word_of {d : D} {k : Str} (th : Th d) (q : kd d = .str k) : ∃ h r, W2 d h k r := by
  cases th with
  | @one h ok =>
    have hs : h ∈ SW := by
      by_cases z : h ∈ SW
      · exact z
      · have : sgl h = .str k := q
        rw [sgl_out z] at this; cases this
    refine ⟨h, [], ⟨.one ok, rfl, ok, q⟩, eq_one ok, .str h, reprText h, rfl, repr_str ?_⟩
    simp only [SW, List.mem_cons, List.not_mem_nil, or_false] at hs
    rcases hs with z | z | z | z | z | z | z | z | z <;> rw [z] <;> decide +kernel
  | @two h r ok p =>
    have q' : kd2 (decide (h = "name")) (decide (h = "place")) (decide (h = "date")) (decide (h ∈ STEP)) (decide (h ∈ WEEK)) r = .str k := q
    have isn : nm r = true → ∃ x, r = .str x ∧ Nm x := fun z => by
      cases p.pl with
      | nam hx => exact ⟨_, rfl, hx⟩
      | bad hx _ => have : nmS _ = true := z; rw [hx] at this; cases this
      | _ => cases z
    have go : (∃ i, r = .int i) ∨ nm r = true := by
      unfold kd2 ifD at q'
      split at q'
      · split at q'
        · rename_i z; exact .inr z
        · cases q'
      · split at q'
        · split at q'
          · rename_i z; exact .inr z
          · cases q'
        · split at q'
          · exact .inl ⟨_, rfl⟩
          · cases q'
    rcases go with ⟨i, rfl⟩ | z
    · exact ⟨h, [.int i], ⟨.two ok p, rfl, ok, q⟩, eq_int ok, .int i, toString i, rfl, repr_int (p.few i rfl)⟩
    · obtain ⟨x, rfl, hx⟩ := isn z
      exact ⟨h, [.str x], ⟨.two ok p, rfl, ok, q⟩, eq_str ok hx.ok, .str x, reprText x, rfl, repr_str (repr_len hx)⟩
  | three a b c => rw [show kd (.tup [a, b, c]) = .non from by cases a <;> rfl] at q; cases q
  | _ => cases q
theorem kd_cases {d : D} (th : Th d) : kd d = .non ∨ ∃ k, kd d = .str k := by
  cases th with
  | @one h ok =>
    show sgl h = .non ∨ _
    by_cases z : h ∈ SW
    · right
      simp only [SW, List.mem_cons, List.not_mem_nil, or_false] at z
      rcases z with z | z | z | z | z | z | z | z | z <;> rw [z]
      · exact ⟨"person", by kernel_rfl⟩
      · exact ⟨"person", by kernel_rfl⟩
      · exact ⟨"person", by kernel_rfl⟩
      · exact ⟨"person", by kernel_rfl⟩
      · exact ⟨"person", by kernel_rfl⟩
      · exact ⟨"day", by kernel_rfl⟩
      · exact ⟨"place", by kernel_rfl⟩
      · exact ⟨"place", by kernel_rfl⟩
      · exact ⟨"place", by kernel_rfl⟩
    · exact .inl (sgl_out z)
  | @two h r ok p =>
    show kd2 _ _ _ _ _ r = .non ∨ ∃ k, kd2 _ _ _ _ _ r = .str k
    have f : ∀ (b : Bool) (s : Str), ifD b (.str s) = .non ∨ ∃ k, ifD b (.str s) = .str k := fun b s => by cases b; exact .inl rfl; exact .inr ⟨s, rfl⟩
    unfold kd2
    split
    · exact f _ _
    · split
      · exact f _ _
      · split
        · split
          · exact .inr ⟨_, rfl⟩
          · split
            · exact f _ _
            · split
              · exact f _ _
              · exact .inl rfl
        · exact .inl rfl
  | three a b c => exact .inl (by cases a <;> rfl)
  | _ => exact .inl rfl
theorem gS2 (a b : D) (x y o2 o3 o4 o5 : Option DV) : gSeq 2 (gsCons (gSet 2) (gsCons (gSet 3) (gsNil))) (.lst [a, b]) [x, y, o2, o3, o4, o5] = some [x, y, some (.sh a), some (.sh b), o4, o5] := rfl
theorem unl_same (p : Bool) : m__law_unlike [.sh (.bl p), .sh (.bl p)] = .ok (.sh (.bl false)) [] := by cases p <;> kernel_rfl
theorem inside_ok {d : D} {h k : Str} {r : List D} (w : Wd d h k r) : m__law_inside [.sh d] = .ok (.sh (.bl (decide (h ∈ INN)))) [] := by
  have q : CK.f .in_ (.str h) (.lst [.str "self", .str "told", .str "that day", .str "there", .str "then coming", .str "then last"]) = some (.bl (decide (h ∈ INN))) := in_lstS (ws := INN) false w.ok (by decide +kernel)
  have z := w.eq
  subst z
  generalize decide (h ∈ INN) = b at *
  refine (e_run [] 1 _ _ rfl).trans ?_
  unfold b__law_inside
  simp only [startE, List.map, List.length, List.replicate, e_Seq, e_Asg, e_Ret, e_RetF, e_Expr, e_exprK, e_op, e_op2, e_op1, e_un, e_is, e_B, e_bK, e_Cons, e_consK, e_consK2, e_Nil, e_var, e_C, e_bind, e_bindX, e_bindB, e_lookS, e_lookO, M.toD, e_of, e_asgK, e_gSet, e_stK, e_sqN, e_sqR, e_sqB, e_sqC, e_sNil, e_retK, e_retFK, e_add, e_vI, e_neg, e_fInt, e_fIntB, e_sIf, e_sifT, e_sifF, e_T, e_toB, e_Tru, e_truB, e_And, e_Or, e_andT, e_andF, e_orT, e_orF, e_Not, e_notK, e_AndV, e_OrV, e_andVT, e_andVF, e_orVT, e_orVF, e_NotV, e_notVK, e_If, e_ifT, e_ifF, e_Tup, e_Lst, e_LstF, e_tup0, e_lst0, e_lstF0, e_eqI, e_neI, e_ltI, e_leI, e_gtI, e_geI, e_lenL, e_lenT, e_lenR, e_lenS, e_ixL, e_ixT, at0, at1, at2, at3, e_tupL, e_tupT, e_lstT, e_Own, e_ownK, e_Sub, e_For, e_Items, e_itL, e_itT, e_itR, e_Call, e_CallF, e_aNil, e_aVal, e_aVK, e_aVK2, step0, step1, step2, step3, out0, out1, out2, out3, outX1, outX2, outO1, outO2, outO3, e_onSh, e_onOw, decide_true, decide_false, Bool.not_true, Bool.not_false, List.cons_append, List.nil_append, List.getElem?_cons_zero, List.getElem?_cons_succ, List.set_cons_zero, List.set_cons_succ, Nat.reduceLT, Nat.reduceAdd, Nat.reduceSub, Option.map_some, finF, outsE, e_frz, d_rng7, e_forK, e_tnN, e_tnC, e_tnB, e_tnR, e_whT, e_whF, e_Raise, e_Par, e_parK, e_parK2, e_augK, e_Ch, e_chK1, e_chK2, e_chT, e_chF, e_Try, e_tryO, e_tru, e_While, e_abs, e_max2, e_min2, e_gSq2, e_tup1, e_lst1, e_tup2, e_lst2, e_tup3, e_lst3, e_tup4, e_lst4, e_tup5, e_lst5, e_tup6, e_lst6, e_tup7, e_lst7, e_tup8, e_lst8, e_RaF, e_raF1, e_raF2, e_TryA, e_tryAO, e_asgnK, e_frzX, e_bindX, e_Fld, e_SFld, e_Mk, e_mkK1, e_mkK2, e_mkK3, e_mkK4, e_mkO, e_mkX, e_Met, e_metK2, e_Enum, e_enumL, e_enumT, pairs2, pairs3, pairs4, e_lst13, e_lst14, e_lst15, e_lst16, e_lst9, e_lst10, e_lst11, e_lst12, e_tup9, e_tup10, e_tup11, e_tup12, e_ListF, e_listFT, e_listFL, e_GetK, e_getK, e_IfB, e_ifBT, e_ifBF, e_notB, e_isB, o_int, o_str, o_tup, o_lst, o_non, o_bl, n_int, n_str, n_tup, n_lst, n_non, n_bl, ix0, q, -e_ixT]
theorem right_ok {d : D} (th : Th d) : m__law_right [.sh d] = .ok (.sh (.bl true)) [] := by
  have ek := lkind_ok th
  have ef := find_ok th
  rcases kd_cases th with q | ⟨k, q⟩
  · have ea := asked_bad th q
    rw [q] at ek ef
    have n1 : CK.f .ne .non .non = some (.bl false) := by kernel_rfl
    have n2 : CK.f .isN .non .non = some (.bl true) := rfl
    have n3 : CK.f .eq (.lst []) (.lst []) = some (.bl true) := by kernel_rfl
    have n4 : CK.f .eq (.int 5) (.int 5) = some (.bl true) := rfl
    refine (e_run [] 6 _ _ rfl).trans ?_
    unfold b__law_right
    simp only [startE, List.map, List.length, List.replicate, e_Seq, e_Asg, e_Ret, e_RetF, e_Expr, e_exprK, e_op, e_op2, e_op1, e_un, e_is, e_B, e_bK, e_Cons, e_consK, e_consK2, e_Nil, e_var, e_C, e_bind, e_bindX, e_bindB, e_lookS, e_lookO, M.toD, e_of, e_asgK, e_gSet, e_stK, e_sqN, e_sqR, e_sqB, e_sqC, e_sNil, e_retK, e_retFK, e_add, e_vI, e_neg, e_fInt, e_fIntB, e_sIf, e_sifT, e_sifF, e_T, e_toB, e_Tru, e_truB, e_And, e_Or, e_andT, e_andF, e_orT, e_orF, e_Not, e_notK, e_AndV, e_OrV, e_andVT, e_andVF, e_orVT, e_orVF, e_NotV, e_notVK, e_If, e_ifT, e_ifF, e_Tup, e_Lst, e_LstF, e_tup0, e_lst0, e_lstF0, e_eqI, e_neI, e_ltI, e_leI, e_gtI, e_geI, e_lenL, e_lenT, e_lenR, e_lenS, e_ixL, e_ixT, at0, at1, at2, at3, e_tupL, e_tupT, e_lstT, e_Own, e_ownK, e_Sub, e_For, e_Items, e_itL, e_itT, e_itR, e_Call, e_CallF, e_aNil, e_aVal, e_aVK, e_aVK2, step0, step1, step2, step3, out0, out1, out2, out3, outX1, outX2, outO1, outO2, outO3, e_onSh, e_onOw, decide_true, decide_false, Bool.not_true, Bool.not_false, List.cons_append, List.nil_append, List.getElem?_cons_zero, List.getElem?_cons_succ, List.set_cons_zero, List.set_cons_succ, Nat.reduceLT, Nat.reduceAdd, Nat.reduceSub, Option.map_some, finF, outsE, e_frz, d_rng7, e_forK, e_tnN, e_tnC, e_tnB, e_tnR, e_whT, e_whF, e_Raise, e_Par, e_parK, e_parK2, e_augK, e_Ch, e_chK1, e_chK2, e_chT, e_chF, e_Try, e_tryO, e_tru, e_While, e_abs, e_max2, e_min2, e_gSq2, e_tup1, e_lst1, e_tup2, e_lst2, e_tup3, e_lst3, e_tup4, e_lst4, e_tup5, e_lst5, e_tup6, e_lst6, e_tup7, e_lst7, e_tup8, e_lst8, e_RaF, e_raF1, e_raF2, e_TryA, e_tryAO, e_asgnK, e_frzX, e_bindX, e_Fld, e_SFld, e_Mk, e_mkK1, e_mkK2, e_mkK3, e_mkK4, e_mkO, e_mkX, e_Met, e_metK2, e_Enum, e_enumL, e_enumT, pairs2, pairs3, pairs4, e_lst13, e_lst14, e_lst15, e_lst16, e_lst9, e_lst10, e_lst11, e_lst12, e_tup9, e_tup10, e_tup11, e_tup12, e_ListF, e_listFT, e_listFL, e_GetK, e_getK, e_IfB, e_ifBT, e_ifBF, e_notB, e_isB, o_int, o_str, o_tup, o_lst, o_non, o_bl, n_int, n_str, n_tup, n_lst, n_non, n_bl, ek, ef, ea, n1, n2, n3, n4, gS2, -e_eqI, -e_neI]
  · obtain ⟨h, r, w⟩ := word_of th q
    have ea := asked_ok w.toWd
    have ei := inside_ok w.toWd
    rw [q] at ek ef
    have n1 : CK.f .ne (.str k) (.str k) = some (.bl false) := by rw [e_neS]; simp
    have n2 : CK.f .isN (.str k) .non = some (.bl false) := rfl
    have n4 : CK.f .ne (.int 0) (.int 0) = some (.bl false) := rfl
    have n5 := w.ne
    obtain ⟨l, t, hl, ht⟩ := w.la
    have n6 : CK.f .ne (.str t) (.str t) = some (.bl false) := by rw [e_neS]; simp
    have n7 : vNeg (.int 1) = some (.int (-1)) := rfl
    have i0 : vIxI d (.int 0) = some (.str h) := by rw [w.eq]; exact ix0 _ _
    have tT : isTy "tuple" d = some true := by rw [w.eq]; rfl
    have tt : fTuple [d] = some d := by rw [w.eq]; rfl
    have u1 : CK.f .in_ (.str h) (.lst [.str "somebody", .str "one day", .str "somewhere"]) = some (.bl (decide (h ∈ UNK))) := in_lstS (ws := UNK) false w.ok (by decide +kernel)
    have u2 : CK.f .in_ (.str h) (.lst [.str "name", .str "date", .str "place"]) = some (.bl (decide (h ∈ ABS))) := in_lstS (ws := ABS) false w.ok (by decide +kernel)
    generalize decide (h ∈ UNK) = b1 at *
    generalize decide (h ∈ INN) = b2 at *
    generalize decide (h ∈ ABS) = b3 at *
    have x0 : ∀ a b c : D, vIxI (.lst [.str k, d, a, b, c]) (.int 0) = some (.str k) := fun _ _ _ => at0 _ _
    have x1 : ∀ a b c : D, vIxI (.lst [.str k, d, a, b, c]) (.int 1) = some d := fun _ _ _ => at1 _ _ _
    have x2 : ∀ a b c : D, vIxI (.lst [.str k, d, a, b, c]) (.int 2) = some a := fun _ _ _ => at2 _ _ _ _
    have x3 : ∀ a b c : D, vIxI (.lst [.str k, d, a, b, c]) (.int 3) = some b := fun _ _ _ => at3 _ _ _ _ _
    have x4 : ∀ a b c : D, vIxI (.lst [.str k, d, a, b, c]) (.int 4) = some c := fun a b c => rfl
    refine (e_run [] 6 _ _ rfl).trans ?_
    unfold b__law_right
    clear th w q
    simp only [startE, List.map, List.length, List.replicate, e_Seq, e_Asg, e_Ret, e_RetF, e_Expr, e_exprK, e_op, e_op2, e_op1, e_un, e_is, e_B, e_bK, e_Cons, e_consK, e_consK2, e_Nil, e_var, e_C, e_bind, e_bindX, e_bindB, e_lookS, e_lookO, M.toD, e_of, e_asgK, e_gSet, e_stK, e_sqN, e_sqR, e_sqB, e_sqC, e_sNil, e_retK, e_retFK, e_add, e_vI, e_neg, e_fInt, e_fIntB, e_sIf, e_sifT, e_sifF, e_T, e_toB, e_Tru, e_truB, e_And, e_Or, e_andT, e_andF, e_orT, e_orF, e_Not, e_notK, e_AndV, e_OrV, e_andVT, e_andVF, e_orVT, e_orVF, e_NotV, e_notVK, e_If, e_ifT, e_ifF, e_Tup, e_Lst, e_LstF, e_tup0, e_lst0, e_lstF0, e_eqI, e_neI, e_ltI, e_leI, e_gtI, e_geI, e_lenL, e_lenT, e_lenR, e_lenS, e_ixL, e_ixT, at0, at1, at2, at3, e_tupL, e_tupT, e_lstT, e_Own, e_ownK, e_Sub, e_For, e_Items, e_itL, e_itT, e_itR, e_Call, e_CallF, e_aNil, e_aVal, e_aVK, e_aVK2, step0, step1, step2, step3, out0, out1, out2, out3, outX1, outX2, outO1, outO2, outO3, e_onSh, e_onOw, decide_true, decide_false, Bool.not_true, Bool.not_false, List.cons_append, List.nil_append, List.getElem?_cons_zero, List.getElem?_cons_succ, List.set_cons_zero, List.set_cons_succ, Nat.reduceLT, Nat.reduceAdd, Nat.reduceSub, Option.map_some, finF, outsE, e_frz, d_rng7, e_forK, e_tnN, e_tnC, e_tnB, e_tnR, e_whT, e_whF, e_Raise, e_Par, e_parK, e_parK2, e_augK, e_Ch, e_chK1, e_chK2, e_chT, e_chF, e_Try, e_tryO, e_tru, e_While, e_abs, e_max2, e_min2, e_gSq2, e_tup1, e_lst1, e_tup2, e_lst2, e_tup3, e_lst3, e_tup4, e_lst4, e_tup5, e_lst5, e_tup6, e_lst6, e_tup7, e_lst7, e_tup8, e_lst8, e_RaF, e_raF1, e_raF2, e_TryA, e_tryAO, e_asgnK, e_frzX, e_bindX, e_Fld, e_SFld, e_Mk, e_mkK1, e_mkK2, e_mkK3, e_mkK4, e_mkO, e_mkX, e_Met, e_metK2, e_Enum, e_enumL, e_enumT, pairs2, pairs3, pairs4, e_lst13, e_lst14, e_lst15, e_lst16, e_lst9, e_lst10, e_lst11, e_lst12, e_tup9, e_tup10, e_tup11, e_tup12, e_ListF, e_listFT, e_listFL, e_GetK, e_getK, e_IfB, e_ifBT, e_ifBF, e_notB, e_isB, o_int, o_str, o_tup, o_lst, o_non, o_bl, n_int, n_str, n_tup, n_lst, n_non, n_bl, ek, ef, ea, ei, n1, n2, n4, n5, n6, n7, hl, ht, i0, tT, tt, u1, u2, x0, x1, x2, x3, x4, gS2, unl_same, forL_gS2, forL_nil, -e_eqI, -e_neI, -e_ixL, -e_neg]
end L01
set_option Elab.async false
set_option linter.all false
set_option maxRecDepth 100000
set_option maxHeartbeats 4000000
namespace L01
open PySem L2 Rf
/-! ### what is drawn -/
theorem few_of {i : Int} (h1 : -(10 ^ 42) ≤ i) (h2 : i ≤ 10 ^ 42) : i.natAbs.log2 < 1920 := by
  by_cases h0 : i.natAbs = 0
  · rw [h0]; decide
  · have : i.natAbs < 2 ^ 1920 := Nat.lt_of_lt_of_le (show i.natAbs < 2 ^ 140 by omega) (Nat.pow_le_pow_right (by decide) (by decide))
    exact (Nat.log2_lt h0).mpr this
theorem rs_int {i : Int} (h1 : -(10 ^ 42) ≤ i) (h2 : i ≤ 10 ^ 42) : Rs (.int i) := ⟨.int i, fun j e => by cases e; exact few_of h1 h2⟩
theorem rs_pl {d : D} (p : Pl d) (n : ∀ i, d ≠ .int i) : Rs d := ⟨p, fun i e => absurd e (n i)⟩
theorem pl_mem {x : Str} (hm : ∀ c ∈ x.cps.toList, c ∈ lowS) (hl : x.length ≤ 100) : Pl (.str x) := by
  by_cases h1 : 1 ≤ x.length
  · by_cases h2 : x.length ≤ 8
    · exact .nam ⟨h1, h2, hm⟩
    · exact .bad (by unfold nmS; rw [decide_eq_false h2]; simp) (by rw [sizeLine_eq]; omega)
  · exact .bad (by unfold nmS; rw [decide_eq_false h1]; simp) (by rw [sizeLine_eq]; omega)
theorem pl_no {x : Str} (c : Nat) (hc : c ∈ x.cps.toList) (hn : low c = false) (hl : x.length ≤ 100) : Pl (.str x) := by
  refine .bad ?_ (by rw [sizeLine_eq]; omega)
  have : x.cps.toList.all low = false := by
    rw [List.all_eq_false]
    exact ⟨c, hc, by rw [hn]; decide⟩
  unfold nmS
  rw [this]
  simp
theorem len_app (x y : Str) : (x ++ y).length = x.length + y.length := by show (x.cps ++ y.cps).size = _; simp; rfl
theorem mem_app {x y : Str} {c : Nat} : c ∈ (x ++ y).cps.toList ↔ c ∈ x.cps.toList ∨ c ∈ y.cps.toList := by
  show c ∈ (x.cps ++ y.cps).toList ↔ _
  rw [Array.toList_append, List.mem_append]
theorem cut_mem {x : Str} {lo hi : Option Int} {c : Nat} (h : c ∈ (cutS x lo hi).cps.toList) : c ∈ x.cps.toList := by
  unfold cutS at h
  simp only at h
  exact List.mem_of_mem_drop (List.mem_of_mem_take h)
theorem cut_len (x : Str) (lo hi : Option Int) : (cutS x lo hi).length ≤ x.length := cutS_length x lo hi
theorem cat_ok {x y : Str} (h : x.length + y.length ≤ 100) : vAdd (.str x) (.str y) = some (.str (x ++ y)) := e_addS x y (by rw [sizeLine_eq]; omega)
theorem atL {xs : List D} {r : Int} {n : Nat} (hl : xs.length = n) (h0 : 0 ≤ r) (h1 : r < n) : ∃ x, vIxI (.lst xs) (.int r) = some x ∧ x ∈ xs := by
  have hr : r.toNat < xs.length := by omega
  exact ⟨xs[r.toNat], atN h0 (List.getElem?_eq_getElem hr), List.getElem_mem hr⟩
def OD1 : List D := [.non, .bl true, .int 3, .str "I", .lst [.str "I"], .tup [.str "I", .str "I"], .tup [], .tup [.str "it"], .tup [.str "today"], .tup [.str "today", .int 31]]
def OD2 : List D := [.tup [.str "that day", .int (-31)], .tup [.str "coming", .int 7], .tup [.str "last", .int (-1)], .tup [.str "date", .str "1"], .tup [.str "name", .str "Ann"]]
def OD3 : List D := [.tup [.str "place", .str ""], .tup [.str "name", .str "abcdefghi"], .tup [.str "today", .non], .tup [.int 1], .tup [.str "here", .int 0]]
theorem th2b {h x : Str} (ok : PyData.strOk h = true) (n : nmS x = false) (l : x.length ≤ sizeLine) : Th (.tup [.str h, .str x]) := .two ok (rs_pl (.bad n l) (fun _ => by simp))
theorem th2i {h : Str} {i : Int} (ok : PyData.strOk h = true) (h1 : -(10 ^ 42) ≤ i) (h2 : i ≤ 10 ^ 42) : Th (.tup [.str h, .int i]) := .two ok (rs_int h1 h2)
theorem od1_th : ∀ x ∈ OD1, Th x := by
  intro x hx
  simp only [OD1, List.mem_cons, List.not_mem_nil, or_false] at hx
  rcases hx with h | h | h | h | h | h | h | h | h | h <;> rw [h]
  · exact .non
  · exact .bl _
  · exact .int _
  · exact .str _
  · exact .lst _
  · exact th2b (by decide +kernel) (by kernel_rfl) (by decide +kernel)
  · exact .nil
  · exact .one (by decide +kernel)
  · exact .one (by decide +kernel)
  · exact th2i (by decide +kernel) (by decide) (by decide)
theorem od2_th : ∀ x ∈ OD2, Th x := by
  intro x hx
  simp only [OD2, List.mem_cons, List.not_mem_nil, or_false] at hx
  rcases hx with h | h | h | h | h <;> rw [h]
  · exact th2i (by decide +kernel) (by decide) (by decide)
  · exact th2i (by decide +kernel) (by decide) (by decide)
  · exact th2i (by decide +kernel) (by decide) (by decide)
  · exact th2b (by decide +kernel) (by kernel_rfl) (by decide +kernel)
  · exact th2b (by decide +kernel) (by kernel_rfl) (by decide +kernel)
theorem od3_th : ∀ x ∈ OD3, Th x := by
  intro x hx
  simp only [OD3, List.mem_cons, List.not_mem_nil, or_false] at hx
  rcases hx with h | h | h | h | h <;> rw [h]
  · exact th2b (by decide +kernel) (by kernel_rfl) (by decide +kernel)
  · exact th2b (by decide +kernel) (by kernel_rfl) (by decide +kernel)
  · exact .two (by decide +kernel) (rs_pl .non (fun _ => by simp))
  · exact .num _
  · exact th2i (by decide +kernel) (by decide) (by decide)
theorem odd_ok {m : M} (hm : Good m) : ∃ (x : D) (m' : M), m__law_odd_word [.ow m] = .ok (.sh x) [m'] ∧ Good m' ∧ Th x := by
  obtain ⟨r, m1, e1, g1, r0, r1⟩ := tk (n := 20) hm (by decide)
  have n31 : vNeg (.int 31) = some (.int (-31)) := rfl
  have n1 : vNeg (.int 1) = some (.int (-1)) := rfl
  have c1 : CK.f .lt (.int r) (.int 10) = some (.bl (decide (r < 10))) := rfl
  have c2 : CK.f .lt (.int r) (.int 15) = some (.bl (decide (r < 15))) := rfl
  by_cases h1 : r < 10
  · obtain ⟨x, hx, hm⟩ := atL (xs := OD1) (n := 10) rfl r0 h1
    refine ⟨x, m1, ?_, g1, od1_th x hm⟩
    rw [decide_eq_true h1] at c1
    unfold OD1 at hx
    refine (e_run [0] 2 _ _ rfl).trans ?_
    unfold b__law_odd_word
    simp only [startE, List.map, List.length, List.replicate, e_Seq, e_Asg, e_Ret, e_RetF, e_Expr, e_exprK, e_op, e_op2, e_op1, e_un, e_is, e_B, e_bK, e_Cons, e_consK, e_consK2, e_Nil, e_var, e_C, e_bind, e_bindX, e_bindB, e_lookS, e_lookO, M.toD, e_of, e_asgK, e_gSet, e_stK, e_sqN, e_sqR, e_sqB, e_sqC, e_sNil, e_retK, e_retFK, e_add, e_vI, e_neg, e_fInt, e_fIntB, e_sIf, e_sifT, e_sifF, e_T, e_toB, e_Tru, e_truB, e_And, e_Or, e_andT, e_andF, e_orT, e_orF, e_Not, e_notK, e_AndV, e_OrV, e_andVT, e_andVF, e_orVT, e_orVF, e_NotV, e_notVK, e_If, e_ifT, e_ifF, e_Tup, e_Lst, e_LstF, e_tup0, e_lst0, e_lstF0, e_eqI, e_neI, e_ltI, e_leI, e_gtI, e_geI, e_lenL, e_lenT, e_lenR, e_lenS, e_ixL, e_ixT, at0, at1, at2, at3, e_tupL, e_tupT, e_lstT, e_Own, e_ownK, e_Sub, e_For, e_Items, e_itL, e_itT, e_itR, e_Call, e_CallF, e_aNil, e_aVal, e_aVK, e_aVK2, step0, step1, step2, step3, out0, out1, out2, out3, outX1, outX2, outO1, outO2, outO3, e_onSh, e_onOw, decide_true, decide_false, Bool.not_true, Bool.not_false, List.cons_append, List.nil_append, List.getElem?_cons_zero, List.getElem?_cons_succ, List.set_cons_zero, List.set_cons_succ, Nat.reduceLT, Nat.reduceAdd, Nat.reduceSub, Option.map_some, finF, outsE, e_frz, d_rng7, e_forK, e_tnN, e_tnC, e_tnB, e_tnR, e_whT, e_whF, e_Raise, e_Par, e_parK, e_parK2, e_augK, e_Ch, e_chK1, e_chK2, e_chT, e_chF, e_Try, e_tryO, e_tru, e_While, e_abs, e_max2, e_min2, e_gSq2, e_tup1, e_lst1, e_tup2, e_lst2, e_tup3, e_lst3, e_tup4, e_lst4, e_tup5, e_lst5, e_tup6, e_lst6, e_tup7, e_lst7, e_tup8, e_lst8, e_RaF, e_raF1, e_raF2, e_TryA, e_tryAO, e_asgnK, e_frzX, e_bindX, e_Fld, e_SFld, e_Mk, e_mkK1, e_mkK2, e_mkK3, e_mkK4, e_mkO, e_mkX, e_Met, e_metK2, e_Enum, e_enumL, e_enumT, pairs2, pairs3, pairs4, e_lst13, e_lst14, e_lst15, e_lst16, e_lst9, e_lst10, e_lst11, e_lst12, e_tup9, e_tup10, e_tup11, e_tup12, e_ListF, e_listFT, e_listFL, e_GetK, e_getK, e_IfB, e_ifBT, e_ifBF, e_notB, e_isB, o_int, o_str, o_tup, o_lst, o_non, o_bl, n_int, n_str, n_tup, n_lst, n_non, n_bl, e_aIo (m := m), stepO2 (m := m), e1, c1, hx, n31, n1, -e_ltI, -e_ixL, -e_neg]
  · rw [decide_eq_false h1] at c1
    by_cases h2 : r < 15
    · obtain ⟨x, hx, hm⟩ := atL (xs := OD2) (n := 5) (r := r - 10) rfl (by omega) (by omega)
      refine ⟨x, m1, ?_, g1, od2_th x hm⟩
      rw [decide_eq_true h2] at c2
      unfold OD2 at hx
      refine (e_run [0] 2 _ _ rfl).trans ?_
      unfold b__law_odd_word
      simp only [startE, List.map, List.length, List.replicate, e_Seq, e_Asg, e_Ret, e_RetF, e_Expr, e_exprK, e_op, e_op2, e_op1, e_un, e_is, e_B, e_bK, e_Cons, e_consK, e_consK2, e_Nil, e_var, e_C, e_bind, e_bindX, e_bindB, e_lookS, e_lookO, M.toD, e_of, e_asgK, e_gSet, e_stK, e_sqN, e_sqR, e_sqB, e_sqC, e_sNil, e_retK, e_retFK, e_add, e_vI, e_neg, e_fInt, e_fIntB, e_sIf, e_sifT, e_sifF, e_T, e_toB, e_Tru, e_truB, e_And, e_Or, e_andT, e_andF, e_orT, e_orF, e_Not, e_notK, e_AndV, e_OrV, e_andVT, e_andVF, e_orVT, e_orVF, e_NotV, e_notVK, e_If, e_ifT, e_ifF, e_Tup, e_Lst, e_LstF, e_tup0, e_lst0, e_lstF0, e_eqI, e_neI, e_ltI, e_leI, e_gtI, e_geI, e_lenL, e_lenT, e_lenR, e_lenS, e_ixL, e_ixT, at0, at1, at2, at3, e_tupL, e_tupT, e_lstT, e_Own, e_ownK, e_Sub, e_For, e_Items, e_itL, e_itT, e_itR, e_Call, e_CallF, e_aNil, e_aVal, e_aVK, e_aVK2, step0, step1, step2, step3, out0, out1, out2, out3, outX1, outX2, outO1, outO2, outO3, e_onSh, e_onOw, decide_true, decide_false, Bool.not_true, Bool.not_false, List.cons_append, List.nil_append, List.getElem?_cons_zero, List.getElem?_cons_succ, List.set_cons_zero, List.set_cons_succ, Nat.reduceLT, Nat.reduceAdd, Nat.reduceSub, Option.map_some, finF, outsE, e_frz, d_rng7, e_forK, e_tnN, e_tnC, e_tnB, e_tnR, e_whT, e_whF, e_Raise, e_Par, e_parK, e_parK2, e_augK, e_Ch, e_chK1, e_chK2, e_chT, e_chF, e_Try, e_tryO, e_tru, e_While, e_abs, e_max2, e_min2, e_gSq2, e_tup1, e_lst1, e_tup2, e_lst2, e_tup3, e_lst3, e_tup4, e_lst4, e_tup5, e_lst5, e_tup6, e_lst6, e_tup7, e_lst7, e_tup8, e_lst8, e_RaF, e_raF1, e_raF2, e_TryA, e_tryAO, e_asgnK, e_frzX, e_bindX, e_Fld, e_SFld, e_Mk, e_mkK1, e_mkK2, e_mkK3, e_mkK4, e_mkO, e_mkX, e_Met, e_metK2, e_Enum, e_enumL, e_enumT, pairs2, pairs3, pairs4, e_lst13, e_lst14, e_lst15, e_lst16, e_lst9, e_lst10, e_lst11, e_lst12, e_tup9, e_tup10, e_tup11, e_tup12, e_ListF, e_listFT, e_listFL, e_GetK, e_getK, e_IfB, e_ifBT, e_ifBF, e_notB, e_isB, o_int, o_str, o_tup, o_lst, o_non, o_bl, n_int, n_str, n_tup, n_lst, n_non, n_bl, e_aIo (m := m), stepO2 (m := m), e1, c1, c2, hx, n31, n1, -e_ltI, -e_ixL, -e_neg]
    · obtain ⟨x, hx, hm⟩ := atL (xs := OD3) (n := 5) (r := r - 15) rfl (by omega) (by omega)
      refine ⟨x, m1, ?_, g1, od3_th x hm⟩
      rw [decide_eq_false h2] at c2
      unfold OD3 at hx
      refine (e_run [0] 2 _ _ rfl).trans ?_
      unfold b__law_odd_word
      simp only [startE, List.map, List.length, List.replicate, e_Seq, e_Asg, e_Ret, e_RetF, e_Expr, e_exprK, e_op, e_op2, e_op1, e_un, e_is, e_B, e_bK, e_Cons, e_consK, e_consK2, e_Nil, e_var, e_C, e_bind, e_bindX, e_bindB, e_lookS, e_lookO, M.toD, e_of, e_asgK, e_gSet, e_stK, e_sqN, e_sqR, e_sqB, e_sqC, e_sNil, e_retK, e_retFK, e_add, e_vI, e_neg, e_fInt, e_fIntB, e_sIf, e_sifT, e_sifF, e_T, e_toB, e_Tru, e_truB, e_And, e_Or, e_andT, e_andF, e_orT, e_orF, e_Not, e_notK, e_AndV, e_OrV, e_andVT, e_andVF, e_orVT, e_orVF, e_NotV, e_notVK, e_If, e_ifT, e_ifF, e_Tup, e_Lst, e_LstF, e_tup0, e_lst0, e_lstF0, e_eqI, e_neI, e_ltI, e_leI, e_gtI, e_geI, e_lenL, e_lenT, e_lenR, e_lenS, e_ixL, e_ixT, at0, at1, at2, at3, e_tupL, e_tupT, e_lstT, e_Own, e_ownK, e_Sub, e_For, e_Items, e_itL, e_itT, e_itR, e_Call, e_CallF, e_aNil, e_aVal, e_aVK, e_aVK2, step0, step1, step2, step3, out0, out1, out2, out3, outX1, outX2, outO1, outO2, outO3, e_onSh, e_onOw, decide_true, decide_false, Bool.not_true, Bool.not_false, List.cons_append, List.nil_append, List.getElem?_cons_zero, List.getElem?_cons_succ, List.set_cons_zero, List.set_cons_succ, Nat.reduceLT, Nat.reduceAdd, Nat.reduceSub, Option.map_some, finF, outsE, e_frz, d_rng7, e_forK, e_tnN, e_tnC, e_tnB, e_tnR, e_whT, e_whF, e_Raise, e_Par, e_parK, e_parK2, e_augK, e_Ch, e_chK1, e_chK2, e_chT, e_chF, e_Try, e_tryO, e_tru, e_While, e_abs, e_max2, e_min2, e_gSq2, e_tup1, e_lst1, e_tup2, e_lst2, e_tup3, e_lst3, e_tup4, e_lst4, e_tup5, e_lst5, e_tup6, e_lst6, e_tup7, e_lst7, e_tup8, e_lst8, e_RaF, e_raF1, e_raF2, e_TryA, e_tryAO, e_asgnK, e_frzX, e_bindX, e_Fld, e_SFld, e_Mk, e_mkK1, e_mkK2, e_mkK3, e_mkK4, e_mkO, e_mkX, e_Met, e_metK2, e_Enum, e_enumL, e_enumT, pairs2, pairs3, pairs4, e_lst13, e_lst14, e_lst15, e_lst16, e_lst9, e_lst10, e_lst11, e_lst12, e_tup9, e_tup10, e_tup11, e_tup12, e_ListF, e_listFT, e_listFL, e_GetK, e_getK, e_IfB, e_ifBT, e_ifBF, e_notB, e_isB, o_int, o_str, o_tup, o_lst, o_non, o_bl, n_int, n_str, n_tup, n_lst, n_non, n_bl, e_aIo (m := m), stepO2 (m := m), e1, c1, c2, hx, n31, n1, -e_ltI, -e_ixL, -e_neg]
def N40 : Int := 10000000000000000000000000000000000000000
theorem pw40 : vIc cPow (fun i j => i ^ j.toNat) (.int 10) (.int 40) = some (.int N40) := by kernel_rfl
theorem mu40 : vIc cMul (fun i j => i * j) (.int 2) (.int N40) = some (.int (2 * N40)) := by kernel_rfl
theorem tk40 {m : M} (hm : Good m) : ∃ r m', m__law_take [.ow m, .sh (.int (2 * N40))] = .ok (.sh (.int r)) [m'] ∧ Good m' ∧ 0 ≤ r ∧ r < 2 * N40 := take_ok hm (n := 2 * N40) (by decide) (by decide +kernel)
def HD : List Str := ["name", "place", "date", "today", "that day", "coming", "last", "then coming", "then last"]
def HX : List Str := ["tomorrow", "", "i"]
theorem at_strs {ws : List Str} {r : Int} {n : Nat} (hl : ws.length = n) (h0 : 0 ≤ r) (h1 : r < n) (ok : ws.all PyData.strOk = true) : ∃ x, vIxI (.lst (SD ws)) (.int r) = some (.str x) ∧ PyData.strOk x = true := by
  have hr : r.toNat < ws.length := by omega
  exact ⟨ws[r.toNat], atN h0 (by unfold SD; rw [List.getElem?_map, List.getElem?_eq_getElem hr]; rfl), List.all_eq_true.mp ok _ (List.getElem_mem hr)⟩
theorem sl_a (x : Str) (ρ : ENV) (h : ρ[5]? = some (some (.sh (.str x)))) : dSl (dVar 5) (dNoPart) (dPart (dNeg (dC (.int 1)))) ρ = .ok (.str (cutS x none (some (-1)))) ρ := by
  unfold dSl
  rw [e_var, h]
  rfl
theorem sl_b (x : Str) (ρ : ENV) (h : ρ[5]? = some (some (.sh (.str x)))) : dSl (dVar 5) (dPart (dC (.int 1))) (dNoPart) ρ = .ok (.str (cutS x (some 1) none)) ρ := by
  unfold dSl
  rw [e_var, h]
  rfl
/-- what may stand behind a head -/
theorem rest_rs {x : Str} (hx : Nm x) {n1 n2 n3 : Int} (b1 : -(10 ^ 42) ≤ n1 ∧ n1 ≤ 10 ^ 42) (b2 : -(10 ^ 42) ≤ n2 ∧ n2 ≤ 10 ^ 42) (b3 : -(10 ^ 42) ≤ n3 ∧ n3 ≤ 10 ^ 42) :
    ∀ z ∈ [D.int n1, .int n2, .int n3] ++ [D.str x, .str x, .int 30, .int (-30), .int 31, .int 6, .bl true, .str (x ++ "a"), .non, .str (cutS x none (some (-1))), .str (("A" : Str) ++ cutS x (some 1) none), .lst [.int 1], .int 0, .str (x ++ " ")], Rs z := by
  have h8 : x.length ≤ 8 := hx.hi
  intro z hz
  simp only [List.cons_append, List.nil_append, List.mem_cons, List.not_mem_nil, or_false] at hz
  have lA : ("A" : Str).length = 1 := by decide +kernel
  have la : ("a" : Str).length = 1 := by decide +kernel
  have ls : (" " : Str).length = 1 := by decide +kernel
  rcases hz with h | h | h | h | h | h | h | h | h | h | h | h | h | h | h | h | h <;> rw [h]
  · exact rs_int b1.1 b1.2
  · exact rs_int b2.1 b2.2
  · exact rs_int b3.1 b3.2
  · exact rs_pl (.nam hx) (fun _ => by simp)
  · exact rs_pl (.nam hx) (fun _ => by simp)
  · exact rs_int (by decide) (by decide)
  · exact rs_int (by decide) (by decide)
  · exact rs_int (by decide) (by decide)
  · exact rs_int (by decide) (by decide)
  · exact rs_pl (.bl _) (fun _ => by simp)
  · refine rs_pl (pl_mem (fun c hc => ?_) (by rw [len_app]; omega)) (fun _ => by simp)
    rcases mem_app.mp hc with hc | hc
    · exact hx.mem c hc
    · exact List.all_eq_true.mp (show ("a" : Str).cps.toList.all (fun c => decide (c ∈ lowS)) = true by decide +kernel) c hc |> of_decide_eq_true
  · exact rs_pl .non (fun _ => by simp)
  · exact rs_pl (pl_mem (fun c hc => hx.mem c (cut_mem hc)) (by have := cut_len x none (some (-1)); omega)) (fun _ => by simp)
  · refine rs_pl (pl_no 65 (mem_app.mpr (.inl (by decide +kernel))) (by kernel_rfl) (by rw [len_app]; have := cut_len x (some 1) none; omega)) (fun _ => by simp)
  · exact rs_pl (.lst _) (fun _ => by simp)
  · exact rs_int (by decide) (by decide)
  · exact rs_pl (pl_no 32 (mem_app.mpr (.inr (by decide +kernel))) (by kernel_rfl) (by rw [len_app]; omega)) (fun _ => by simp)
end L01
set_option Elab.async false
set_option linter.all false
set_option maxRecDepth 100000
set_option maxHeartbeats 4000000
namespace L01
open PySem L2 Rf
def tS0 : ENV → R Fl := (sAsg (dLst (dCons (dC (.str "I")) (dCons (dC (.str "you")) (dCons (dC (.str "self")) (dCons (dC (.str "told")) (dCons (dC (.str "somebody")) (dCons (dC (.str "one day")) (dCons (dC (.str "here")) (dCons (dC (.str "there")) (dCons (dC (.str "somewhere")) (dNil))))))))))) (gSet 1))
def tS1 : ENV → R Fl := (sAsg (dLst (dCons (dC (.str "name")) (dCons (dC (.str "place")) (dCons (dC (.str "date")) (dCons (dC (.str "today")) (dCons (dC (.str "that day")) (dCons (dC (.str "coming")) (dCons (dC (.str "last")) (dCons (dC (.str "then coming")) (dCons (dC (.str "then last")) (dNil))))))))))) (gSet 2))
def tS2 : ENV → R Fl := (sAsg (dCall m__law_take (aIo 0 (aVal (dC (.int 12)) (aNil)))) (gSet 3))
def tS3 : ENV → R Fl := (sIf (dT (dCmp .eq (dVar 3) (dC (.int 0)))) (sRet (dTup (dCons (dIx (dVar 1) (dCall m__law_take (aIo 0 (aVal (dC (.int 9)) (aNil))))) (dNil)))) (sNil))
def tS4 : ENV → R Fl := (sIf (dT (dCmp .eq (dVar 3) (dC (.int 1)))) (sRet (dCall m__law_odd_word (aIo 0 (aNil)))) (sNil))
def tS5 : ENV → R Fl := (sAsg (dIf (dT (dCmp .lt (dVar 3) (dC (.int 4)))) (dIx (dAdd (dAdd (dVar 2) (dVar 1)) (dLst (dCons (dC (.str "tomorrow")) (dCons (dC (.str "")) (dCons (dC (.str "i")) (dNil)))))) (dCall m__law_take (aIo 0 (aVal (dC (.int 21)) (aNil))))) (dIx (dVar 2) (dCall m__law_take (aIo 0 (aVal (dC (.int 9)) (aNil)))))) (gSet 4))
def tS6 : ENV → R Fl := (sAsg (dCall m__law_name (aIo 0 (aNil))) (gSet 5))
def tS7 : ENV → R Fl := (sAsg (dLst (dCons (dSub (dCall m__law_take (aIo 0 (aVal (dC (.int 15)) (aNil)))) (dC (.int 4))) (dCons (dSub (dCall m__law_take (aIo 0 (aVal (dC (.int 67)) (aNil)))) (dC (.int 33))) (dCons (dSub (dCall m__law_take (aIo 0 (aVal (dMul (dC (.int 2)) (dPow (dC (.int 10)) (dC (.int 40)))) (aNil)))) (dPow (dC (.int 10)) (dC (.int 40)))) (dNil))))) (gSet 6))
def tS8 : ENV → R Fl := (sAsg (dLst (dCons (dVar 5) (dCons (dVar 5) (dCons (dC (.int 30)) (dCons (dNeg (dC (.int 30))) (dCons (dC (.int 31)) (dCons (dC (.int 6)) (dCons (dC (.bl true)) (dCons (dAdd (dVar 5) (dC (.str "a"))) (dCons (dC .non) (dCons (dSl (dVar 5) (dNoPart) (dPart (dNeg (dC (.int 1))))) (dCons (dAdd (dC (.str "A")) (dSl (dVar 5) (dPart (dC (.int 1))) (dNoPart))) (dCons (dLst (dCons (dC (.int 1)) (dNil))) (dCons (dC (.int 0)) (dCons (dAdd (dVar 5) (dC (.str " "))) (dNil)))))))))))))))) (gSet 7))
def tS9 : ENV → R Fl := (sAsg (dIx (dAdd (dVar 6) (dVar 7)) (dCall m__law_take (aIo 0 (aVal (dC (.int 17)) (aNil))))) (gSet 8))
def tS10 : ENV → R Fl := (sIf (dT (dCmp .eq (dVar 3) (dC (.int 2)))) (sRet (dLst (dCons (dVar 4) (dCons (dVar 8) (dNil))))) (sNil))
def tS11 : ENV → R Fl := (sRet (dIf (dT (dCmp .eq (dVar 3) (dC (.int 3)))) (dTup (dCons (dVar 4) (dCons (dVar 8) (dCons (dVar 8) (dNil))))) (dTup (dCons (dVar 4) (dCons (dVar 8) (dNil))))))
theorem thing_cut : b__law_thing = sSeq tS0 (sSeq tS1 (sSeq tS2 (sSeq tS3 (sSeq tS4 (sSeq tS5 (sSeq tS6 (sSeq tS7 (sSeq tS8 (sSeq tS9 (sSeq tS10 tS11)))))))))) := rfl
def lC2 : ENV → R Fl := (sIf (dNot (dTru (dCall m__law_right (aVal (dTup (dCons (dVar 4) (dCons (dVar 3) (dNil)))) (aNil))))) (sRet (dC (.bl false))) (sNil))
def lB2 : ENV → R Fl := sFor (dItems (dLst (dCons (dC (.str "coming")) (dCons (dC (.str "last")) (dCons (dC (.str "then coming")) (dCons (dC (.str "then last")) (dNil))))))) (gSet 4) lC2
def lS0 : ENV → R Fl := (sOwn (fCall m__law_hand (aVal (dVar 0) (aNil))) 1)
def lB1 : ENV → R Fl := (sIf (dNot (dTru (dCall m__law_right (aVal (dCall m__law_thing (aIo 1 (aNil))) (aNil))))) (sRet (dC (.bl false))) (sNil))
def lS1 : ENV → R Fl := sFor (dRng1 (dC (.int 24))) (gSet 2) lB1
def lS2 : ENV → R Fl := sFor (dRng2 (dNeg (dC (.int 1))) (dC (.int 8))) (gSet 3) lB2
def lB3 : ENV → R Fl := (sIf (dOr (dNot (dTru (dCall m__law_right (aVal (dTup (dCons (dC (.str "today")) (dCons (dVar 5) (dNil)))) (aNil))))) (dNot (dTru (dCall m__law_right (aVal (dTup (dCons (dC (.str "that day")) (dCons (dVar 5) (dNil)))) (aNil)))))) (sRet (dC (.bl false))) (sNil))
def lS3 : ENV → R Fl := sFor (dRng2 (dNeg (dC (.int 32))) (dC (.int 33))) (gSet 5) lB3
def lB4 : ENV → R Fl := (sIf (dOr (dNot (dTru (dCall m__law_right (aVal (dTup (dCons (dVar 4) (dNil))) (aNil))))) (dOr (dNot (dTru (dCall m__law_right (aVal (dLst (dCons (dVar 4) (dNil))) (aNil))))) (dNot (dTru (dCall m__law_right (aVal (dVar 4) (aNil))))))) (sRet (dC (.bl false))) (sNil))
def lS4 : ENV → R Fl := sFor (dItems (dLst (dCons (dC (.str "I")) (dCons (dC (.str "you")) (dCons (dC (.str "self")) (dCons (dC (.str "told")) (dCons (dC (.str "somebody")) (dCons (dC (.str "one day")) (dCons (dC (.str "here")) (dCons (dC (.str "there")) (dCons (dC (.str "somewhere")) (dCons (dC (.str "today")) (dCons (dC (.str "name")) (dCons (dC (.str "date")) (dNil))))))))))))))) (gSet 4) lB4
def lS5 : ENV → R Fl := (sAsg (dSub (dCall m__law_take (aIo 1 (aVal (dMul (dC (.int 2)) (dPow (dC (.int 10)) (dC (.int 40)))) (aNil)))) (dPow (dC (.int 10)) (dC (.int 40)))) (gSet 6))
def lB6 : ENV → R Fl := (sSeq (sAsg (dCall m__law_whole (aVal (dVar 7) (aNil))) (gSet 8))
  (sIf (dOr (dTru (dCall m__law_unlike (aVal (dCall m_is_whole (aVal (dVar 7) (aNil))) (aVal (dVar 8) (aNil))))) (dTru (dCall m__law_unlike (aVal (dCall m_is_name (aVal (dVar 7) (aNil))) (aVal (dCall m__law_letters (aVal (dVar 7) (aNil))) (aNil)))))) (sRet (dC (.bl false))) (sNil)))
def lS6 : ENV → R Fl := sFor (dItems (dLst (dCons (dVar 6) (dCons (dC (.int 0)) (dCons (dC (.int 1)) (dCons (dNeg (dC (.int 1))) (dCons (dC (.bl true)) (dCons (dC (.bl false)) (dCons (dC .non) (dCons (dC (.str "1")) (dCons (dTup (dCons (dC (.int 1)) (dNil))) (dCons (dLst (dNil)) (dCons (dCall m__law_name (aIo 1 (aNil))) (dNil)))))))))))))) (gSet 7) lB6
def lS7 : ENV → R Fl := (sAsg (dCall m__law_name (aIo 1 (aNil))) (gSet 9))
def lB8 : ENV → R Fl := (sIf (dOr (dTru (dCall m__law_unlike (aVal (dCall m_is_name (aVal (dVar 7) (aNil))) (aVal (dCall m__law_letters (aVal (dVar 7) (aNil))) (aNil))))) (dTru (dCall m__law_unlike (aVal (dCall m_is_whole (aVal (dVar 7) (aNil))) (aVal (dC (.bl false)) (aNil)))))) (sRet (dC (.bl false))) (sNil))
def lS8 : ENV → R Fl := sFor (dItems (dLst (dCons (dVar 9) (dCons (dAdd (dVar 9) (dC (.str "abcdefgh"))) (dCons (dAdd (dVar 9) (dC (.str "-"))) (dCons (dAdd (dC (.str "A")) (dVar 9)) (dCons (dC (.str "")) (dCons (dOp vMulS (dIx (dVar 9) (dC (.int 0))) (dC (.int 8))) (dCons (dOp vMulS (dIx (dVar 9) (dC (.int 0))) (dC (.int 9))) (dCons (dAdd (dC (.str " ")) (dVar 9)) (dCons (dTup (dCons (dVar 9) (dNil))) (dCons (dC (.str "1")) (dNil))))))))))))) (gSet 7) lB8
def lS9 : ENV → R Fl := (sRet (dC (.bl true)))
theorem law_cut : b_law = sSeq lS0 (sSeq lS1 (sSeq lS2 (sSeq lS3 (sSeq lS4 (sSeq lS5 (sSeq lS6 (sSeq lS7 (sSeq lS8 lS9)))))))) := rfl
end L01
set_option Elab.async false
set_option linter.all false
set_option maxRecDepth 100000
set_option maxHeartbeats 4000000
namespace L01
open PySem L2 Rf
theorem run_eq {b : ENV → R Fl} {n : Nat} {m : M} (m' : M) (d : D) (ρ : ENV) (h : b (some (.ow m) :: List.replicate (n - 1) none) = .ok (.ret (.sh d)) (some (.ow m') :: ρ)) (hn : 1 ≤ n) : runF [0] n b [.ow m] = .ok (.sh d) [m'] := by
  rw [e_run [0] n b [.ow m] rfl]
  show finF [.ow m] (b (some (.ow m) :: List.replicate (n - 1) none)) = _
  rw [h]
  rfl
theorem SW_ok : SW.all PyData.strOk = true := by decide +kernel
theorem HD_ok : HD.all PyData.strOk = true := by decide +kernel
theorem all_ok : (HD ++ SW ++ HX).all PyData.strOk = true := by decide +kernel
theorem s0_ok (m : M) : tS0 [some (.ow m), none, none, none, none, none, none, none, none] = .ok .nx [some (.ow m), some (.sh (.lst (SD SW))), none, none, none, none, none, none, none] := rfl
theorem s1_ok (m : M) (o : Option DV) : tS1 [some (.ow m), o, none, none, none, none, none, none, none] = .ok .nx [some (.ow m), o, some (.sh (.lst (SD HD))), none, none, none, none, none, none] := rfl
theorem s2_ok {m m' : M} {r : Int} (o o2 : Option DV) (e : m__law_take [.ow m, .sh (.int 12)] = .ok (.sh (.int r)) [m']) : tS2 [some (.ow m), o, o2, none, none, none, none, none, none] = .ok .nx [some (.ow m'), o, o2, some (.sh (.int r)), none, none, none, none, none] := by
  unfold tS2
  simp only [startE, List.map, List.length, List.replicate, e_Seq, e_Asg, e_Ret, e_RetF, e_Expr, e_exprK, e_op, e_op2, e_op1, e_un, e_is, e_B, e_bK, e_Cons, e_consK, e_consK2, e_Nil, e_var, e_C, e_bind, e_bindX, e_bindB, e_lookS, e_lookO, M.toD, e_of, e_asgK, e_gSet, e_stK, e_sqN, e_sqR, e_sqB, e_sqC, e_sNil, e_retK, e_retFK, e_add, e_vI, e_neg, e_fInt, e_fIntB, e_sIf, e_sifT, e_sifF, e_T, e_toB, e_Tru, e_truB, e_And, e_Or, e_andT, e_andF, e_orT, e_orF, e_Not, e_notK, e_AndV, e_OrV, e_andVT, e_andVF, e_orVT, e_orVF, e_NotV, e_notVK, e_If, e_ifT, e_ifF, e_Tup, e_Lst, e_LstF, e_tup0, e_lst0, e_lstF0, e_eqI, e_neI, e_ltI, e_leI, e_gtI, e_geI, e_lenL, e_lenT, e_lenR, e_lenS, e_ixL, e_ixT, at0, at1, at2, at3, e_tupL, e_tupT, e_lstT, e_Own, e_ownK, e_Sub, e_For, e_Items, e_itL, e_itT, e_itR, e_Call, e_CallF, e_aNil, e_aVal, e_aVK, e_aVK2, step0, step1, step2, step3, out0, out1, out2, out3, outX1, outX2, outO1, outO2, outO3, e_onSh, e_onOw, decide_true, decide_false, Bool.not_true, Bool.not_false, List.cons_append, List.nil_append, List.getElem?_cons_zero, List.getElem?_cons_succ, List.set_cons_zero, List.set_cons_succ, Nat.reduceLT, Nat.reduceAdd, Nat.reduceSub, Option.map_some, finF, outsE, e_frz, d_rng7, e_forK, e_tnN, e_tnC, e_tnB, e_tnR, e_whT, e_whF, e_Raise, e_Par, e_parK, e_parK2, e_augK, e_Ch, e_chK1, e_chK2, e_chT, e_chF, e_Try, e_tryO, e_tru, e_While, e_abs, e_max2, e_min2, e_gSq2, e_tup1, e_lst1, e_tup2, e_lst2, e_tup3, e_lst3, e_tup4, e_lst4, e_tup5, e_lst5, e_tup6, e_lst6, e_tup7, e_lst7, e_tup8, e_lst8, e_aIo (m := m), stepO2 (m := m), e]
theorem eqI (i j : Int) : CK.f .eq (.int i) (.int j) = some (.bl (i == j)) := rfl
theorem thing_ok {m : M} (hm : Good m) : ∃ (x : D) (m' : M), m__law_thing [.ow m] = .ok (.sh x) [m'] ∧ Good m' ∧ Th x := by
  obtain ⟨w, m1, e1, g1, w0, w1⟩ := tk (n := 12) hm (by decide)
  have q0 := eqI w 0
  have q1 := eqI w 1
  have q2 := eqI w 2
  have q3 := eqI w 3
  have q4 : CK.f .lt (.int w) (.int 4) = some (.bl (decide (w < 4))) := rfl
  by_cases h0 : w = 0
  · obtain ⟨r, m2, e2, g2, r0, r1⟩ := tk (n := 9) g1 (by decide)
    obtain ⟨x, hx, ok⟩ := at_strs (ws := SW) rfl r0 r1 SW_ok
    rw [show (w == 0) = true by rw [h0]; rfl] at q0
    refine ⟨.tup [.str x], m2, run_eq m2 _ [some (.sh (.lst (SD SW))), some (.sh (.lst (SD HD))), some (.sh (.int w)), none, none, none, none, none] ?_ (by decide), g2, .one ok⟩
    show b__law_thing [some (.ow m), none, none, none, none, none, none, none, none] = _
    rw [thing_cut, seq_ok (s0_ok m), seq_ok (s1_ok m _), seq_ok (s2_ok _ _ e1)]
    refine seq_ret ?_
    unfold tS3
    generalize SD SW = A at *
    generalize SD HD = B at *
    simp only [startE, List.map, List.length, List.replicate, e_Seq, e_Asg, e_Ret, e_RetF, e_Expr, e_exprK, e_op, e_op2, e_op1, e_un, e_is, e_B, e_bK, e_Cons, e_consK, e_consK2, e_Nil, e_var, e_C, e_bind, e_bindX, e_bindB, e_lookS, e_lookO, M.toD, e_of, e_asgK, e_gSet, e_stK, e_sqN, e_sqR, e_sqB, e_sqC, e_sNil, e_retK, e_retFK, e_add, e_vI, e_neg, e_fInt, e_fIntB, e_sIf, e_sifT, e_sifF, e_T, e_toB, e_Tru, e_truB, e_And, e_Or, e_andT, e_andF, e_orT, e_orF, e_Not, e_notK, e_AndV, e_OrV, e_andVT, e_andVF, e_orVT, e_orVF, e_NotV, e_notVK, e_If, e_ifT, e_ifF, e_Tup, e_Lst, e_LstF, e_tup0, e_lst0, e_lstF0, e_eqI, e_neI, e_ltI, e_leI, e_gtI, e_geI, e_lenL, e_lenT, e_lenR, e_lenS, e_ixL, e_ixT, at0, at1, at2, at3, e_tupL, e_tupT, e_lstT, e_Own, e_ownK, e_Sub, e_For, e_Items, e_itL, e_itT, e_itR, e_Call, e_CallF, e_aNil, e_aVal, e_aVK, e_aVK2, step0, step1, step2, step3, out0, out1, out2, out3, outX1, outX2, outO1, outO2, outO3, e_onSh, e_onOw, decide_true, decide_false, Bool.not_true, Bool.not_false, List.cons_append, List.nil_append, List.getElem?_cons_zero, List.getElem?_cons_succ, List.set_cons_zero, List.set_cons_succ, Nat.reduceLT, Nat.reduceAdd, Nat.reduceSub, Option.map_some, finF, outsE, e_frz, d_rng7, e_forK, e_tnN, e_tnC, e_tnB, e_tnR, e_whT, e_whF, e_Raise, e_Par, e_parK, e_parK2, e_augK, e_Ch, e_chK1, e_chK2, e_chT, e_chF, e_Try, e_tryO, e_tru, e_While, e_abs, e_max2, e_min2, e_gSq2, e_tup1, e_lst1, e_tup2, e_lst2, e_tup3, e_lst3, e_tup4, e_lst4, e_tup5, e_lst5, e_tup6, e_lst6, e_tup7, e_lst7, e_tup8, e_lst8, e_RaF, e_raF1, e_raF2, e_TryA, e_tryAO, e_asgnK, e_frzX, e_bindX, e_Fld, e_SFld, e_Mk, e_mkK1, e_mkK2, e_mkK3, e_mkK4, e_mkO, e_mkX, e_Met, e_metK2, e_Enum, e_enumL, e_enumT, pairs2, pairs3, pairs4, e_lst13, e_lst14, e_lst15, e_lst16, e_lst9, e_lst10, e_lst11, e_lst12, e_tup9, e_tup10, e_tup11, e_tup12, e_ListF, e_listFT, e_listFL, e_GetK, e_getK, e_IfB, e_ifBT, e_ifBF, e_notB, e_isB, o_int, o_str, o_tup, o_lst, o_non, o_bl, n_int, n_str, n_tup, n_lst, n_non, n_bl, q0, e_aIo (m := m1), stepO2 (m := m1), e2, hx, -e_eqI, -e_ixL]
  · rw [show (w == 0) = false from beq_false_of_ne h0] at q0
    have s3 : ∀ o o2 : Option DV, tS3 [some (.ow m1), o, o2, some (.sh (.int w)), none, none, none, none, none] = .ok .nx [some (.ow m1), o, o2, some (.sh (.int w)), none, none, none, none, none] := fun o o2 => by
      unfold tS3
      simp only [startE, List.map, List.length, List.replicate, e_Seq, e_Asg, e_Ret, e_RetF, e_Expr, e_exprK, e_op, e_op2, e_op1, e_un, e_is, e_B, e_bK, e_Cons, e_consK, e_consK2, e_Nil, e_var, e_C, e_bind, e_bindX, e_bindB, e_lookS, e_lookO, M.toD, e_of, e_asgK, e_gSet, e_stK, e_sqN, e_sqR, e_sqB, e_sqC, e_sNil, e_retK, e_retFK, e_add, e_vI, e_neg, e_fInt, e_fIntB, e_sIf, e_sifT, e_sifF, e_T, e_toB, e_Tru, e_truB, e_And, e_Or, e_andT, e_andF, e_orT, e_orF, e_Not, e_notK, e_AndV, e_OrV, e_andVT, e_andVF, e_orVT, e_orVF, e_NotV, e_notVK, e_If, e_ifT, e_ifF, e_Tup, e_Lst, e_LstF, e_tup0, e_lst0, e_lstF0, e_eqI, e_neI, e_ltI, e_leI, e_gtI, e_geI, e_lenL, e_lenT, e_lenR, e_lenS, e_ixL, e_ixT, at0, at1, at2, at3, e_tupL, e_tupT, e_lstT, e_Own, e_ownK, e_Sub, e_For, e_Items, e_itL, e_itT, e_itR, e_Call, e_CallF, e_aNil, e_aVal, e_aVK, e_aVK2, step0, step1, step2, step3, out0, out1, out2, out3, outX1, outX2, outO1, outO2, outO3, e_onSh, e_onOw, decide_true, decide_false, Bool.not_true, Bool.not_false, List.cons_append, List.nil_append, List.getElem?_cons_zero, List.getElem?_cons_succ, List.set_cons_zero, List.set_cons_succ, Nat.reduceLT, Nat.reduceAdd, Nat.reduceSub, Option.map_some, finF, outsE, e_frz, d_rng7, e_forK, e_tnN, e_tnC, e_tnB, e_tnR, e_whT, e_whF, e_Raise, e_Par, e_parK, e_parK2, e_augK, e_Ch, e_chK1, e_chK2, e_chT, e_chF, e_Try, e_tryO, e_tru, e_While, e_abs, e_max2, e_min2, e_gSq2, e_tup1, e_lst1, e_tup2, e_lst2, e_tup3, e_lst3, e_tup4, e_lst4, e_tup5, e_lst5, e_tup6, e_lst6, e_tup7, e_lst7, e_tup8, e_lst8, e_RaF, e_raF1, e_raF2, e_TryA, e_tryAO, e_asgnK, e_frzX, e_bindX, e_Fld, e_SFld, e_Mk, e_mkK1, e_mkK2, e_mkK3, e_mkK4, e_mkO, e_mkX, e_Met, e_metK2, e_Enum, e_enumL, e_enumT, pairs2, pairs3, pairs4, e_lst13, e_lst14, e_lst15, e_lst16, e_lst9, e_lst10, e_lst11, e_lst12, e_tup9, e_tup10, e_tup11, e_tup12, e_ListF, e_listFT, e_listFL, e_GetK, e_getK, e_IfB, e_ifBT, e_ifBF, e_notB, e_isB, o_int, o_str, o_tup, o_lst, o_non, o_bl, n_int, n_str, n_tup, n_lst, n_non, n_bl, q0, -e_eqI, -e_ixL]
    by_cases h1 : w = 1
    · obtain ⟨x, m2, e2, g2, hx⟩ := odd_ok g1
      rw [show (w == 1) = true by rw [h1]; rfl] at q1
      refine ⟨x, m2, run_eq m2 _ [some (.sh (.lst (SD SW))), some (.sh (.lst (SD HD))), some (.sh (.int w)), none, none, none, none, none] ?_ (by decide), g2, hx⟩
      show b__law_thing [some (.ow m), none, none, none, none, none, none, none, none] = _
      rw [thing_cut, seq_ok (s0_ok m), seq_ok (s1_ok m _), seq_ok (s2_ok _ _ e1), seq_ok (s3 _ _)]
      refine seq_ret ?_
      unfold tS4
      generalize SD SW = A at *
      generalize SD HD = B at *
      simp only [startE, List.map, List.length, List.replicate, e_Seq, e_Asg, e_Ret, e_RetF, e_Expr, e_exprK, e_op, e_op2, e_op1, e_un, e_is, e_B, e_bK, e_Cons, e_consK, e_consK2, e_Nil, e_var, e_C, e_bind, e_bindX, e_bindB, e_lookS, e_lookO, M.toD, e_of, e_asgK, e_gSet, e_stK, e_sqN, e_sqR, e_sqB, e_sqC, e_sNil, e_retK, e_retFK, e_add, e_vI, e_neg, e_fInt, e_fIntB, e_sIf, e_sifT, e_sifF, e_T, e_toB, e_Tru, e_truB, e_And, e_Or, e_andT, e_andF, e_orT, e_orF, e_Not, e_notK, e_AndV, e_OrV, e_andVT, e_andVF, e_orVT, e_orVF, e_NotV, e_notVK, e_If, e_ifT, e_ifF, e_Tup, e_Lst, e_LstF, e_tup0, e_lst0, e_lstF0, e_eqI, e_neI, e_ltI, e_leI, e_gtI, e_geI, e_lenL, e_lenT, e_lenR, e_lenS, e_ixL, e_ixT, at0, at1, at2, at3, e_tupL, e_tupT, e_lstT, e_Own, e_ownK, e_Sub, e_For, e_Items, e_itL, e_itT, e_itR, e_Call, e_CallF, e_aNil, e_aVal, e_aVK, e_aVK2, step0, step1, step2, step3, out0, out1, out2, out3, outX1, outX2, outO1, outO2, outO3, e_onSh, e_onOw, decide_true, decide_false, Bool.not_true, Bool.not_false, List.cons_append, List.nil_append, List.getElem?_cons_zero, List.getElem?_cons_succ, List.set_cons_zero, List.set_cons_succ, Nat.reduceLT, Nat.reduceAdd, Nat.reduceSub, Option.map_some, finF, outsE, e_frz, d_rng7, e_forK, e_tnN, e_tnC, e_tnB, e_tnR, e_whT, e_whF, e_Raise, e_Par, e_parK, e_parK2, e_augK, e_Ch, e_chK1, e_chK2, e_chT, e_chF, e_Try, e_tryO, e_tru, e_While, e_abs, e_max2, e_min2, e_gSq2, e_tup1, e_lst1, e_tup2, e_lst2, e_tup3, e_lst3, e_tup4, e_lst4, e_tup5, e_lst5, e_tup6, e_lst6, e_tup7, e_lst7, e_tup8, e_lst8, e_RaF, e_raF1, e_raF2, e_TryA, e_tryAO, e_asgnK, e_frzX, e_bindX, e_Fld, e_SFld, e_Mk, e_mkK1, e_mkK2, e_mkK3, e_mkK4, e_mkO, e_mkX, e_Met, e_metK2, e_Enum, e_enumL, e_enumT, pairs2, pairs3, pairs4, e_lst13, e_lst14, e_lst15, e_lst16, e_lst9, e_lst10, e_lst11, e_lst12, e_tup9, e_tup10, e_tup11, e_tup12, e_ListF, e_listFT, e_listFL, e_GetK, e_getK, e_IfB, e_ifBT, e_ifBF, e_notB, e_isB, o_int, o_str, o_tup, o_lst, o_non, o_bl, n_int, n_str, n_tup, n_lst, n_non, n_bl, q1, e_aIo (m := m1), stepO1 (m := m1), e2, -e_eqI, -e_ixL]
    · rw [show (w == 1) = false from beq_false_of_ne h1] at q1
      have s4 : ∀ o o2 : Option DV, tS4 [some (.ow m1), o, o2, some (.sh (.int w)), none, none, none, none, none] = .ok .nx [some (.ow m1), o, o2, some (.sh (.int w)), none, none, none, none, none] := fun o o2 => by
        unfold tS4
        simp only [startE, List.map, List.length, List.replicate, e_Seq, e_Asg, e_Ret, e_RetF, e_Expr, e_exprK, e_op, e_op2, e_op1, e_un, e_is, e_B, e_bK, e_Cons, e_consK, e_consK2, e_Nil, e_var, e_C, e_bind, e_bindX, e_bindB, e_lookS, e_lookO, M.toD, e_of, e_asgK, e_gSet, e_stK, e_sqN, e_sqR, e_sqB, e_sqC, e_sNil, e_retK, e_retFK, e_add, e_vI, e_neg, e_fInt, e_fIntB, e_sIf, e_sifT, e_sifF, e_T, e_toB, e_Tru, e_truB, e_And, e_Or, e_andT, e_andF, e_orT, e_orF, e_Not, e_notK, e_AndV, e_OrV, e_andVT, e_andVF, e_orVT, e_orVF, e_NotV, e_notVK, e_If, e_ifT, e_ifF, e_Tup, e_Lst, e_LstF, e_tup0, e_lst0, e_lstF0, e_eqI, e_neI, e_ltI, e_leI, e_gtI, e_geI, e_lenL, e_lenT, e_lenR, e_lenS, e_ixL, e_ixT, at0, at1, at2, at3, e_tupL, e_tupT, e_lstT, e_Own, e_ownK, e_Sub, e_For, e_Items, e_itL, e_itT, e_itR, e_Call, e_CallF, e_aNil, e_aVal, e_aVK, e_aVK2, step0, step1, step2, step3, out0, out1, out2, out3, outX1, outX2, outO1, outO2, outO3, e_onSh, e_onOw, decide_true, decide_false, Bool.not_true, Bool.not_false, List.cons_append, List.nil_append, List.getElem?_cons_zero, List.getElem?_cons_succ, List.set_cons_zero, List.set_cons_succ, Nat.reduceLT, Nat.reduceAdd, Nat.reduceSub, Option.map_some, finF, outsE, e_frz, d_rng7, e_forK, e_tnN, e_tnC, e_tnB, e_tnR, e_whT, e_whF, e_Raise, e_Par, e_parK, e_parK2, e_augK, e_Ch, e_chK1, e_chK2, e_chT, e_chF, e_Try, e_tryO, e_tru, e_While, e_abs, e_max2, e_min2, e_gSq2, e_tup1, e_lst1, e_tup2, e_lst2, e_tup3, e_lst3, e_tup4, e_lst4, e_tup5, e_lst5, e_tup6, e_lst6, e_tup7, e_lst7, e_tup8, e_lst8, e_RaF, e_raF1, e_raF2, e_TryA, e_tryAO, e_asgnK, e_frzX, e_bindX, e_Fld, e_SFld, e_Mk, e_mkK1, e_mkK2, e_mkK3, e_mkK4, e_mkO, e_mkX, e_Met, e_metK2, e_Enum, e_enumL, e_enumT, pairs2, pairs3, pairs4, e_lst13, e_lst14, e_lst15, e_lst16, e_lst9, e_lst10, e_lst11, e_lst12, e_tup9, e_tup10, e_tup11, e_tup12, e_ListF, e_listFT, e_listFL, e_GetK, e_getK, e_IfB, e_ifBT, e_ifBF, e_notB, e_isB, o_int, o_str, o_tup, o_lst, o_non, o_bl, n_int, n_str, n_tup, n_lst, n_non, n_bl, q1, -e_eqI, -e_ixL]
      -- the head
      have hhead : ∃ (h : Str) (m2 : M), tS5 [some (.ow m1), some (.sh (.lst (SD SW))), some (.sh (.lst (SD HD))), some (.sh (.int w)), none, none, none, none, none]
          = .ok .nx [some (.ow m2), some (.sh (.lst (SD SW))), some (.sh (.lst (SD HD))), some (.sh (.int w)), some (.sh (.str h)), none, none, none, none] ∧ Good m2 ∧ PyData.strOk h = true := by
        by_cases h4 : w < 4
        · obtain ⟨r, m2, e2, g2, r0, r1⟩ := tk (n := 21) g1 (by decide)
          obtain ⟨h, hh, ok⟩ := at_strs (ws := HD ++ SW ++ HX) rfl r0 r1 all_ok
          rw [decide_eq_true h4] at q4
          have a1 : vAdd (.lst (SD HD)) (.lst (SD SW)) = some (.lst (SD HD ++ SD SW)) := e_addL _ _ (by rw [sizeLine_eq]; decide)
          have a2 : vAdd (.lst (SD HD ++ SD SW)) (.lst [.str "tomorrow", .str "", .str "i"]) = some (.lst (SD (HD ++ SW ++ HX))) := e_addL _ _ (by rw [sizeLine_eq]; decide)
          refine ⟨h, m2, ?_, g2, ok⟩
          unfold tS5
          generalize SD HD ++ SD SW = AB at *
          generalize SD (HD ++ SW ++ HX) = ABC at *
          generalize SD SW = A at *
          generalize SD HD = B at *
          simp only [startE, List.map, List.length, List.replicate, e_Seq, e_Asg, e_Ret, e_RetF, e_Expr, e_exprK, e_op, e_op2, e_op1, e_un, e_is, e_B, e_bK, e_Cons, e_consK, e_consK2, e_Nil, e_var, e_C, e_bind, e_bindX, e_bindB, e_lookS, e_lookO, M.toD, e_of, e_asgK, e_gSet, e_stK, e_sqN, e_sqR, e_sqB, e_sqC, e_sNil, e_retK, e_retFK, e_add, e_vI, e_neg, e_fInt, e_fIntB, e_sIf, e_sifT, e_sifF, e_T, e_toB, e_Tru, e_truB, e_And, e_Or, e_andT, e_andF, e_orT, e_orF, e_Not, e_notK, e_AndV, e_OrV, e_andVT, e_andVF, e_orVT, e_orVF, e_NotV, e_notVK, e_If, e_ifT, e_ifF, e_Tup, e_Lst, e_LstF, e_tup0, e_lst0, e_lstF0, e_eqI, e_neI, e_ltI, e_leI, e_gtI, e_geI, e_lenL, e_lenT, e_lenR, e_lenS, e_ixL, e_ixT, at0, at1, at2, at3, e_tupL, e_tupT, e_lstT, e_Own, e_ownK, e_Sub, e_For, e_Items, e_itL, e_itT, e_itR, e_Call, e_CallF, e_aNil, e_aVal, e_aVK, e_aVK2, step0, step1, step2, step3, out0, out1, out2, out3, outX1, outX2, outO1, outO2, outO3, e_onSh, e_onOw, decide_true, decide_false, Bool.not_true, Bool.not_false, List.cons_append, List.nil_append, List.getElem?_cons_zero, List.getElem?_cons_succ, List.set_cons_zero, List.set_cons_succ, Nat.reduceLT, Nat.reduceAdd, Nat.reduceSub, Option.map_some, finF, outsE, e_frz, d_rng7, e_forK, e_tnN, e_tnC, e_tnB, e_tnR, e_whT, e_whF, e_Raise, e_Par, e_parK, e_parK2, e_augK, e_Ch, e_chK1, e_chK2, e_chT, e_chF, e_Try, e_tryO, e_tru, e_While, e_abs, e_max2, e_min2, e_gSq2, e_tup1, e_lst1, e_tup2, e_lst2, e_tup3, e_lst3, e_tup4, e_lst4, e_tup5, e_lst5, e_tup6, e_lst6, e_tup7, e_lst7, e_tup8, e_lst8, e_RaF, e_raF1, e_raF2, e_TryA, e_tryAO, e_asgnK, e_frzX, e_bindX, e_Fld, e_SFld, e_Mk, e_mkK1, e_mkK2, e_mkK3, e_mkK4, e_mkO, e_mkX, e_Met, e_metK2, e_Enum, e_enumL, e_enumT, pairs2, pairs3, pairs4, e_lst13, e_lst14, e_lst15, e_lst16, e_lst9, e_lst10, e_lst11, e_lst12, e_tup9, e_tup10, e_tup11, e_tup12, e_ListF, e_listFT, e_listFL, e_GetK, e_getK, e_IfB, e_ifBT, e_ifBF, e_notB, e_isB, o_int, o_str, o_tup, o_lst, o_non, o_bl, n_int, n_str, n_tup, n_lst, n_non, n_bl, q4, a1, a2, e_aIo (m := m1), stepO2 (m := m1), e2, hh, -e_ltI, -e_ixL, -e_add]
        · obtain ⟨r, m2, e2, g2, r0, r1⟩ := tk (n := 9) g1 (by decide)
          obtain ⟨h, hh, ok⟩ := at_strs (ws := HD) rfl r0 r1 HD_ok
          rw [decide_eq_false h4] at q4
          refine ⟨h, m2, ?_, g2, ok⟩
          unfold tS5
          generalize SD SW = A at *
          generalize SD HD = B at *
          simp only [startE, List.map, List.length, List.replicate, e_Seq, e_Asg, e_Ret, e_RetF, e_Expr, e_exprK, e_op, e_op2, e_op1, e_un, e_is, e_B, e_bK, e_Cons, e_consK, e_consK2, e_Nil, e_var, e_C, e_bind, e_bindX, e_bindB, e_lookS, e_lookO, M.toD, e_of, e_asgK, e_gSet, e_stK, e_sqN, e_sqR, e_sqB, e_sqC, e_sNil, e_retK, e_retFK, e_add, e_vI, e_neg, e_fInt, e_fIntB, e_sIf, e_sifT, e_sifF, e_T, e_toB, e_Tru, e_truB, e_And, e_Or, e_andT, e_andF, e_orT, e_orF, e_Not, e_notK, e_AndV, e_OrV, e_andVT, e_andVF, e_orVT, e_orVF, e_NotV, e_notVK, e_If, e_ifT, e_ifF, e_Tup, e_Lst, e_LstF, e_tup0, e_lst0, e_lstF0, e_eqI, e_neI, e_ltI, e_leI, e_gtI, e_geI, e_lenL, e_lenT, e_lenR, e_lenS, e_ixL, e_ixT, at0, at1, at2, at3, e_tupL, e_tupT, e_lstT, e_Own, e_ownK, e_Sub, e_For, e_Items, e_itL, e_itT, e_itR, e_Call, e_CallF, e_aNil, e_aVal, e_aVK, e_aVK2, step0, step1, step2, step3, out0, out1, out2, out3, outX1, outX2, outO1, outO2, outO3, e_onSh, e_onOw, decide_true, decide_false, Bool.not_true, Bool.not_false, List.cons_append, List.nil_append, List.getElem?_cons_zero, List.getElem?_cons_succ, List.set_cons_zero, List.set_cons_succ, Nat.reduceLT, Nat.reduceAdd, Nat.reduceSub, Option.map_some, finF, outsE, e_frz, d_rng7, e_forK, e_tnN, e_tnC, e_tnB, e_tnR, e_whT, e_whF, e_Raise, e_Par, e_parK, e_parK2, e_augK, e_Ch, e_chK1, e_chK2, e_chT, e_chF, e_Try, e_tryO, e_tru, e_While, e_abs, e_max2, e_min2, e_gSq2, e_tup1, e_lst1, e_tup2, e_lst2, e_tup3, e_lst3, e_tup4, e_lst4, e_tup5, e_lst5, e_tup6, e_lst6, e_tup7, e_lst7, e_tup8, e_lst8, e_RaF, e_raF1, e_raF2, e_TryA, e_tryAO, e_asgnK, e_frzX, e_bindX, e_Fld, e_SFld, e_Mk, e_mkK1, e_mkK2, e_mkK3, e_mkK4, e_mkO, e_mkX, e_Met, e_metK2, e_Enum, e_enumL, e_enumT, pairs2, pairs3, pairs4, e_lst13, e_lst14, e_lst15, e_lst16, e_lst9, e_lst10, e_lst11, e_lst12, e_tup9, e_tup10, e_tup11, e_tup12, e_ListF, e_listFT, e_listFL, e_GetK, e_getK, e_IfB, e_ifBT, e_ifBF, e_notB, e_isB, o_int, o_str, o_tup, o_lst, o_non, o_bl, n_int, n_str, n_tup, n_lst, n_non, n_bl, q4, e_aIo (m := m1), stepO2 (m := m1), e2, hh, -e_ltI, -e_ixL]
      obtain ⟨h, m2, s5, g2, ok⟩ := hhead
      obtain ⟨x, m3, e3, g3, hx⟩ := dname_ok g2
      obtain ⟨r1, m4, e4, g4, a0, a1⟩ := tk (n := 15) g3 (by decide)
      obtain ⟨r2, m5, e5, g5, b0, b1⟩ := tk (n := 67) g4 (by decide)
      obtain ⟨r3, m6, e6, g6, c0, c1⟩ := tk40 g5
      obtain ⟨r4, m7, e7, g7, d0, d1⟩ := tk (n := 17) g6 (by decide)
      have hN : N40 = 10 ^ 40 := by decide
      generalize hA : D.lst (SD SW) = A at *
      generalize hB : D.lst (SD HD) = B at *
      have s6 : tS6 [some (.ow m2), some (.sh A), some (.sh B), some (.sh (.int w)), some (.sh (.str h)), none, none, none, none] = .ok .nx [some (.ow m3), some (.sh A), some (.sh B), some (.sh (.int w)), some (.sh (.str h)), some (.sh (.str x)), none, none, none] := by
        unfold tS6
        simp only [startE, List.map, List.length, List.replicate, e_Seq, e_Asg, e_Ret, e_RetF, e_Expr, e_exprK, e_op, e_op2, e_op1, e_un, e_is, e_B, e_bK, e_Cons, e_consK, e_consK2, e_Nil, e_var, e_C, e_bind, e_bindX, e_bindB, e_lookS, e_lookO, M.toD, e_of, e_asgK, e_gSet, e_stK, e_sqN, e_sqR, e_sqB, e_sqC, e_sNil, e_retK, e_retFK, e_add, e_vI, e_neg, e_fInt, e_fIntB, e_sIf, e_sifT, e_sifF, e_T, e_toB, e_Tru, e_truB, e_And, e_Or, e_andT, e_andF, e_orT, e_orF, e_Not, e_notK, e_AndV, e_OrV, e_andVT, e_andVF, e_orVT, e_orVF, e_NotV, e_notVK, e_If, e_ifT, e_ifF, e_Tup, e_Lst, e_LstF, e_tup0, e_lst0, e_lstF0, e_eqI, e_neI, e_ltI, e_leI, e_gtI, e_geI, e_lenL, e_lenT, e_lenR, e_lenS, e_ixL, e_ixT, at0, at1, at2, at3, e_tupL, e_tupT, e_lstT, e_Own, e_ownK, e_Sub, e_For, e_Items, e_itL, e_itT, e_itR, e_Call, e_CallF, e_aNil, e_aVal, e_aVK, e_aVK2, step0, step1, step2, step3, out0, out1, out2, out3, outX1, outX2, outO1, outO2, outO3, e_onSh, e_onOw, decide_true, decide_false, Bool.not_true, Bool.not_false, List.cons_append, List.nil_append, List.getElem?_cons_zero, List.getElem?_cons_succ, List.set_cons_zero, List.set_cons_succ, Nat.reduceLT, Nat.reduceAdd, Nat.reduceSub, Option.map_some, finF, outsE, e_frz, d_rng7, e_forK, e_tnN, e_tnC, e_tnB, e_tnR, e_whT, e_whF, e_Raise, e_Par, e_parK, e_parK2, e_augK, e_Ch, e_chK1, e_chK2, e_chT, e_chF, e_Try, e_tryO, e_tru, e_While, e_abs, e_max2, e_min2, e_gSq2, e_tup1, e_lst1, e_tup2, e_lst2, e_tup3, e_lst3, e_tup4, e_lst4, e_tup5, e_lst5, e_tup6, e_lst6, e_tup7, e_lst7, e_tup8, e_lst8, e_RaF, e_raF1, e_raF2, e_TryA, e_tryAO, e_asgnK, e_frzX, e_bindX, e_Fld, e_SFld, e_Mk, e_mkK1, e_mkK2, e_mkK3, e_mkK4, e_mkO, e_mkX, e_Met, e_metK2, e_Enum, e_enumL, e_enumT, pairs2, pairs3, pairs4, e_lst13, e_lst14, e_lst15, e_lst16, e_lst9, e_lst10, e_lst11, e_lst12, e_tup9, e_tup10, e_tup11, e_tup12, e_ListF, e_listFT, e_listFL, e_GetK, e_getK, e_IfB, e_ifBT, e_ifBF, e_notB, e_isB, o_int, o_str, o_tup, o_lst, o_non, o_bl, n_int, n_str, n_tup, n_lst, n_non, n_bl, e_aIo (m := m2), stepO1 (m := m2), e3]
      have s7 : tS7 [some (.ow m3), some (.sh A), some (.sh B), some (.sh (.int w)), some (.sh (.str h)), some (.sh (.str x)), none, none, none]
          = .ok .nx [some (.ow m6), some (.sh A), some (.sh B), some (.sh (.int w)), some (.sh (.str h)), some (.sh (.str x)), some (.sh (.lst [.int (r1 - 4), .int (r2 - 33), .int (r3 - N40)])), none, none] := by
        unfold tS7
        simp only [startE, List.map, List.length, List.replicate, e_Seq, e_Asg, e_Ret, e_RetF, e_Expr, e_exprK, e_op, e_op2, e_op1, e_un, e_is, e_B, e_bK, e_Cons, e_consK, e_consK2, e_Nil, e_var, e_C, e_bind, e_bindX, e_bindB, e_lookS, e_lookO, M.toD, e_of, e_asgK, e_gSet, e_stK, e_sqN, e_sqR, e_sqB, e_sqC, e_sNil, e_retK, e_retFK, e_add, e_vI, e_neg, e_fInt, e_fIntB, e_sIf, e_sifT, e_sifF, e_T, e_toB, e_Tru, e_truB, e_And, e_Or, e_andT, e_andF, e_orT, e_orF, e_Not, e_notK, e_AndV, e_OrV, e_andVT, e_andVF, e_orVT, e_orVF, e_NotV, e_notVK, e_If, e_ifT, e_ifF, e_Tup, e_Lst, e_LstF, e_tup0, e_lst0, e_lstF0, e_eqI, e_neI, e_ltI, e_leI, e_gtI, e_geI, e_lenL, e_lenT, e_lenR, e_lenS, e_ixL, e_ixT, at0, at1, at2, at3, e_tupL, e_tupT, e_lstT, e_Own, e_ownK, e_Sub, e_For, e_Items, e_itL, e_itT, e_itR, e_Call, e_CallF, e_aNil, e_aVal, e_aVK, e_aVK2, step0, step1, step2, step3, out0, out1, out2, out3, outX1, outX2, outO1, outO2, outO3, e_onSh, e_onOw, decide_true, decide_false, Bool.not_true, Bool.not_false, List.cons_append, List.nil_append, List.getElem?_cons_zero, List.getElem?_cons_succ, List.set_cons_zero, List.set_cons_succ, Nat.reduceLT, Nat.reduceAdd, Nat.reduceSub, Option.map_some, finF, outsE, e_frz, d_rng7, e_forK, e_tnN, e_tnC, e_tnB, e_tnR, e_whT, e_whF, e_Raise, e_Par, e_parK, e_parK2, e_augK, e_Ch, e_chK1, e_chK2, e_chT, e_chF, e_Try, e_tryO, e_tru, e_While, e_abs, e_max2, e_min2, e_gSq2, e_tup1, e_lst1, e_tup2, e_lst2, e_tup3, e_lst3, e_tup4, e_lst4, e_tup5, e_lst5, e_tup6, e_lst6, e_tup7, e_lst7, e_tup8, e_lst8, e_RaF, e_raF1, e_raF2, e_TryA, e_tryAO, e_asgnK, e_frzX, e_bindX, e_Fld, e_SFld, e_Mk, e_mkK1, e_mkK2, e_mkK3, e_mkK4, e_mkO, e_mkX, e_Met, e_metK2, e_Enum, e_enumL, e_enumT, pairs2, pairs3, pairs4, e_lst13, e_lst14, e_lst15, e_lst16, e_lst9, e_lst10, e_lst11, e_lst12, e_tup9, e_tup10, e_tup11, e_tup12, e_ListF, e_listFT, e_listFL, e_GetK, e_getK, e_IfB, e_ifBT, e_ifBF, e_notB, e_isB, o_int, o_str, o_tup, o_lst, o_non, o_bl, n_int, n_str, n_tup, n_lst, n_non, n_bl, pw40, mu40, e_aIo (m := m3), stepO2 (m := m3), e4, e_aIo (m := m4), stepO2 (m := m4), e5, e_aIo (m := m5), stepO2 (m := m5), e6]
      have s8 : ∀ o6 : Option DV, tS8 [some (.ow m6), some (.sh A), some (.sh B), some (.sh (.int w)), some (.sh (.str h)), some (.sh (.str x)), o6, none, none]
          = .ok .nx [some (.ow m6), some (.sh A), some (.sh B), some (.sh (.int w)), some (.sh (.str h)), some (.sh (.str x)), o6, some (.sh (.lst [.str x, .str x, .int 30, .int (-30), .int 31, .int 6, .bl true, .str (x ++ "a"), .non, .str (cutS x none (some (-1))), .str (("A" : Str) ++ cutS x (some 1) none), .lst [.int 1], .int 0, .str (x ++ " ")])), none] := by
        intro o6
        have h8 : x.length ≤ 8 := hx.hi
        have k1 := cat_ok (x := x) (y := "a") (by have : ("a" : Str).length = 1 := by decide +kernel
                                                  omega)
        have k2 := cat_ok (x := x) (y := " ") (by have : (" " : Str).length = 1 := by decide +kernel
                                                  omega)
        have k3 := cat_ok (x := "A") (y := cutS x (some 1) none) (by have := cut_len x (some 1) none
                                                                     have : ("A" : Str).length = 1 := by decide +kernel
                                                                     omega)
        have n30 : vNeg (.int 30) = some (.int (-30)) := rfl
        unfold tS8
        simp only [startE, List.map, List.length, List.replicate, e_Seq, e_Asg, e_Ret, e_RetF, e_Expr, e_exprK, e_op, e_op2, e_op1, e_un, e_is, e_B, e_bK, e_Cons, e_consK, e_consK2, e_Nil, e_var, e_C, e_bind, e_bindX, e_bindB, e_lookS, e_lookO, M.toD, e_of, e_asgK, e_gSet, e_stK, e_sqN, e_sqR, e_sqB, e_sqC, e_sNil, e_retK, e_retFK, e_add, e_vI, e_neg, e_fInt, e_fIntB, e_sIf, e_sifT, e_sifF, e_T, e_toB, e_Tru, e_truB, e_And, e_Or, e_andT, e_andF, e_orT, e_orF, e_Not, e_notK, e_AndV, e_OrV, e_andVT, e_andVF, e_orVT, e_orVF, e_NotV, e_notVK, e_If, e_ifT, e_ifF, e_Tup, e_Lst, e_LstF, e_tup0, e_lst0, e_lstF0, e_eqI, e_neI, e_ltI, e_leI, e_gtI, e_geI, e_lenL, e_lenT, e_lenR, e_lenS, e_ixL, e_ixT, at0, at1, at2, at3, e_tupL, e_tupT, e_lstT, e_Own, e_ownK, e_Sub, e_For, e_Items, e_itL, e_itT, e_itR, e_Call, e_CallF, e_aNil, e_aVal, e_aVK, e_aVK2, step0, step1, step2, step3, out0, out1, out2, out3, outX1, outX2, outO1, outO2, outO3, e_onSh, e_onOw, decide_true, decide_false, Bool.not_true, Bool.not_false, List.cons_append, List.nil_append, List.getElem?_cons_zero, List.getElem?_cons_succ, List.set_cons_zero, List.set_cons_succ, Nat.reduceLT, Nat.reduceAdd, Nat.reduceSub, Option.map_some, finF, outsE, e_frz, d_rng7, e_forK, e_tnN, e_tnC, e_tnB, e_tnR, e_whT, e_whF, e_Raise, e_Par, e_parK, e_parK2, e_augK, e_Ch, e_chK1, e_chK2, e_chT, e_chF, e_Try, e_tryO, e_tru, e_While, e_abs, e_max2, e_min2, e_gSq2, e_tup1, e_lst1, e_tup2, e_lst2, e_tup3, e_lst3, e_tup4, e_lst4, e_tup5, e_lst5, e_tup6, e_lst6, e_tup7, e_lst7, e_tup8, e_lst8, e_RaF, e_raF1, e_raF2, e_TryA, e_tryAO, e_asgnK, e_frzX, e_bindX, e_Fld, e_SFld, e_Mk, e_mkK1, e_mkK2, e_mkK3, e_mkK4, e_mkO, e_mkX, e_Met, e_metK2, e_Enum, e_enumL, e_enumT, pairs2, pairs3, pairs4, e_lst13, e_lst14, e_lst15, e_lst16, e_lst9, e_lst10, e_lst11, e_lst12, e_tup9, e_tup10, e_tup11, e_tup12, e_ListF, e_listFT, e_listFL, e_GetK, e_getK, e_IfB, e_ifBT, e_ifBF, e_notB, e_isB, o_int, o_str, o_tup, o_lst, o_non, o_bl, n_int, n_str, n_tup, n_lst, n_non, n_bl, k1, k2, k3, n30, sl_a (x := x), sl_b (x := x), -e_neg, -e_add]
      obtain ⟨z, hz, hmem⟩ := atL (xs := [D.int (r1 - 4), .int (r2 - 33), .int (r3 - N40)] ++ [D.str x, .str x, .int 30, .int (-30), .int 31, .int 6, .bl true, .str (x ++ "a"), .non, .str (cutS x none (some (-1))), .str (("A" : Str) ++ cutS x (some 1) none), .lst [.int 1], .int 0, .str (x ++ " ")]) (n := 17) rfl d0 d1
      have rz : Rs z := rest_rs hx (by omega) (by omega) (by rw [hN] at c1 ⊢; omega) z hmem
      have hadd := e_addL [D.int (r1 - 4), .int (r2 - 33), .int (r3 - N40)] [D.str x, .str x, .int 30, .int (-30), .int 31, .int 6, .bl true, .str (x ++ "a"), .non, .str (cutS x none (some (-1))), .str (("A" : Str) ++ cutS x (some 1) none), .lst [.int 1], .int 0, .str (x ++ " ")] (by rw [sizeLine_eq]; show 3 + 14 ≤ _; decide)
      generalize [D.int (r1 - 4), .int (r2 - 33), .int (r3 - N40)] ++ [D.str x, .str x, .int 30, .int (-30), .int 31, .int 6, .bl true, .str (x ++ "a"), .non, .str (cutS x none (some (-1))), .str (("A" : Str) ++ cutS x (some 1) none), .lst [.int 1], .int 0, .str (x ++ " ")] = all at *
      generalize hL1 : [D.int (r1 - 4), .int (r2 - 33), .int (r3 - N40)] = L1 at *
      generalize hL2 : [D.str x, .str x, .int 30, .int (-30), .int 31, .int 6, .bl true, .str (x ++ "a"), .non, .str (cutS x none (some (-1))), .str (("A" : Str) ++ cutS x (some 1) none), .lst [.int 1], .int 0, .str (x ++ " ")] = L2 at *
      have s9 : tS9 [some (.ow m6), some (.sh A), some (.sh B), some (.sh (.int w)), some (.sh (.str h)), some (.sh (.str x)), some (.sh (.lst L1)), some (.sh (.lst L2)), none]
          = .ok .nx [some (.ow m7), some (.sh A), some (.sh B), some (.sh (.int w)), some (.sh (.str h)), some (.sh (.str x)), some (.sh (.lst L1)), some (.sh (.lst L2)), some (.sh z)] := by
        unfold tS9
        simp only [startE, List.map, List.length, List.replicate, e_Seq, e_Asg, e_Ret, e_RetF, e_Expr, e_exprK, e_op, e_op2, e_op1, e_un, e_is, e_B, e_bK, e_Cons, e_consK, e_consK2, e_Nil, e_var, e_C, e_bind, e_bindX, e_bindB, e_lookS, e_lookO, M.toD, e_of, e_asgK, e_gSet, e_stK, e_sqN, e_sqR, e_sqB, e_sqC, e_sNil, e_retK, e_retFK, e_add, e_vI, e_neg, e_fInt, e_fIntB, e_sIf, e_sifT, e_sifF, e_T, e_toB, e_Tru, e_truB, e_And, e_Or, e_andT, e_andF, e_orT, e_orF, e_Not, e_notK, e_AndV, e_OrV, e_andVT, e_andVF, e_orVT, e_orVF, e_NotV, e_notVK, e_If, e_ifT, e_ifF, e_Tup, e_Lst, e_LstF, e_tup0, e_lst0, e_lstF0, e_eqI, e_neI, e_ltI, e_leI, e_gtI, e_geI, e_lenL, e_lenT, e_lenR, e_lenS, e_ixL, e_ixT, at0, at1, at2, at3, e_tupL, e_tupT, e_lstT, e_Own, e_ownK, e_Sub, e_For, e_Items, e_itL, e_itT, e_itR, e_Call, e_CallF, e_aNil, e_aVal, e_aVK, e_aVK2, step0, step1, step2, step3, out0, out1, out2, out3, outX1, outX2, outO1, outO2, outO3, e_onSh, e_onOw, decide_true, decide_false, Bool.not_true, Bool.not_false, List.cons_append, List.nil_append, List.getElem?_cons_zero, List.getElem?_cons_succ, List.set_cons_zero, List.set_cons_succ, Nat.reduceLT, Nat.reduceAdd, Nat.reduceSub, Option.map_some, finF, outsE, e_frz, d_rng7, e_forK, e_tnN, e_tnC, e_tnB, e_tnR, e_whT, e_whF, e_Raise, e_Par, e_parK, e_parK2, e_augK, e_Ch, e_chK1, e_chK2, e_chT, e_chF, e_Try, e_tryO, e_tru, e_While, e_abs, e_max2, e_min2, e_gSq2, e_tup1, e_lst1, e_tup2, e_lst2, e_tup3, e_lst3, e_tup4, e_lst4, e_tup5, e_lst5, e_tup6, e_lst6, e_tup7, e_lst7, e_tup8, e_lst8, e_RaF, e_raF1, e_raF2, e_TryA, e_tryAO, e_asgnK, e_frzX, e_bindX, e_Fld, e_SFld, e_Mk, e_mkK1, e_mkK2, e_mkK3, e_mkK4, e_mkO, e_mkX, e_Met, e_metK2, e_Enum, e_enumL, e_enumT, pairs2, pairs3, pairs4, e_lst13, e_lst14, e_lst15, e_lst16, e_lst9, e_lst10, e_lst11, e_lst12, e_tup9, e_tup10, e_tup11, e_tup12, e_ListF, e_listFT, e_listFL, e_GetK, e_getK, e_IfB, e_ifBT, e_ifBF, e_notB, e_isB, o_int, o_str, o_tup, o_lst, o_non, o_bl, n_int, n_str, n_tup, n_lst, n_non, n_bl, hadd, e_aIo (m := m6), stepO2 (m := m6), e7, hz, -e_ixL, -e_add]
      have pre : b__law_thing [some (.ow m), none, none, none, none, none, none, none, none] = (sSeq tS10 tS11) [some (.ow m7), some (.sh A), some (.sh B), some (.sh (.int w)), some (.sh (.str h)), some (.sh (.str x)), some (.sh (.lst L1)), some (.sh (.lst L2)), some (.sh z)] := by
        subst hA hB
        rw [thing_cut, seq_ok (s0_ok m), seq_ok (s1_ok m _), seq_ok (s2_ok _ _ e1), seq_ok (s3 _ _), seq_ok (s4 _ _), seq_ok s5, seq_ok s6, seq_ok s7, seq_ok (s8 _), seq_ok s9]
      by_cases h2 : w = 2
      · rw [show (w == 2) = true by rw [h2]; rfl] at q2
        refine ⟨.lst [.str h, z], m7, run_eq m7 _ [some (.sh A), some (.sh B), some (.sh (.int w)), some (.sh (.str h)), some (.sh (.str x)), some (.sh (.lst L1)), some (.sh (.lst L2)), some (.sh z)] ?_ (by decide), g7, .lst _⟩
        refine pre.trans (seq_ret ?_)
        unfold tS10
        simp only [startE, List.map, List.length, List.replicate, e_Seq, e_Asg, e_Ret, e_RetF, e_Expr, e_exprK, e_op, e_op2, e_op1, e_un, e_is, e_B, e_bK, e_Cons, e_consK, e_consK2, e_Nil, e_var, e_C, e_bind, e_bindX, e_bindB, e_lookS, e_lookO, M.toD, e_of, e_asgK, e_gSet, e_stK, e_sqN, e_sqR, e_sqB, e_sqC, e_sNil, e_retK, e_retFK, e_add, e_vI, e_neg, e_fInt, e_fIntB, e_sIf, e_sifT, e_sifF, e_T, e_toB, e_Tru, e_truB, e_And, e_Or, e_andT, e_andF, e_orT, e_orF, e_Not, e_notK, e_AndV, e_OrV, e_andVT, e_andVF, e_orVT, e_orVF, e_NotV, e_notVK, e_If, e_ifT, e_ifF, e_Tup, e_Lst, e_LstF, e_tup0, e_lst0, e_lstF0, e_eqI, e_neI, e_ltI, e_leI, e_gtI, e_geI, e_lenL, e_lenT, e_lenR, e_lenS, e_ixL, e_ixT, at0, at1, at2, at3, e_tupL, e_tupT, e_lstT, e_Own, e_ownK, e_Sub, e_For, e_Items, e_itL, e_itT, e_itR, e_Call, e_CallF, e_aNil, e_aVal, e_aVK, e_aVK2, step0, step1, step2, step3, out0, out1, out2, out3, outX1, outX2, outO1, outO2, outO3, e_onSh, e_onOw, decide_true, decide_false, Bool.not_true, Bool.not_false, List.cons_append, List.nil_append, List.getElem?_cons_zero, List.getElem?_cons_succ, List.set_cons_zero, List.set_cons_succ, Nat.reduceLT, Nat.reduceAdd, Nat.reduceSub, Option.map_some, finF, outsE, e_frz, d_rng7, e_forK, e_tnN, e_tnC, e_tnB, e_tnR, e_whT, e_whF, e_Raise, e_Par, e_parK, e_parK2, e_augK, e_Ch, e_chK1, e_chK2, e_chT, e_chF, e_Try, e_tryO, e_tru, e_While, e_abs, e_max2, e_min2, e_gSq2, e_tup1, e_lst1, e_tup2, e_lst2, e_tup3, e_lst3, e_tup4, e_lst4, e_tup5, e_lst5, e_tup6, e_lst6, e_tup7, e_lst7, e_tup8, e_lst8, e_RaF, e_raF1, e_raF2, e_TryA, e_tryAO, e_asgnK, e_frzX, e_bindX, e_Fld, e_SFld, e_Mk, e_mkK1, e_mkK2, e_mkK3, e_mkK4, e_mkO, e_mkX, e_Met, e_metK2, e_Enum, e_enumL, e_enumT, pairs2, pairs3, pairs4, e_lst13, e_lst14, e_lst15, e_lst16, e_lst9, e_lst10, e_lst11, e_lst12, e_tup9, e_tup10, e_tup11, e_tup12, e_ListF, e_listFT, e_listFL, e_GetK, e_getK, e_IfB, e_ifBT, e_ifBF, e_notB, e_isB, o_int, o_str, o_tup, o_lst, o_non, o_bl, n_int, n_str, n_tup, n_lst, n_non, n_bl, q2, -e_eqI]
      · rw [show (w == 2) = false from beq_false_of_ne h2] at q2
        have s10 : tS10 [some (.ow m7), some (.sh A), some (.sh B), some (.sh (.int w)), some (.sh (.str h)), some (.sh (.str x)), some (.sh (.lst L1)), some (.sh (.lst L2)), some (.sh z)] = .ok .nx [some (.ow m7), some (.sh A), some (.sh B), some (.sh (.int w)), some (.sh (.str h)), some (.sh (.str x)), some (.sh (.lst L1)), some (.sh (.lst L2)), some (.sh z)] := by
          unfold tS10
          simp only [startE, List.map, List.length, List.replicate, e_Seq, e_Asg, e_Ret, e_RetF, e_Expr, e_exprK, e_op, e_op2, e_op1, e_un, e_is, e_B, e_bK, e_Cons, e_consK, e_consK2, e_Nil, e_var, e_C, e_bind, e_bindX, e_bindB, e_lookS, e_lookO, M.toD, e_of, e_asgK, e_gSet, e_stK, e_sqN, e_sqR, e_sqB, e_sqC, e_sNil, e_retK, e_retFK, e_add, e_vI, e_neg, e_fInt, e_fIntB, e_sIf, e_sifT, e_sifF, e_T, e_toB, e_Tru, e_truB, e_And, e_Or, e_andT, e_andF, e_orT, e_orF, e_Not, e_notK, e_AndV, e_OrV, e_andVT, e_andVF, e_orVT, e_orVF, e_NotV, e_notVK, e_If, e_ifT, e_ifF, e_Tup, e_Lst, e_LstF, e_tup0, e_lst0, e_lstF0, e_eqI, e_neI, e_ltI, e_leI, e_gtI, e_geI, e_lenL, e_lenT, e_lenR, e_lenS, e_ixL, e_ixT, at0, at1, at2, at3, e_tupL, e_tupT, e_lstT, e_Own, e_ownK, e_Sub, e_For, e_Items, e_itL, e_itT, e_itR, e_Call, e_CallF, e_aNil, e_aVal, e_aVK, e_aVK2, step0, step1, step2, step3, out0, out1, out2, out3, outX1, outX2, outO1, outO2, outO3, e_onSh, e_onOw, decide_true, decide_false, Bool.not_true, Bool.not_false, List.cons_append, List.nil_append, List.getElem?_cons_zero, List.getElem?_cons_succ, List.set_cons_zero, List.set_cons_succ, Nat.reduceLT, Nat.reduceAdd, Nat.reduceSub, Option.map_some, finF, outsE, e_frz, d_rng7, e_forK, e_tnN, e_tnC, e_tnB, e_tnR, e_whT, e_whF, e_Raise, e_Par, e_parK, e_parK2, e_augK, e_Ch, e_chK1, e_chK2, e_chT, e_chF, e_Try, e_tryO, e_tru, e_While, e_abs, e_max2, e_min2, e_gSq2, e_tup1, e_lst1, e_tup2, e_lst2, e_tup3, e_lst3, e_tup4, e_lst4, e_tup5, e_lst5, e_tup6, e_lst6, e_tup7, e_lst7, e_tup8, e_lst8, e_RaF, e_raF1, e_raF2, e_TryA, e_tryAO, e_asgnK, e_frzX, e_bindX, e_Fld, e_SFld, e_Mk, e_mkK1, e_mkK2, e_mkK3, e_mkK4, e_mkO, e_mkX, e_Met, e_metK2, e_Enum, e_enumL, e_enumT, pairs2, pairs3, pairs4, e_lst13, e_lst14, e_lst15, e_lst16, e_lst9, e_lst10, e_lst11, e_lst12, e_tup9, e_tup10, e_tup11, e_tup12, e_ListF, e_listFT, e_listFL, e_GetK, e_getK, e_IfB, e_ifBT, e_ifBF, e_notB, e_isB, o_int, o_str, o_tup, o_lst, o_non, o_bl, n_int, n_str, n_tup, n_lst, n_non, n_bl, q2, -e_eqI]
        by_cases h3 : w = 3
        · rw [show (w == 3) = true by rw [h3]; rfl] at q3
          refine ⟨.tup [.str h, z, z], m7, run_eq m7 _ [some (.sh A), some (.sh B), some (.sh (.int w)), some (.sh (.str h)), some (.sh (.str x)), some (.sh (.lst L1)), some (.sh (.lst L2)), some (.sh z)] ?_ (by decide), g7, .three _ _ _⟩
          refine pre.trans ?_
          rw [seq_ok s10]
          unfold tS11
          simp only [startE, List.map, List.length, List.replicate, e_Seq, e_Asg, e_Ret, e_RetF, e_Expr, e_exprK, e_op, e_op2, e_op1, e_un, e_is, e_B, e_bK, e_Cons, e_consK, e_consK2, e_Nil, e_var, e_C, e_bind, e_bindX, e_bindB, e_lookS, e_lookO, M.toD, e_of, e_asgK, e_gSet, e_stK, e_sqN, e_sqR, e_sqB, e_sqC, e_sNil, e_retK, e_retFK, e_add, e_vI, e_neg, e_fInt, e_fIntB, e_sIf, e_sifT, e_sifF, e_T, e_toB, e_Tru, e_truB, e_And, e_Or, e_andT, e_andF, e_orT, e_orF, e_Not, e_notK, e_AndV, e_OrV, e_andVT, e_andVF, e_orVT, e_orVF, e_NotV, e_notVK, e_If, e_ifT, e_ifF, e_Tup, e_Lst, e_LstF, e_tup0, e_lst0, e_lstF0, e_eqI, e_neI, e_ltI, e_leI, e_gtI, e_geI, e_lenL, e_lenT, e_lenR, e_lenS, e_ixL, e_ixT, at0, at1, at2, at3, e_tupL, e_tupT, e_lstT, e_Own, e_ownK, e_Sub, e_For, e_Items, e_itL, e_itT, e_itR, e_Call, e_CallF, e_aNil, e_aVal, e_aVK, e_aVK2, step0, step1, step2, step3, out0, out1, out2, out3, outX1, outX2, outO1, outO2, outO3, e_onSh, e_onOw, decide_true, decide_false, Bool.not_true, Bool.not_false, List.cons_append, List.nil_append, List.getElem?_cons_zero, List.getElem?_cons_succ, List.set_cons_zero, List.set_cons_succ, Nat.reduceLT, Nat.reduceAdd, Nat.reduceSub, Option.map_some, finF, outsE, e_frz, d_rng7, e_forK, e_tnN, e_tnC, e_tnB, e_tnR, e_whT, e_whF, e_Raise, e_Par, e_parK, e_parK2, e_augK, e_Ch, e_chK1, e_chK2, e_chT, e_chF, e_Try, e_tryO, e_tru, e_While, e_abs, e_max2, e_min2, e_gSq2, e_tup1, e_lst1, e_tup2, e_lst2, e_tup3, e_lst3, e_tup4, e_lst4, e_tup5, e_lst5, e_tup6, e_lst6, e_tup7, e_lst7, e_tup8, e_lst8, e_RaF, e_raF1, e_raF2, e_TryA, e_tryAO, e_asgnK, e_frzX, e_bindX, e_Fld, e_SFld, e_Mk, e_mkK1, e_mkK2, e_mkK3, e_mkK4, e_mkO, e_mkX, e_Met, e_metK2, e_Enum, e_enumL, e_enumT, pairs2, pairs3, pairs4, e_lst13, e_lst14, e_lst15, e_lst16, e_lst9, e_lst10, e_lst11, e_lst12, e_tup9, e_tup10, e_tup11, e_tup12, e_ListF, e_listFT, e_listFL, e_GetK, e_getK, e_IfB, e_ifBT, e_ifBF, e_notB, e_isB, o_int, o_str, o_tup, o_lst, o_non, o_bl, n_int, n_str, n_tup, n_lst, n_non, n_bl, q3, -e_eqI]
        · rw [show (w == 3) = false from beq_false_of_ne h3] at q3
          refine ⟨.tup [.str h, z], m7, run_eq m7 _ [some (.sh A), some (.sh B), some (.sh (.int w)), some (.sh (.str h)), some (.sh (.str x)), some (.sh (.lst L1)), some (.sh (.lst L2)), some (.sh z)] ?_ (by decide), g7, .two ok rz⟩
          refine pre.trans ?_
          rw [seq_ok s10]
          unfold tS11
          simp only [startE, List.map, List.length, List.replicate, e_Seq, e_Asg, e_Ret, e_RetF, e_Expr, e_exprK, e_op, e_op2, e_op1, e_un, e_is, e_B, e_bK, e_Cons, e_consK, e_consK2, e_Nil, e_var, e_C, e_bind, e_bindX, e_bindB, e_lookS, e_lookO, M.toD, e_of, e_asgK, e_gSet, e_stK, e_sqN, e_sqR, e_sqB, e_sqC, e_sNil, e_retK, e_retFK, e_add, e_vI, e_neg, e_fInt, e_fIntB, e_sIf, e_sifT, e_sifF, e_T, e_toB, e_Tru, e_truB, e_And, e_Or, e_andT, e_andF, e_orT, e_orF, e_Not, e_notK, e_AndV, e_OrV, e_andVT, e_andVF, e_orVT, e_orVF, e_NotV, e_notVK, e_If, e_ifT, e_ifF, e_Tup, e_Lst, e_LstF, e_tup0, e_lst0, e_lstF0, e_eqI, e_neI, e_ltI, e_leI, e_gtI, e_geI, e_lenL, e_lenT, e_lenR, e_lenS, e_ixL, e_ixT, at0, at1, at2, at3, e_tupL, e_tupT, e_lstT, e_Own, e_ownK, e_Sub, e_For, e_Items, e_itL, e_itT, e_itR, e_Call, e_CallF, e_aNil, e_aVal, e_aVK, e_aVK2, step0, step1, step2, step3, out0, out1, out2, out3, outX1, outX2, outO1, outO2, outO3, e_onSh, e_onOw, decide_true, decide_false, Bool.not_true, Bool.not_false, List.cons_append, List.nil_append, List.getElem?_cons_zero, List.getElem?_cons_succ, List.set_cons_zero, List.set_cons_succ, Nat.reduceLT, Nat.reduceAdd, Nat.reduceSub, Option.map_some, finF, outsE, e_frz, d_rng7, e_forK, e_tnN, e_tnC, e_tnB, e_tnR, e_whT, e_whF, e_Raise, e_Par, e_parK, e_parK2, e_augK, e_Ch, e_chK1, e_chK2, e_chT, e_chF, e_Try, e_tryO, e_tru, e_While, e_abs, e_max2, e_min2, e_gSq2, e_tup1, e_lst1, e_tup2, e_lst2, e_tup3, e_lst3, e_tup4, e_lst4, e_tup5, e_lst5, e_tup6, e_lst6, e_tup7, e_lst7, e_tup8, e_lst8, e_RaF, e_raF1, e_raF2, e_TryA, e_tryAO, e_asgnK, e_frzX, e_bindX, e_Fld, e_SFld, e_Mk, e_mkK1, e_mkK2, e_mkK3, e_mkK4, e_mkO, e_mkX, e_Met, e_metK2, e_Enum, e_enumL, e_enumT, pairs2, pairs3, pairs4, e_lst13, e_lst14, e_lst15, e_lst16, e_lst9, e_lst10, e_lst11, e_lst12, e_tup9, e_tup10, e_tup11, e_tup12, e_ListF, e_listFT, e_listFL, e_GetK, e_getK, e_IfB, e_ifBT, e_ifBF, e_notB, e_isB, o_int, o_str, o_tup, o_lst, o_non, o_bl, n_int, n_str, n_tup, n_lst, n_non, n_bl, q3, -e_eqI]
end L01
set_option Elab.async false
set_option linter.all false
set_option maxRecDepth 100000
set_option maxHeartbeats 4000000
namespace L01
open PySem L2 Rf
variable {m : M} {S o2 o3 o4 o5 o6 o7 o8 o9 : Option DV}
theorem lB1_ok (hm : Good m) : ∃ m', lB1 [S, some (.ow m), o2, none, none, none, none, none, none, none] = .ok .nx [S, some (.ow m'), o2, none, none, none, none, none, none, none] ∧ Good m' := by
  obtain ⟨x, m1, e1, g1, hx⟩ := thing_ok hm
  have e2 := right_ok hx
  refine ⟨m1, ?_, g1⟩
  unfold lB1
  simp only [startE, List.map, List.length, List.replicate, e_Seq, e_Asg, e_Ret, e_RetF, e_Expr, e_exprK, e_op, e_op2, e_op1, e_un, e_is, e_B, e_bK, e_Cons, e_consK, e_consK2, e_Nil, e_var, e_C, e_bind, e_bindX, e_bindB, e_lookS, e_lookO, M.toD, e_of, e_asgK, e_gSet, e_stK, e_sqN, e_sqR, e_sqB, e_sqC, e_sNil, e_retK, e_retFK, e_add, e_vI, e_neg, e_fInt, e_fIntB, e_sIf, e_sifT, e_sifF, e_T, e_toB, e_Tru, e_truB, e_And, e_Or, e_andT, e_andF, e_orT, e_orF, e_Not, e_notK, e_AndV, e_OrV, e_andVT, e_andVF, e_orVT, e_orVF, e_NotV, e_notVK, e_If, e_ifT, e_ifF, e_Tup, e_Lst, e_LstF, e_tup0, e_lst0, e_lstF0, e_eqI, e_neI, e_ltI, e_leI, e_gtI, e_geI, e_lenL, e_lenT, e_lenR, e_lenS, e_ixL, e_ixT, at0, at1, at2, at3, e_tupL, e_tupT, e_lstT, e_Own, e_ownK, e_Sub, e_For, e_Items, e_itL, e_itT, e_itR, e_Call, e_CallF, e_aNil, e_aVal, e_aVK, e_aVK2, step0, step1, step2, step3, out0, out1, out2, out3, outX1, outX2, outO1, outO2, outO3, e_onSh, e_onOw, decide_true, decide_false, Bool.not_true, Bool.not_false, List.cons_append, List.nil_append, List.getElem?_cons_zero, List.getElem?_cons_succ, List.set_cons_zero, List.set_cons_succ, Nat.reduceLT, Nat.reduceAdd, Nat.reduceSub, Option.map_some, finF, outsE, e_frz, d_rng7, e_forK, e_tnN, e_tnC, e_tnB, e_tnR, e_whT, e_whF, e_Raise, e_Par, e_parK, e_parK2, e_augK, e_Ch, e_chK1, e_chK2, e_chT, e_chF, e_Try, e_tryO, e_tru, e_While, e_abs, e_max2, e_min2, e_gSq2, e_tup1, e_lst1, e_tup2, e_lst2, e_tup3, e_lst3, e_tup4, e_lst4, e_tup5, e_lst5, e_tup6, e_lst6, e_tup7, e_lst7, e_tup8, e_lst8, e_RaF, e_raF1, e_raF2, e_TryA, e_tryAO, e_asgnK, e_frzX, e_bindX, e_Fld, e_SFld, e_Mk, e_mkK1, e_mkK2, e_mkK3, e_mkK4, e_mkO, e_mkX, e_Met, e_metK2, e_Enum, e_enumL, e_enumT, pairs2, pairs3, pairs4, e_lst13, e_lst14, e_lst15, e_lst16, e_lst9, e_lst10, e_lst11, e_lst12, e_tup9, e_tup10, e_tup11, e_tup12, e_ListF, e_listFT, e_listFL, e_GetK, e_getK, e_IfB, e_ifBT, e_ifBF, e_notB, e_isB, o_int, o_str, o_tup, o_lst, o_non, o_bl, n_int, n_str, n_tup, n_lst, n_non, n_bl, e_aIo (m := m), stepO1 (m := m), e1, e2]
theorem lS1_ok (hm : Good m) : ∃ m' o, lS1 [S, some (.ow m), none, none, none, none, none, none, none, none] = .ok .nx [S, some (.ow m'), o, none, none, none, none, none, none, none] ∧ Good m' := by
  have k := fun ρ => e_rng1K 24 ρ (by decide)
  obtain ⟨ρ', e, m', o, g, hρ⟩ := for_inv (g := gSet 2) (body := lB1) (fun ρ => ∃ m o, Good m ∧ ρ = [S, some (.ow m), o, none, none, none, none, none, none, none]) (rng 0 24) [S, some (.ow m), none, none, none, none, none, none, none, none] (fun d _ ρ hp => by
    obtain ⟨m, o, g, rfl⟩ := hp
    obtain ⟨m', e, g'⟩ := lB1_ok (S := S) (o2 := some (.sh d)) g
    exact ⟨_, _, rfl, .inl e, m', _, g', rfl⟩) ⟨m, _, hm, rfl⟩
  subst hρ
  refine ⟨m', o, ?_, g⟩
  unfold lS1
  generalize rng 0 24 = ds at *
  rw [e_For, e_Rng1, e_C, e_bind, k, e_bind, e_forK]
  exact e
theorem lC2_ok {h : Str} {i : Int} (ok : PyData.strOk h = true) (h1 : -(10 ^ 42) ≤ i) (h2 : i ≤ 10 ^ 42) : lC2 [S, o2, o3, some (.sh (.int i)), some (.sh (.str h)), o5, o6, o7, o8, o9] = .ok .nx [S, o2, o3, some (.sh (.int i)), some (.sh (.str h)), o5, o6, o7, o8, o9] := by
  have e := right_ok (th2i ok h1 h2)
  unfold lC2
  simp only [startE, List.map, List.length, List.replicate, e_Seq, e_Asg, e_Ret, e_RetF, e_Expr, e_exprK, e_op, e_op2, e_op1, e_un, e_is, e_B, e_bK, e_Cons, e_consK, e_consK2, e_Nil, e_var, e_C, e_bind, e_bindX, e_bindB, e_lookS, e_lookO, M.toD, e_of, e_asgK, e_gSet, e_stK, e_sqN, e_sqR, e_sqB, e_sqC, e_sNil, e_retK, e_retFK, e_add, e_vI, e_neg, e_fInt, e_fIntB, e_sIf, e_sifT, e_sifF, e_T, e_toB, e_Tru, e_truB, e_And, e_Or, e_andT, e_andF, e_orT, e_orF, e_Not, e_notK, e_AndV, e_OrV, e_andVT, e_andVF, e_orVT, e_orVF, e_NotV, e_notVK, e_If, e_ifT, e_ifF, e_Tup, e_Lst, e_LstF, e_tup0, e_lst0, e_lstF0, e_eqI, e_neI, e_ltI, e_leI, e_gtI, e_geI, e_lenL, e_lenT, e_lenR, e_lenS, e_ixL, e_ixT, at0, at1, at2, at3, e_tupL, e_tupT, e_lstT, e_Own, e_ownK, e_Sub, e_For, e_Items, e_itL, e_itT, e_itR, e_Call, e_CallF, e_aNil, e_aVal, e_aVK, e_aVK2, step0, step1, step2, step3, out0, out1, out2, out3, outX1, outX2, outO1, outO2, outO3, e_onSh, e_onOw, decide_true, decide_false, Bool.not_true, Bool.not_false, List.cons_append, List.nil_append, List.getElem?_cons_zero, List.getElem?_cons_succ, List.set_cons_zero, List.set_cons_succ, Nat.reduceLT, Nat.reduceAdd, Nat.reduceSub, Option.map_some, finF, outsE, e_frz, d_rng7, e_forK, e_tnN, e_tnC, e_tnB, e_tnR, e_whT, e_whF, e_Raise, e_Par, e_parK, e_parK2, e_augK, e_Ch, e_chK1, e_chK2, e_chT, e_chF, e_Try, e_tryO, e_tru, e_While, e_abs, e_max2, e_min2, e_gSq2, e_tup1, e_lst1, e_tup2, e_lst2, e_tup3, e_lst3, e_tup4, e_lst4, e_tup5, e_lst5, e_tup6, e_lst6, e_tup7, e_lst7, e_tup8, e_lst8, e_RaF, e_raF1, e_raF2, e_TryA, e_tryAO, e_asgnK, e_frzX, e_bindX, e_Fld, e_SFld, e_Mk, e_mkK1, e_mkK2, e_mkK3, e_mkK4, e_mkO, e_mkX, e_Met, e_metK2, e_Enum, e_enumL, e_enumT, pairs2, pairs3, pairs4, e_lst13, e_lst14, e_lst15, e_lst16, e_lst9, e_lst10, e_lst11, e_lst12, e_tup9, e_tup10, e_tup11, e_tup12, e_ListF, e_listFT, e_listFL, e_GetK, e_getK, e_IfB, e_ifBT, e_ifBF, e_notB, e_isB, o_int, o_str, o_tup, o_lst, o_non, o_bl, n_int, n_str, n_tup, n_lst, n_non, n_bl, e]
theorem lB2_ok {i : Int} (h1 : -(10 ^ 42) ≤ i) (h2 : i ≤ 10 ^ 42) : ∃ o, lB2 [S, o2, o3, some (.sh (.int i)), o4, o5, o6, o7, o8, o9] = .ok .nx [S, o2, o3, some (.sh (.int i)), o, o5, o6, o7, o8, o9] := by
  have c := fun h ok => lC2_ok (S := S) (o2 := o2) (o3 := o3) (o5 := o5) (o6 := o6) (o7 := o7) (o8 := o8) (o9 := o9) (h := h) (i := i) ok h1 h2
  have c1 := c "coming" (by decide +kernel)
  have c2 := c "last" (by decide +kernel)
  have c3 := c "then coming" (by decide +kernel)
  have c4 := c "then last" (by decide +kernel)
  refine ⟨some (.sh (.str "then last")), ?_⟩
  unfold lB2
  generalize lC2 = B at *
  simp only [startE, List.map, List.length, List.replicate, e_Seq, e_Asg, e_Ret, e_RetF, e_Expr, e_exprK, e_op, e_op2, e_op1, e_un, e_is, e_B, e_bK, e_Cons, e_consK, e_consK2, e_Nil, e_var, e_C, e_bind, e_bindX, e_bindB, e_lookS, e_lookO, M.toD, e_of, e_asgK, e_gSet, e_stK, e_sqN, e_sqR, e_sqB, e_sqC, e_sNil, e_retK, e_retFK, e_add, e_vI, e_neg, e_fInt, e_fIntB, e_sIf, e_sifT, e_sifF, e_T, e_toB, e_Tru, e_truB, e_And, e_Or, e_andT, e_andF, e_orT, e_orF, e_Not, e_notK, e_AndV, e_OrV, e_andVT, e_andVF, e_orVT, e_orVF, e_NotV, e_notVK, e_If, e_ifT, e_ifF, e_Tup, e_Lst, e_LstF, e_tup0, e_lst0, e_lstF0, e_eqI, e_neI, e_ltI, e_leI, e_gtI, e_geI, e_lenL, e_lenT, e_lenR, e_lenS, e_ixL, e_ixT, at0, at1, at2, at3, e_tupL, e_tupT, e_lstT, e_Own, e_ownK, e_Sub, e_For, e_Items, e_itL, e_itT, e_itR, e_Call, e_CallF, e_aNil, e_aVal, e_aVK, e_aVK2, step0, step1, step2, step3, out0, out1, out2, out3, outX1, outX2, outO1, outO2, outO3, e_onSh, e_onOw, decide_true, decide_false, Bool.not_true, Bool.not_false, List.cons_append, List.nil_append, List.getElem?_cons_zero, List.getElem?_cons_succ, List.set_cons_zero, List.set_cons_succ, Nat.reduceLT, Nat.reduceAdd, Nat.reduceSub, Option.map_some, finF, outsE, e_frz, d_rng7, e_forK, e_tnN, e_tnC, e_tnB, e_tnR, e_whT, e_whF, e_Raise, e_Par, e_parK, e_parK2, e_augK, e_Ch, e_chK1, e_chK2, e_chT, e_chF, e_Try, e_tryO, e_tru, e_While, e_abs, e_max2, e_min2, e_gSq2, e_tup1, e_lst1, e_tup2, e_lst2, e_tup3, e_lst3, e_tup4, e_lst4, e_tup5, e_lst5, e_tup6, e_lst6, e_tup7, e_lst7, e_tup8, e_lst8, e_RaF, e_raF1, e_raF2, e_TryA, e_tryAO, e_asgnK, e_frzX, e_bindX, e_Fld, e_SFld, e_Mk, e_mkK1, e_mkK2, e_mkK3, e_mkK4, e_mkO, e_mkX, e_Met, e_metK2, e_Enum, e_enumL, e_enumT, pairs2, pairs3, pairs4, e_lst13, e_lst14, e_lst15, e_lst16, e_lst9, e_lst10, e_lst11, e_lst12, e_tup9, e_tup10, e_tup11, e_tup12, e_ListF, e_listFT, e_listFL, e_GetK, e_getK, e_IfB, e_ifBT, e_ifBF, e_notB, e_isB, o_int, o_str, o_tup, o_lst, o_non, o_bl, n_int, n_str, n_tup, n_lst, n_non, n_bl, forL_set, c1, c2, c3, c4, forL_nil]
theorem rng_in {lo hi : Int} {d : D} (h : d ∈ rng lo hi) : ∃ i, d = .int i ∧ lo ≤ i ∧ (i < hi ∨ hi ≤ lo) := by
  unfold rng at h
  obtain ⟨k, hk, rfl⟩ := List.mem_map.mp h
  have := List.mem_range.mp hk
  exact ⟨_, rfl, by omega, by omega⟩
def rng2K (db : ENV → R D) : D → ENV → R (List D) := fun x ρ1 => (db ρ1).bind fun y ρ2 => match x, y with
  | .int i, .int j => if rngOk i = true ∧ rngOk j = true then .ok (rng i j) ρ2 else .bot
  | _, _ => .bot
theorem e_Rng2 (da db : ENV → R D) (ρ : ENV) (i j : Int) (ha : da ρ = .ok (.int i) ρ) (hb : db ρ = .ok (.int j) ρ) (hi : rngOk i = true) (hj : rngOk j = true) : dRng2 da db ρ = .ok (rng i j) ρ := by
  unfold dRng2
  rw [ha, e_bind, hb, e_bind]
  exact if_pos ⟨hi, hj⟩
theorem lS2_ok : ∃ p q, lS2 [S, o2, o3, none, none, none, none, none, none, none] = .ok .nx [S, o2, o3, p, q, none, none, none, none, none] := by
  have k := e_Rng2 (dNeg (dC (.int 1))) (dC (.int 8)) [S, o2, o3, none, none, none, none, none, none, none] (-1) 8 rfl rfl (by decide) (by decide)
  obtain ⟨ρ', e, p, q, hρ⟩ := for_inv (g := gSet 3) (body := lB2) (fun ρ => ∃ p q, ρ = [S, o2, o3, p, q, none, none, none, none, none]) (rng (-1) 8) [S, o2, o3, none, none, none, none, none, none, none] (fun d hd ρ hp => by
    obtain ⟨p, q, rfl⟩ := hp
    obtain ⟨i, rfl, h1, h2⟩ := rng_in hd
    obtain ⟨o, e⟩ := lB2_ok (S := S) (o2 := o2) (o3 := o3) (o4 := q) (o5 := none) (o6 := none) (o7 := none) (o8 := none) (o9 := none) (i := i) (by omega) (by omega)
    exact ⟨_, _, rfl, .inl e, _, _, rfl⟩) ⟨_, _, rfl⟩
  subst hρ
  refine ⟨p, q, ?_⟩
  unfold lS2
  generalize rng (-1) 8 = ds at *
  rw [e_For, k, e_bind, e_forK]
  exact e
theorem lB3_ok {i : Int} (h1 : -(10 ^ 42) ≤ i) (h2 : i ≤ 10 ^ 42) : lB3 [S, o2, o3, o4, o6, some (.sh (.int i)), o5, o7, o8, o9] = .ok .nx [S, o2, o3, o4, o6, some (.sh (.int i)), o5, o7, o8, o9] := by
  have e1 := right_ok (th2i (h := "today") (by decide +kernel) h1 h2)
  have e2 := right_ok (th2i (h := "that day") (by decide +kernel) h1 h2)
  unfold lB3
  simp only [startE, List.map, List.length, List.replicate, e_Seq, e_Asg, e_Ret, e_RetF, e_Expr, e_exprK, e_op, e_op2, e_op1, e_un, e_is, e_B, e_bK, e_Cons, e_consK, e_consK2, e_Nil, e_var, e_C, e_bind, e_bindX, e_bindB, e_lookS, e_lookO, M.toD, e_of, e_asgK, e_gSet, e_stK, e_sqN, e_sqR, e_sqB, e_sqC, e_sNil, e_retK, e_retFK, e_add, e_vI, e_neg, e_fInt, e_fIntB, e_sIf, e_sifT, e_sifF, e_T, e_toB, e_Tru, e_truB, e_And, e_Or, e_andT, e_andF, e_orT, e_orF, e_Not, e_notK, e_AndV, e_OrV, e_andVT, e_andVF, e_orVT, e_orVF, e_NotV, e_notVK, e_If, e_ifT, e_ifF, e_Tup, e_Lst, e_LstF, e_tup0, e_lst0, e_lstF0, e_eqI, e_neI, e_ltI, e_leI, e_gtI, e_geI, e_lenL, e_lenT, e_lenR, e_lenS, e_ixL, e_ixT, at0, at1, at2, at3, e_tupL, e_tupT, e_lstT, e_Own, e_ownK, e_Sub, e_For, e_Items, e_itL, e_itT, e_itR, e_Call, e_CallF, e_aNil, e_aVal, e_aVK, e_aVK2, step0, step1, step2, step3, out0, out1, out2, out3, outX1, outX2, outO1, outO2, outO3, e_onSh, e_onOw, decide_true, decide_false, Bool.not_true, Bool.not_false, List.cons_append, List.nil_append, List.getElem?_cons_zero, List.getElem?_cons_succ, List.set_cons_zero, List.set_cons_succ, Nat.reduceLT, Nat.reduceAdd, Nat.reduceSub, Option.map_some, finF, outsE, e_frz, d_rng7, e_forK, e_tnN, e_tnC, e_tnB, e_tnR, e_whT, e_whF, e_Raise, e_Par, e_parK, e_parK2, e_augK, e_Ch, e_chK1, e_chK2, e_chT, e_chF, e_Try, e_tryO, e_tru, e_While, e_abs, e_max2, e_min2, e_gSq2, e_tup1, e_lst1, e_tup2, e_lst2, e_tup3, e_lst3, e_tup4, e_lst4, e_tup5, e_lst5, e_tup6, e_lst6, e_tup7, e_lst7, e_tup8, e_lst8, e_RaF, e_raF1, e_raF2, e_TryA, e_tryAO, e_asgnK, e_frzX, e_bindX, e_Fld, e_SFld, e_Mk, e_mkK1, e_mkK2, e_mkK3, e_mkK4, e_mkO, e_mkX, e_Met, e_metK2, e_Enum, e_enumL, e_enumT, pairs2, pairs3, pairs4, e_lst13, e_lst14, e_lst15, e_lst16, e_lst9, e_lst10, e_lst11, e_lst12, e_tup9, e_tup10, e_tup11, e_tup12, e_ListF, e_listFT, e_listFL, e_GetK, e_getK, e_IfB, e_ifBT, e_ifBF, e_notB, e_isB, o_int, o_str, o_tup, o_lst, o_non, o_bl, n_int, n_str, n_tup, n_lst, n_non, n_bl, e1, e2]
theorem lS3_ok : ∃ p, lS3 [S, o2, o3, o4, o6, none, none, none, none, none] = .ok .nx [S, o2, o3, o4, o6, p, none, none, none, none] := by
  have k := e_Rng2 (dNeg (dC (.int 32))) (dC (.int 33)) [S, o2, o3, o4, o6, none, none, none, none, none] (-32) 33 rfl rfl (by decide) (by decide)
  obtain ⟨ρ', e, p, hρ⟩ := for_inv (g := gSet 5) (body := lB3) (fun ρ => ∃ p, ρ = [S, o2, o3, o4, o6, p, none, none, none, none]) (rng (-32) 33) [S, o2, o3, o4, o6, none, none, none, none, none] (fun d hd ρ hp => by
    obtain ⟨p, rfl⟩ := hp
    obtain ⟨i, rfl, h1, h2⟩ := rng_in hd
    have e := lB3_ok (S := S) (o2 := o2) (o3 := o3) (o4 := o4) (o6 := o6) (o5 := none) (o7 := none) (o8 := none) (o9 := none) (i := i) (by omega) (by omega)
    exact ⟨_, _, rfl, .inl e, _, rfl⟩) ⟨_, rfl⟩
  subst hρ
  refine ⟨p, ?_⟩
  unfold lS3
  generalize rng (-32) 33 = ds at *
  rw [e_For, k, e_bind, e_forK]
  exact e
theorem lB4_ok {h : Str} (ok : PyData.strOk h = true) : lB4 [S, o2, o3, o4, some (.sh (.str h)), o6, o5, o7, o8, o9] = .ok .nx [S, o2, o3, o4, some (.sh (.str h)), o6, o5, o7, o8, o9] := by
  have e1 := right_ok (Th.one ok)
  have e2 := right_ok (Th.lst [.str h])
  have e3 := right_ok (Th.str h)
  unfold lB4
  simp only [startE, List.map, List.length, List.replicate, e_Seq, e_Asg, e_Ret, e_RetF, e_Expr, e_exprK, e_op, e_op2, e_op1, e_un, e_is, e_B, e_bK, e_Cons, e_consK, e_consK2, e_Nil, e_var, e_C, e_bind, e_bindX, e_bindB, e_lookS, e_lookO, M.toD, e_of, e_asgK, e_gSet, e_stK, e_sqN, e_sqR, e_sqB, e_sqC, e_sNil, e_retK, e_retFK, e_add, e_vI, e_neg, e_fInt, e_fIntB, e_sIf, e_sifT, e_sifF, e_T, e_toB, e_Tru, e_truB, e_And, e_Or, e_andT, e_andF, e_orT, e_orF, e_Not, e_notK, e_AndV, e_OrV, e_andVT, e_andVF, e_orVT, e_orVF, e_NotV, e_notVK, e_If, e_ifT, e_ifF, e_Tup, e_Lst, e_LstF, e_tup0, e_lst0, e_lstF0, e_eqI, e_neI, e_ltI, e_leI, e_gtI, e_geI, e_lenL, e_lenT, e_lenR, e_lenS, e_ixL, e_ixT, at0, at1, at2, at3, e_tupL, e_tupT, e_lstT, e_Own, e_ownK, e_Sub, e_For, e_Items, e_itL, e_itT, e_itR, e_Call, e_CallF, e_aNil, e_aVal, e_aVK, e_aVK2, step0, step1, step2, step3, out0, out1, out2, out3, outX1, outX2, outO1, outO2, outO3, e_onSh, e_onOw, decide_true, decide_false, Bool.not_true, Bool.not_false, List.cons_append, List.nil_append, List.getElem?_cons_zero, List.getElem?_cons_succ, List.set_cons_zero, List.set_cons_succ, Nat.reduceLT, Nat.reduceAdd, Nat.reduceSub, Option.map_some, finF, outsE, e_frz, d_rng7, e_forK, e_tnN, e_tnC, e_tnB, e_tnR, e_whT, e_whF, e_Raise, e_Par, e_parK, e_parK2, e_augK, e_Ch, e_chK1, e_chK2, e_chT, e_chF, e_Try, e_tryO, e_tru, e_While, e_abs, e_max2, e_min2, e_gSq2, e_tup1, e_lst1, e_tup2, e_lst2, e_tup3, e_lst3, e_tup4, e_lst4, e_tup5, e_lst5, e_tup6, e_lst6, e_tup7, e_lst7, e_tup8, e_lst8, e_RaF, e_raF1, e_raF2, e_TryA, e_tryAO, e_asgnK, e_frzX, e_bindX, e_Fld, e_SFld, e_Mk, e_mkK1, e_mkK2, e_mkK3, e_mkK4, e_mkO, e_mkX, e_Met, e_metK2, e_Enum, e_enumL, e_enumT, pairs2, pairs3, pairs4, e_lst13, e_lst14, e_lst15, e_lst16, e_lst9, e_lst10, e_lst11, e_lst12, e_tup9, e_tup10, e_tup11, e_tup12, e_ListF, e_listFT, e_listFL, e_GetK, e_getK, e_IfB, e_ifBT, e_ifBF, e_notB, e_isB, o_int, o_str, o_tup, o_lst, o_non, o_bl, n_int, n_str, n_tup, n_lst, n_non, n_bl, e1, e2, e3]
theorem lS4_ok : ∃ p, lS4 [S, o2, o3, o4, o6, o5, none, none, none, none] = .ok .nx [S, o2, o3, o4, p, o5, none, none, none, none] := by
  have c := fun h ok => lB4_ok (S := S) (o2 := o2) (o3 := o3) (o4 := o4) (o6 := o5) (o5 := none) (o7 := none) (o8 := none) (o9 := none) (h := h) ok
  have c1 := c "I" (by decide +kernel)
  have c2 := c "you" (by decide +kernel)
  have c3 := c "self" (by decide +kernel)
  have c4 := c "told" (by decide +kernel)
  have c5 := c "somebody" (by decide +kernel)
  have c6 := c "one day" (by decide +kernel)
  have c7 := c "here" (by decide +kernel)
  have c8 := c "there" (by decide +kernel)
  have c9 := c "somewhere" (by decide +kernel)
  have c10 := c "today" (by decide +kernel)
  have c11 := c "name" (by decide +kernel)
  have c12 := c "date" (by decide +kernel)
  refine ⟨some (.sh (.str "date")), ?_⟩
  unfold lS4
  generalize lB4 = B at *
  simp only [startE, List.map, List.length, List.replicate, e_Seq, e_Asg, e_Ret, e_RetF, e_Expr, e_exprK, e_op, e_op2, e_op1, e_un, e_is, e_B, e_bK, e_Cons, e_consK, e_consK2, e_Nil, e_var, e_C, e_bind, e_bindX, e_bindB, e_lookS, e_lookO, M.toD, e_of, e_asgK, e_gSet, e_stK, e_sqN, e_sqR, e_sqB, e_sqC, e_sNil, e_retK, e_retFK, e_add, e_vI, e_neg, e_fInt, e_fIntB, e_sIf, e_sifT, e_sifF, e_T, e_toB, e_Tru, e_truB, e_And, e_Or, e_andT, e_andF, e_orT, e_orF, e_Not, e_notK, e_AndV, e_OrV, e_andVT, e_andVF, e_orVT, e_orVF, e_NotV, e_notVK, e_If, e_ifT, e_ifF, e_Tup, e_Lst, e_LstF, e_tup0, e_lst0, e_lstF0, e_eqI, e_neI, e_ltI, e_leI, e_gtI, e_geI, e_lenL, e_lenT, e_lenR, e_lenS, e_ixL, e_ixT, at0, at1, at2, at3, e_tupL, e_tupT, e_lstT, e_Own, e_ownK, e_Sub, e_For, e_Items, e_itL, e_itT, e_itR, e_Call, e_CallF, e_aNil, e_aVal, e_aVK, e_aVK2, step0, step1, step2, step3, out0, out1, out2, out3, outX1, outX2, outO1, outO2, outO3, e_onSh, e_onOw, decide_true, decide_false, Bool.not_true, Bool.not_false, List.cons_append, List.nil_append, List.getElem?_cons_zero, List.getElem?_cons_succ, List.set_cons_zero, List.set_cons_succ, Nat.reduceLT, Nat.reduceAdd, Nat.reduceSub, Option.map_some, finF, outsE, e_frz, d_rng7, e_forK, e_tnN, e_tnC, e_tnB, e_tnR, e_whT, e_whF, e_Raise, e_Par, e_parK, e_parK2, e_augK, e_Ch, e_chK1, e_chK2, e_chT, e_chF, e_Try, e_tryO, e_tru, e_While, e_abs, e_max2, e_min2, e_gSq2, e_tup1, e_lst1, e_tup2, e_lst2, e_tup3, e_lst3, e_tup4, e_lst4, e_tup5, e_lst5, e_tup6, e_lst6, e_tup7, e_lst7, e_tup8, e_lst8, e_RaF, e_raF1, e_raF2, e_TryA, e_tryAO, e_asgnK, e_frzX, e_bindX, e_Fld, e_SFld, e_Mk, e_mkK1, e_mkK2, e_mkK3, e_mkK4, e_mkO, e_mkX, e_Met, e_metK2, e_Enum, e_enumL, e_enumT, pairs2, pairs3, pairs4, e_lst13, e_lst14, e_lst15, e_lst16, e_lst9, e_lst10, e_lst11, e_lst12, e_tup9, e_tup10, e_tup11, e_tup12, e_ListF, e_listFT, e_listFL, e_GetK, e_getK, e_IfB, e_ifBT, e_ifBF, e_notB, e_isB, o_int, o_str, o_tup, o_lst, o_non, o_bl, n_int, n_str, n_tup, n_lst, n_non, n_bl, forL_set, c1, c2, c3, c4, c5, c6, c7, c8, c9, c10, c11, c12, forL_nil]
theorem lS5_ok (hm : Good m) : ∃ m' r, lS5 [S, some (.ow m), o2, o3, o4, o5, none, none, none, none] = .ok .nx [S, some (.ow m'), o2, o3, o4, o5, some (.sh (.int r)), none, none, none] ∧ Good m' := by
  obtain ⟨r, m1, e1, g1, _⟩ := tk40 hm
  refine ⟨m1, r - N40, ?_, g1⟩
  unfold lS5
  simp only [startE, List.map, List.length, List.replicate, e_Seq, e_Asg, e_Ret, e_RetF, e_Expr, e_exprK, e_op, e_op2, e_op1, e_un, e_is, e_B, e_bK, e_Cons, e_consK, e_consK2, e_Nil, e_var, e_C, e_bind, e_bindX, e_bindB, e_lookS, e_lookO, M.toD, e_of, e_asgK, e_gSet, e_stK, e_sqN, e_sqR, e_sqB, e_sqC, e_sNil, e_retK, e_retFK, e_add, e_vI, e_neg, e_fInt, e_fIntB, e_sIf, e_sifT, e_sifF, e_T, e_toB, e_Tru, e_truB, e_And, e_Or, e_andT, e_andF, e_orT, e_orF, e_Not, e_notK, e_AndV, e_OrV, e_andVT, e_andVF, e_orVT, e_orVF, e_NotV, e_notVK, e_If, e_ifT, e_ifF, e_Tup, e_Lst, e_LstF, e_tup0, e_lst0, e_lstF0, e_eqI, e_neI, e_ltI, e_leI, e_gtI, e_geI, e_lenL, e_lenT, e_lenR, e_lenS, e_ixL, e_ixT, at0, at1, at2, at3, e_tupL, e_tupT, e_lstT, e_Own, e_ownK, e_Sub, e_For, e_Items, e_itL, e_itT, e_itR, e_Call, e_CallF, e_aNil, e_aVal, e_aVK, e_aVK2, step0, step1, step2, step3, out0, out1, out2, out3, outX1, outX2, outO1, outO2, outO3, e_onSh, e_onOw, decide_true, decide_false, Bool.not_true, Bool.not_false, List.cons_append, List.nil_append, List.getElem?_cons_zero, List.getElem?_cons_succ, List.set_cons_zero, List.set_cons_succ, Nat.reduceLT, Nat.reduceAdd, Nat.reduceSub, Option.map_some, finF, outsE, e_frz, d_rng7, e_forK, e_tnN, e_tnC, e_tnB, e_tnR, e_whT, e_whF, e_Raise, e_Par, e_parK, e_parK2, e_augK, e_Ch, e_chK1, e_chK2, e_chT, e_chF, e_Try, e_tryO, e_tru, e_While, e_abs, e_max2, e_min2, e_gSq2, e_tup1, e_lst1, e_tup2, e_lst2, e_tup3, e_lst3, e_tup4, e_lst4, e_tup5, e_lst5, e_tup6, e_lst6, e_tup7, e_lst7, e_tup8, e_lst8, e_RaF, e_raF1, e_raF2, e_TryA, e_tryAO, e_asgnK, e_frzX, e_bindX, e_Fld, e_SFld, e_Mk, e_mkK1, e_mkK2, e_mkK3, e_mkK4, e_mkO, e_mkX, e_Met, e_metK2, e_Enum, e_enumL, e_enumT, pairs2, pairs3, pairs4, e_lst13, e_lst14, e_lst15, e_lst16, e_lst9, e_lst10, e_lst11, e_lst12, e_tup9, e_tup10, e_tup11, e_tup12, e_ListF, e_listFT, e_listFL, e_GetK, e_getK, e_IfB, e_ifBT, e_ifBF, e_notB, e_isB, o_int, o_str, o_tup, o_lst, o_non, o_bl, n_int, n_str, n_tup, n_lst, n_non, n_bl, pw40, mu40, e_aIo (m := m), stepO2 (m := m), e1]
theorem lB6_ok {z : D} (p : Pl z) : lB6 [S, o2, o3, o4, o5, o6, o7, some (.sh z), o8, o9] = .ok .nx [S, o2, o3, o4, o5, o6, o7, some (.sh z), some (.sh (.bl (wh z))), o9] := by
  have e1 := name_ok p
  have e2 := letters_ok p
  have e3 := whole_ok p
  have e4 := lwhole_ok p
  have e5 := unl_same (wh z)
  have e6 := unl_same (nm z)
  generalize wh z = a at *
  generalize nm z = b at *
  unfold lB6
  simp only [startE, List.map, List.length, List.replicate, e_Seq, e_Asg, e_Ret, e_RetF, e_Expr, e_exprK, e_op, e_op2, e_op1, e_un, e_is, e_B, e_bK, e_Cons, e_consK, e_consK2, e_Nil, e_var, e_C, e_bind, e_bindX, e_bindB, e_lookS, e_lookO, M.toD, e_of, e_asgK, e_gSet, e_stK, e_sqN, e_sqR, e_sqB, e_sqC, e_sNil, e_retK, e_retFK, e_add, e_vI, e_neg, e_fInt, e_fIntB, e_sIf, e_sifT, e_sifF, e_T, e_toB, e_Tru, e_truB, e_And, e_Or, e_andT, e_andF, e_orT, e_orF, e_Not, e_notK, e_AndV, e_OrV, e_andVT, e_andVF, e_orVT, e_orVF, e_NotV, e_notVK, e_If, e_ifT, e_ifF, e_Tup, e_Lst, e_LstF, e_tup0, e_lst0, e_lstF0, e_eqI, e_neI, e_ltI, e_leI, e_gtI, e_geI, e_lenL, e_lenT, e_lenR, e_lenS, e_ixL, e_ixT, at0, at1, at2, at3, e_tupL, e_tupT, e_lstT, e_Own, e_ownK, e_Sub, e_For, e_Items, e_itL, e_itT, e_itR, e_Call, e_CallF, e_aNil, e_aVal, e_aVK, e_aVK2, step0, step1, step2, step3, out0, out1, out2, out3, outX1, outX2, outO1, outO2, outO3, e_onSh, e_onOw, decide_true, decide_false, Bool.not_true, Bool.not_false, List.cons_append, List.nil_append, List.getElem?_cons_zero, List.getElem?_cons_succ, List.set_cons_zero, List.set_cons_succ, Nat.reduceLT, Nat.reduceAdd, Nat.reduceSub, Option.map_some, finF, outsE, e_frz, d_rng7, e_forK, e_tnN, e_tnC, e_tnB, e_tnR, e_whT, e_whF, e_Raise, e_Par, e_parK, e_parK2, e_augK, e_Ch, e_chK1, e_chK2, e_chT, e_chF, e_Try, e_tryO, e_tru, e_While, e_abs, e_max2, e_min2, e_gSq2, e_tup1, e_lst1, e_tup2, e_lst2, e_tup3, e_lst3, e_tup4, e_lst4, e_tup5, e_lst5, e_tup6, e_lst6, e_tup7, e_lst7, e_tup8, e_lst8, e_RaF, e_raF1, e_raF2, e_TryA, e_tryAO, e_asgnK, e_frzX, e_bindX, e_Fld, e_SFld, e_Mk, e_mkK1, e_mkK2, e_mkK3, e_mkK4, e_mkO, e_mkX, e_Met, e_metK2, e_Enum, e_enumL, e_enumT, pairs2, pairs3, pairs4, e_lst13, e_lst14, e_lst15, e_lst16, e_lst9, e_lst10, e_lst11, e_lst12, e_tup9, e_tup10, e_tup11, e_tup12, e_ListF, e_listFT, e_listFL, e_GetK, e_getK, e_IfB, e_ifBT, e_ifBF, e_notB, e_isB, o_int, o_str, o_tup, o_lst, o_non, o_bl, n_int, n_str, n_tup, n_lst, n_non, n_bl, e1, e2, e3, e4, e5, e6]
theorem one_bad : Pl (.str "1") := .bad (by kernel_rfl) (by decide +kernel)
theorem lS6_ok (hm : Good m) (r : Int) : ∃ m' p q, lS6 [S, some (.ow m), o2, o3, o4, o5, some (.sh (.int r)), none, none, none] = .ok .nx [S, some (.ow m'), o2, o3, o4, o5, some (.sh (.int r)), p, q, none] ∧ Good m' := by
  obtain ⟨x, m1, e1, g1, hx⟩ := dname_ok hm
  have n1 : vNeg (.int 1) = some (.int (-1)) := rfl
  have hp : ∀ z ∈ [D.int r, .int 0, .int 1, .int (-1), .bl true, .bl false, .non, .str "1", .tup [.int 1], .lst [], .str x], Pl z := by
    intro z hz
    simp only [List.mem_cons, List.not_mem_nil, or_false] at hz
    rcases hz with h | h | h | h | h | h | h | h | h | h | h <;> rw [h]
    · exact .int _
    · exact .int _
    · exact .int _
    · exact .int _
    · exact .bl _
    · exact .bl _
    · exact .non
    · exact one_bad
    · exact .tup _
    · exact .lst _
    · exact .nam hx
  obtain ⟨ρ', e, p, q, hρ⟩ := for_inv (g := gSet 7) (body := lB6) (fun ρ => ∃ p q, ρ = [S, some (.ow m1), o2, o3, o4, o5, some (.sh (.int r)), p, q, none]) [D.int r, .int 0, .int 1, .int (-1), .bl true, .bl false, .non, .str "1", .tup [.int 1], .lst [], .str x] [S, some (.ow m1), o2, o3, o4, o5, some (.sh (.int r)), none, none, none] (fun d hd ρ h => by
    obtain ⟨p, q, rfl⟩ := h
    exact ⟨_, _, rfl, .inl (lB6_ok (hp d hd)), _, _, rfl⟩) ⟨_, _, rfl⟩
  subst hρ
  refine ⟨m1, p, q, ?_, g1⟩
  unfold lS6
  generalize lB6 = B at *
  simp only [startE, List.map, List.length, List.replicate, e_Seq, e_Asg, e_Ret, e_RetF, e_Expr, e_exprK, e_op, e_op2, e_op1, e_un, e_is, e_B, e_bK, e_Cons, e_consK, e_consK2, e_Nil, e_var, e_C, e_bind, e_bindX, e_bindB, e_lookS, e_lookO, M.toD, e_of, e_asgK, e_gSet, e_stK, e_sqN, e_sqR, e_sqB, e_sqC, e_sNil, e_retK, e_retFK, e_add, e_vI, e_neg, e_fInt, e_fIntB, e_sIf, e_sifT, e_sifF, e_T, e_toB, e_Tru, e_truB, e_And, e_Or, e_andT, e_andF, e_orT, e_orF, e_Not, e_notK, e_AndV, e_OrV, e_andVT, e_andVF, e_orVT, e_orVF, e_NotV, e_notVK, e_If, e_ifT, e_ifF, e_Tup, e_Lst, e_LstF, e_tup0, e_lst0, e_lstF0, e_eqI, e_neI, e_ltI, e_leI, e_gtI, e_geI, e_lenL, e_lenT, e_lenR, e_lenS, e_ixL, e_ixT, at0, at1, at2, at3, e_tupL, e_tupT, e_lstT, e_Own, e_ownK, e_Sub, e_For, e_Items, e_itL, e_itT, e_itR, e_Call, e_CallF, e_aNil, e_aVal, e_aVK, e_aVK2, step0, step1, step2, step3, out0, out1, out2, out3, outX1, outX2, outO1, outO2, outO3, e_onSh, e_onOw, decide_true, decide_false, Bool.not_true, Bool.not_false, List.cons_append, List.nil_append, List.getElem?_cons_zero, List.getElem?_cons_succ, List.set_cons_zero, List.set_cons_succ, Nat.reduceLT, Nat.reduceAdd, Nat.reduceSub, Option.map_some, finF, outsE, e_frz, d_rng7, e_forK, e_tnN, e_tnC, e_tnB, e_tnR, e_whT, e_whF, e_Raise, e_Par, e_parK, e_parK2, e_augK, e_Ch, e_chK1, e_chK2, e_chT, e_chF, e_Try, e_tryO, e_tru, e_While, e_abs, e_max2, e_min2, e_gSq2, e_tup1, e_lst1, e_tup2, e_lst2, e_tup3, e_lst3, e_tup4, e_lst4, e_tup5, e_lst5, e_tup6, e_lst6, e_tup7, e_lst7, e_tup8, e_lst8, e_RaF, e_raF1, e_raF2, e_TryA, e_tryAO, e_asgnK, e_frzX, e_bindX, e_Fld, e_SFld, e_Mk, e_mkK1, e_mkK2, e_mkK3, e_mkK4, e_mkO, e_mkX, e_Met, e_metK2, e_Enum, e_enumL, e_enumT, pairs2, pairs3, pairs4, e_lst13, e_lst14, e_lst15, e_lst16, e_lst9, e_lst10, e_lst11, e_lst12, e_tup9, e_tup10, e_tup11, e_tup12, e_ListF, e_listFT, e_listFL, e_GetK, e_getK, e_IfB, e_ifBT, e_ifBF, e_notB, e_isB, o_int, o_str, o_tup, o_lst, o_non, o_bl, n_int, n_str, n_tup, n_lst, n_non, n_bl, n1, e_aIo (m := m), stepO1 (m := m), e1, e, -e_neg]
theorem lS7_ok (hm : Good m) : ∃ m' x, lS7 [S, some (.ow m), o2, o3, o4, o5, o6, o7, o8, none] = .ok .nx [S, some (.ow m'), o2, o3, o4, o5, o6, o7, o8, some (.sh (.str x))] ∧ Good m' ∧ Nm x := by
  obtain ⟨x, m1, e1, g1, hx⟩ := dname_ok hm
  refine ⟨m1, x, ?_, g1, hx⟩
  unfold lS7
  simp only [startE, List.map, List.length, List.replicate, e_Seq, e_Asg, e_Ret, e_RetF, e_Expr, e_exprK, e_op, e_op2, e_op1, e_un, e_is, e_B, e_bK, e_Cons, e_consK, e_consK2, e_Nil, e_var, e_C, e_bind, e_bindX, e_bindB, e_lookS, e_lookO, M.toD, e_of, e_asgK, e_gSet, e_stK, e_sqN, e_sqR, e_sqB, e_sqC, e_sNil, e_retK, e_retFK, e_add, e_vI, e_neg, e_fInt, e_fIntB, e_sIf, e_sifT, e_sifF, e_T, e_toB, e_Tru, e_truB, e_And, e_Or, e_andT, e_andF, e_orT, e_orF, e_Not, e_notK, e_AndV, e_OrV, e_andVT, e_andVF, e_orVT, e_orVF, e_NotV, e_notVK, e_If, e_ifT, e_ifF, e_Tup, e_Lst, e_LstF, e_tup0, e_lst0, e_lstF0, e_eqI, e_neI, e_ltI, e_leI, e_gtI, e_geI, e_lenL, e_lenT, e_lenR, e_lenS, e_ixL, e_ixT, at0, at1, at2, at3, e_tupL, e_tupT, e_lstT, e_Own, e_ownK, e_Sub, e_For, e_Items, e_itL, e_itT, e_itR, e_Call, e_CallF, e_aNil, e_aVal, e_aVK, e_aVK2, step0, step1, step2, step3, out0, out1, out2, out3, outX1, outX2, outO1, outO2, outO3, e_onSh, e_onOw, decide_true, decide_false, Bool.not_true, Bool.not_false, List.cons_append, List.nil_append, List.getElem?_cons_zero, List.getElem?_cons_succ, List.set_cons_zero, List.set_cons_succ, Nat.reduceLT, Nat.reduceAdd, Nat.reduceSub, Option.map_some, finF, outsE, e_frz, d_rng7, e_forK, e_tnN, e_tnC, e_tnB, e_tnR, e_whT, e_whF, e_Raise, e_Par, e_parK, e_parK2, e_augK, e_Ch, e_chK1, e_chK2, e_chT, e_chF, e_Try, e_tryO, e_tru, e_While, e_abs, e_max2, e_min2, e_gSq2, e_tup1, e_lst1, e_tup2, e_lst2, e_tup3, e_lst3, e_tup4, e_lst4, e_tup5, e_lst5, e_tup6, e_lst6, e_tup7, e_lst7, e_tup8, e_lst8, e_RaF, e_raF1, e_raF2, e_TryA, e_tryAO, e_asgnK, e_frzX, e_bindX, e_Fld, e_SFld, e_Mk, e_mkK1, e_mkK2, e_mkK3, e_mkK4, e_mkO, e_mkX, e_Met, e_metK2, e_Enum, e_enumL, e_enumT, pairs2, pairs3, pairs4, e_lst13, e_lst14, e_lst15, e_lst16, e_lst9, e_lst10, e_lst11, e_lst12, e_tup9, e_tup10, e_tup11, e_tup12, e_ListF, e_listFT, e_listFL, e_GetK, e_getK, e_IfB, e_ifBT, e_ifBF, e_notB, e_isB, o_int, o_str, o_tup, o_lst, o_non, o_bl, n_int, n_str, n_tup, n_lst, n_non, n_bl, e_aIo (m := m), stepO1 (m := m), e1]
theorem lB8_ok {z : D} (p : Pl z) (n : wh z = false) : lB8 [S, o2, o3, o4, o5, o6, o7, some (.sh z), o8, o9] = .ok .nx [S, o2, o3, o4, o5, o6, o7, some (.sh z), o8, o9] := by
  have e1 := name_ok p
  have e2 := letters_ok p
  have e3 := whole_ok p
  rw [n] at e3
  have e5 := unl_same false
  have e6 := unl_same (nm z)
  generalize nm z = b at *
  unfold lB8
  simp only [startE, List.map, List.length, List.replicate, e_Seq, e_Asg, e_Ret, e_RetF, e_Expr, e_exprK, e_op, e_op2, e_op1, e_un, e_is, e_B, e_bK, e_Cons, e_consK, e_consK2, e_Nil, e_var, e_C, e_bind, e_bindX, e_bindB, e_lookS, e_lookO, M.toD, e_of, e_asgK, e_gSet, e_stK, e_sqN, e_sqR, e_sqB, e_sqC, e_sNil, e_retK, e_retFK, e_add, e_vI, e_neg, e_fInt, e_fIntB, e_sIf, e_sifT, e_sifF, e_T, e_toB, e_Tru, e_truB, e_And, e_Or, e_andT, e_andF, e_orT, e_orF, e_Not, e_notK, e_AndV, e_OrV, e_andVT, e_andVF, e_orVT, e_orVF, e_NotV, e_notVK, e_If, e_ifT, e_ifF, e_Tup, e_Lst, e_LstF, e_tup0, e_lst0, e_lstF0, e_eqI, e_neI, e_ltI, e_leI, e_gtI, e_geI, e_lenL, e_lenT, e_lenR, e_lenS, e_ixL, e_ixT, at0, at1, at2, at3, e_tupL, e_tupT, e_lstT, e_Own, e_ownK, e_Sub, e_For, e_Items, e_itL, e_itT, e_itR, e_Call, e_CallF, e_aNil, e_aVal, e_aVK, e_aVK2, step0, step1, step2, step3, out0, out1, out2, out3, outX1, outX2, outO1, outO2, outO3, e_onSh, e_onOw, decide_true, decide_false, Bool.not_true, Bool.not_false, List.cons_append, List.nil_append, List.getElem?_cons_zero, List.getElem?_cons_succ, List.set_cons_zero, List.set_cons_succ, Nat.reduceLT, Nat.reduceAdd, Nat.reduceSub, Option.map_some, finF, outsE, e_frz, d_rng7, e_forK, e_tnN, e_tnC, e_tnB, e_tnR, e_whT, e_whF, e_Raise, e_Par, e_parK, e_parK2, e_augK, e_Ch, e_chK1, e_chK2, e_chT, e_chF, e_Try, e_tryO, e_tru, e_While, e_abs, e_max2, e_min2, e_gSq2, e_tup1, e_lst1, e_tup2, e_lst2, e_tup3, e_lst3, e_tup4, e_lst4, e_tup5, e_lst5, e_tup6, e_lst6, e_tup7, e_lst7, e_tup8, e_lst8, e_RaF, e_raF1, e_raF2, e_TryA, e_tryAO, e_asgnK, e_frzX, e_bindX, e_Fld, e_SFld, e_Mk, e_mkK1, e_mkK2, e_mkK3, e_mkK4, e_mkO, e_mkX, e_Met, e_metK2, e_Enum, e_enumL, e_enumT, pairs2, pairs3, pairs4, e_lst13, e_lst14, e_lst15, e_lst16, e_lst9, e_lst10, e_lst11, e_lst12, e_tup9, e_tup10, e_tup11, e_tup12, e_ListF, e_listFT, e_listFL, e_GetK, e_getK, e_IfB, e_ifBT, e_ifBF, e_notB, e_isB, o_int, o_str, o_tup, o_lst, o_non, o_bl, n_int, n_str, n_tup, n_lst, n_non, n_bl, e1, e2, e3, e5, e6]
theorem rep8 (c : Nat) : vMulS (.str ⟨#[c]⟩) (.int 8) = some (.str ⟨#[c, c, c, c, c, c, c, c]⟩) := by
  have h : repS ⟨#[c]⟩ (8 : Int).toNat = ⟨#[c, c, c, c, c, c, c, c]⟩ := by kernel_rfl
  show (if (1 : Int) < 8 ∧ (8 : Int) < 2 ^ 24 ∧ 0 < (⟨#[c]⟩ : Str).length ∧ (⟨#[c]⟩ : Str).length * (8 : Int).toNat ≤ sizeLine ∧ (repS ⟨#[c]⟩ (8 : Int).toNat).length ≤ sizeLine then some (D.str (repS ⟨#[c]⟩ (8 : Int).toNat)) else none) = _
  rw [h, if_pos ⟨by decide, by decide, by show 0 < 1; decide, by rw [sizeLine_eq]; show 1 * 8 ≤ _; decide, by rw [sizeLine_eq]; show 8 ≤ _; decide⟩]
theorem rep9 (c : Nat) : vMulS (.str ⟨#[c]⟩) (.int 9) = some (.str ⟨#[c, c, c, c, c, c, c, c, c]⟩) := by
  have h : repS ⟨#[c]⟩ (9 : Int).toNat = ⟨#[c, c, c, c, c, c, c, c, c]⟩ := by kernel_rfl
  show (if (1 : Int) < 9 ∧ (9 : Int) < 2 ^ 24 ∧ 0 < (⟨#[c]⟩ : Str).length ∧ (⟨#[c]⟩ : Str).length * (9 : Int).toNat ≤ sizeLine ∧ (repS ⟨#[c]⟩ (9 : Int).toNat).length ≤ sizeLine then some (D.str (repS ⟨#[c]⟩ (9 : Int).toNat)) else none) = _
  rw [h, if_pos ⟨by decide, by decide, by show 0 < 1; decide, by rw [sizeLine_eq]; show 1 * 9 ≤ _; decide, by rw [sizeLine_eq]; show 9 ≤ _; decide⟩]
theorem lS8_ok {x : Str} (hx : Nm x) : ∃ p, lS8 [S, o2, o3, o4, o5, o6, o7, o8, o9, some (.sh (.str x))] = .ok .nx [S, o2, o3, o4, o5, o6, o7, p, o9, some (.sh (.str x))] := by
  have h8 : x.length ≤ 8 := hx.hi
  have h1 : 0 < x.cps.toList.length := by rw [Array.length_toList]; exact hx.lo
  obtain ⟨c, hc⟩ : ∃ c, x.cps.toList[0]? = some c := ⟨_, List.getElem?_eq_getElem h1⟩
  have hcm : c ∈ lowS := hx.mem c (List.mem_of_getElem? hc)
  have i0 : vIxI (.str x) (.int 0) = some (.str ⟨#[c]⟩) := by
    show (L2.atI x.cps.toList 0).map _ = _
    rw [atN (by decide) hc]; rfl
  have l1 : ("abcdefgh" : Str).length = 8 := by decide +kernel
  have l2 : ("-" : Str).length = 1 := by decide +kernel
  have l3 : ("A" : Str).length = 1 := by decide +kernel
  have l4 : (" " : Str).length = 1 := by decide +kernel
  have k1 := cat_ok (x := x) (y := "abcdefgh") (by omega)
  have k2 := cat_ok (x := x) (y := "-") (by omega)
  have k3 := cat_ok (x := "A") (y := x) (by omega)
  have k4 := cat_ok (x := " ") (y := x) (by omega)
  have r8 := rep8 c
  have r9 := rep9 c
  have hp : ∀ z ∈ [D.str x, .str (x ++ "abcdefgh"), .str (x ++ "-"), .str (("A" : Str) ++ x), .str "", .str ⟨#[c, c, c, c, c, c, c, c]⟩, .str ⟨#[c, c, c, c, c, c, c, c, c]⟩, .str ((" " : Str) ++ x), .tup [.str x], .str "1"], Pl z ∧ wh z = false := by
    intro z hz
    simp only [List.mem_cons, List.not_mem_nil, or_false] at hz
    rcases hz with h | h | h | h | h | h | h | h | h | h <;> rw [h]
    · exact ⟨.nam hx, rfl⟩
    · refine ⟨pl_mem (fun c hc => ?_) (by rw [len_app]; omega), rfl⟩
      rcases mem_app.mp hc with hc | hc
      · exact hx.mem c hc
      · exact List.all_eq_true.mp (show ("abcdefgh" : Str).cps.toList.all (fun c => decide (c ∈ lowS)) = true by decide +kernel) c hc |> of_decide_eq_true
    · exact ⟨pl_no 45 (mem_app.mpr (.inr (by decide +kernel))) (by kernel_rfl) (by rw [len_app]; omega), rfl⟩
    · exact ⟨pl_no 65 (mem_app.mpr (.inl (by decide +kernel))) (by kernel_rfl) (by rw [len_app]; omega), rfl⟩
    · exact ⟨.bad (by kernel_rfl) (by decide +kernel), rfl⟩
    · refine ⟨pl_mem (fun d hd => ?_) (by show 8 ≤ 100; decide), rfl⟩
      have : d = c := by simpa using hd
      rw [this]; exact hcm
    · refine ⟨pl_mem (fun d hd => ?_) (by show 9 ≤ 100; decide), rfl⟩
      have : d = c := by simpa using hd
      rw [this]; exact hcm
    · exact ⟨pl_no 32 (mem_app.mpr (.inl (by decide +kernel))) (by kernel_rfl) (by rw [len_app]; omega), rfl⟩
    · exact ⟨.tup _, rfl⟩
    · exact ⟨one_bad, rfl⟩
  obtain ⟨ρ', e, p, hρ⟩ := for_inv (g := gSet 7) (body := lB8) (fun ρ => ∃ p, ρ = [S, o2, o3, o4, o5, o6, o7, p, o9, some (.sh (.str x))]) [D.str x, .str (x ++ "abcdefgh"), .str (x ++ "-"), .str (("A" : Str) ++ x), .str "", .str ⟨#[c, c, c, c, c, c, c, c]⟩, .str ⟨#[c, c, c, c, c, c, c, c, c]⟩, .str ((" " : Str) ++ x), .tup [.str x], .str "1"] [S, o2, o3, o4, o5, o6, o7, o8, o9, some (.sh (.str x))] (fun d hd ρ h => by
    obtain ⟨p, rfl⟩ := h
    obtain ⟨h1, h2⟩ := hp d hd
    exact ⟨_, _, rfl, .inl (lB8_ok h1 h2), _, rfl⟩) ⟨_, rfl⟩
  subst hρ
  refine ⟨p, ?_⟩
  unfold lS8
  generalize lB8 = B at *
  clear hp
  generalize (D.str ⟨#[c, c, c, c, c, c, c, c]⟩) = y8 at *
  generalize (D.str ⟨#[c, c, c, c, c, c, c, c, c]⟩) = y9 at *
  simp only [startE, List.map, List.length, List.replicate, e_Seq, e_Asg, e_Ret, e_RetF, e_Expr, e_exprK, e_op, e_op2, e_op1, e_un, e_is, e_B, e_bK, e_Cons, e_consK, e_consK2, e_Nil, e_var, e_C, e_bind, e_bindX, e_bindB, e_lookS, e_lookO, M.toD, e_of, e_asgK, e_gSet, e_stK, e_sqN, e_sqR, e_sqB, e_sqC, e_sNil, e_retK, e_retFK, e_add, e_vI, e_neg, e_fInt, e_fIntB, e_sIf, e_sifT, e_sifF, e_T, e_toB, e_Tru, e_truB, e_And, e_Or, e_andT, e_andF, e_orT, e_orF, e_Not, e_notK, e_AndV, e_OrV, e_andVT, e_andVF, e_orVT, e_orVF, e_NotV, e_notVK, e_If, e_ifT, e_ifF, e_Tup, e_Lst, e_LstF, e_tup0, e_lst0, e_lstF0, e_eqI, e_neI, e_ltI, e_leI, e_gtI, e_geI, e_lenL, e_lenT, e_lenR, e_lenS, e_ixL, e_ixT, at0, at1, at2, at3, e_tupL, e_tupT, e_lstT, e_Own, e_ownK, e_Sub, e_For, e_Items, e_itL, e_itT, e_itR, e_Call, e_CallF, e_aNil, e_aVal, e_aVK, e_aVK2, step0, step1, step2, step3, out0, out1, out2, out3, outX1, outX2, outO1, outO2, outO3, e_onSh, e_onOw, decide_true, decide_false, Bool.not_true, Bool.not_false, List.cons_append, List.nil_append, List.getElem?_cons_zero, List.getElem?_cons_succ, List.set_cons_zero, List.set_cons_succ, Nat.reduceLT, Nat.reduceAdd, Nat.reduceSub, Option.map_some, finF, outsE, e_frz, d_rng7, e_forK, e_tnN, e_tnC, e_tnB, e_tnR, e_whT, e_whF, e_Raise, e_Par, e_parK, e_parK2, e_augK, e_Ch, e_chK1, e_chK2, e_chT, e_chF, e_Try, e_tryO, e_tru, e_While, e_abs, e_max2, e_min2, e_gSq2, e_tup1, e_lst1, e_tup2, e_lst2, e_tup3, e_lst3, e_tup4, e_lst4, e_tup5, e_lst5, e_tup6, e_lst6, e_tup7, e_lst7, e_tup8, e_lst8, e_RaF, e_raF1, e_raF2, e_TryA, e_tryAO, e_asgnK, e_frzX, e_bindX, e_Fld, e_SFld, e_Mk, e_mkK1, e_mkK2, e_mkK3, e_mkK4, e_mkO, e_mkX, e_Met, e_metK2, e_Enum, e_enumL, e_enumT, pairs2, pairs3, pairs4, e_lst13, e_lst14, e_lst15, e_lst16, e_lst9, e_lst10, e_lst11, e_lst12, e_tup9, e_tup10, e_tup11, e_tup12, e_ListF, e_listFT, e_listFL, e_GetK, e_getK, e_IfB, e_ifBT, e_ifBF, e_notB, e_isB, o_int, o_str, o_tup, o_lst, o_non, o_bl, n_int, n_str, n_tup, n_lst, n_non, n_bl, k1, k2, k3, k4, i0, r8, r9, e, -e_add]
theorem law_true (xs : List Int) (hn : xs.length ≤ 63) : m_law [.sh (.scr (xs.map D.int))] = .ok (.sh (.bl true)) [] := by
  obtain ⟨m, e, hm⟩ := hand_ok xs hn
  generalize hS : D.scr (xs.map D.int) = S at *
  have s0 : lS0 [some (.sh S), none, none, none, none, none, none, none, none, none] = .ok .nx [some (.sh S), some (.ow m), none, none, none, none, none, none, none, none] := by
    unfold lS0
    simp only [startE, List.map, List.length, List.replicate, e_Seq, e_Asg, e_Ret, e_RetF, e_Expr, e_exprK, e_op, e_op2, e_op1, e_un, e_is, e_B, e_bK, e_Cons, e_consK, e_consK2, e_Nil, e_var, e_C, e_bind, e_bindX, e_bindB, e_lookS, e_lookO, M.toD, e_of, e_asgK, e_gSet, e_stK, e_sqN, e_sqR, e_sqB, e_sqC, e_sNil, e_retK, e_retFK, e_add, e_vI, e_neg, e_fInt, e_fIntB, e_sIf, e_sifT, e_sifF, e_T, e_toB, e_Tru, e_truB, e_And, e_Or, e_andT, e_andF, e_orT, e_orF, e_Not, e_notK, e_AndV, e_OrV, e_andVT, e_andVF, e_orVT, e_orVF, e_NotV, e_notVK, e_If, e_ifT, e_ifF, e_Tup, e_Lst, e_LstF, e_tup0, e_lst0, e_lstF0, e_eqI, e_neI, e_ltI, e_leI, e_gtI, e_geI, e_lenL, e_lenT, e_lenR, e_lenS, e_ixL, e_ixT, at0, at1, at2, at3, e_tupL, e_tupT, e_lstT, e_Own, e_ownK, e_Sub, e_For, e_Items, e_itL, e_itT, e_itR, e_Call, e_CallF, e_aNil, e_aVal, e_aVK, e_aVK2, step0, step1, step2, step3, out0, out1, out2, out3, outX1, outX2, outO1, outO2, outO3, e_onSh, e_onOw, decide_true, decide_false, Bool.not_true, Bool.not_false, List.cons_append, List.nil_append, List.getElem?_cons_zero, List.getElem?_cons_succ, List.set_cons_zero, List.set_cons_succ, Nat.reduceLT, Nat.reduceAdd, Nat.reduceSub, Option.map_some, finF, outsE, e_frz, d_rng7, e_forK, e_tnN, e_tnC, e_tnB, e_tnR, e_whT, e_whF, e_Raise, e_Par, e_parK, e_parK2, e_augK, e_Ch, e_chK1, e_chK2, e_chT, e_chF, e_Try, e_tryO, e_tru, e_While, e_abs, e_max2, e_min2, e_gSq2, e_tup1, e_lst1, e_tup2, e_lst2, e_tup3, e_lst3, e_tup4, e_lst4, e_tup5, e_lst5, e_tup6, e_lst6, e_tup7, e_lst7, e_tup8, e_lst8, e]
  obtain ⟨m1, p2, s1, g1⟩ := lS1_ok (S := some (.sh S)) hm
  obtain ⟨p3, p4, s2⟩ := lS2_ok (S := some (.sh S)) (o2 := some (.ow m1)) (o3 := p2)
  obtain ⟨p5, s3⟩ := lS3_ok (S := some (.sh S)) (o2 := some (.ow m1)) (o3 := p2) (o4 := p3) (o6 := p4)
  obtain ⟨q4, s4⟩ := lS4_ok (S := some (.sh S)) (o2 := some (.ow m1)) (o3 := p2) (o4 := p3) (o6 := p4) (o5 := p5)
  obtain ⟨m2, r, s5, g2⟩ := lS5_ok (S := some (.sh S)) (o2 := p2) (o3 := p3) (o4 := q4) (o5 := p5) g1
  obtain ⟨m3, p7, p8, s6, g3⟩ := lS6_ok (S := some (.sh S)) (o2 := p2) (o3 := p3) (o4 := q4) (o5 := p5) g2 r
  obtain ⟨m4, x, s7, g4, hx⟩ := lS7_ok (S := some (.sh S)) (o2 := p2) (o3 := p3) (o4 := q4) (o5 := p5) (o6 := some (.sh (.int r))) (o7 := p7) (o8 := p8) g3
  obtain ⟨p, s8⟩ := lS8_ok (S := some (.sh S)) (o2 := some (.ow m4)) (o3 := p2) (o4 := p3) (o5 := q4) (o6 := p5) (o7 := some (.sh (.int r))) (o8 := p7) (o9 := p8) hx
  refine (e_run [] 10 _ _ rfl).trans ?_
  rw [law_cut, show startE 10 [.sh S] = [some (.sh S), none, none, none, none, none, none, none, none, none] from rfl, seq_ok s0, seq_ok s1, seq_ok s2, seq_ok s3, seq_ok s4, seq_ok s5, seq_ok s6, seq_ok s7, seq_ok s8]
  rfl
end L01
set_option Elab.async false
set_option linter.all false
set_option maxRecDepth 100000
set_option maxHeartbeats 4000000
namespace L01
open PySem PySem.Spec L2 Rf
def top (i : Nat) : Stmt := PySem.Challenge.pw_whosetomorrow_k01_whole_words_told_from.main.body.getD i (.Pass ⟨0, 0, 0, 0⟩)
structure Txt (K : PySem.W.Frag) (mg : Str → Option Value) (C : Nat → Addr) : Prop where
  b_all : mg "all" = none
  b_bool : mg "bool" = none
  b_int : mg "int" = none
  b_isinstance : mg "isinstance" = none
  b_len : mg "len" = none
  b_range : mg "range" = none
  b_repr : mg "repr" = none
  b_str : mg "str" = none
  b_tuple : mg "tuple" = none
  x_BadWord : ExF K mg (C 1) "BadWord"
  sb : ∀ i j b, subT i j = some b → PySem.W.exmOne K (.ref (C i)) (.ref (C j)) = some b
  g_LETTERS : GC K mg C "LETTERS" g_LETTERS
  g_MOST_STEP : GC K mg C "MOST_STEP" g_MOST_STEP
  g_UNKNOWN : GC K mg C "UNKNOWN" g_UNKNOWN
  t_SINGLE_WORDS : KG K mg "SINGLE_WORDS" tab_SINGLE_WORDS
  g_STEP_WORDS : GC K mg C "STEP_WORDS" g_STEP_WORDS
  g_WEEKDAY_WORDS : GC K mg C "WEEKDAY_WORDS" g_WEEKDAY_WORDS
  g_INNER_WORDS : GC K mg C "INNER_WORDS" g_INNER_WORDS
  d__law_hand : Df K mg "_law_hand" (top 20) ["_law_script"]
  d__law_mixed : Df K mg "_law_mixed" (top 21) ["_law_number", "_law_turn"]
  d__law_take : Df K mg "_law_take" (top 22) ["_law_hand_here", "_law_many"]
  d__law_name : Df K mg "_law_name" (top 23) ["_law_hand_here"]
  d__law_whole : Df K mg "_law_whole" (top 24) ["_law_thing_here"]
  d__law_letters : Df K mg "_law_letters" (top 26) ["_law_thing_here"]
  d__law_kind : Df K mg "_law_kind" (top 27) ["_law_thing_here"]
  d_is_whole : Df K mg "is_whole" (top 11) ["thing"]
  d_is_name : Df K mg "is_name" (top 12) ["thing"]
  d_find_kind : Df K mg "find_kind" (top 13) ["thing"]
  d_kind_of : Df K mg "kind_of" (top 14) ["word"]
  d_check_word : Df K mg "check_word" (top 15) ["word"]
  d_is_unknown : Df K mg "is_unknown" (top 16) ["word"]
  d_is_absolute : Df K mg "is_absolute" (top 18) ["word"]
  d_needs_report : Df K mg "needs_report" (top 17) ["word"]
  d__law_asked : Df K mg "_law_asked" (top 30) ["_law_thing_here"]
  d__law_unlike : Df K mg "_law_unlike" (top 25) ["_law_told", "_law_due"]
  d__law_inside : Df K mg "_law_inside" (top 28) ["_law_word"]
  d__law_right : Df K mg "_law_right" (top 31) ["_law_thing_here"]
  d__law_odd_word : Df K mg "_law_odd_word" (top 29) ["_law_hand_here"]
  d__law_thing : Df K mg "_law_thing" (top 32) ["_law_hand_here"]
  d_law : Df K mg "law" (top 33) ["_law_script"]
section
variable {P : Program} {w : World} {K : PySem.W.Frag} {mg : Str → Option Value} {base : Heap} {C : Nat → Addr}
abbrev s__law_hand : Stmt := top 20
def N__law_hand : List Str := ["_law_script", "_law_total", "_law_cells", "_law_cell"]
theorem sc__law_hand : FnScope N__law_hand ["_law_script"] (defScope s__law_hand) := ⟨rfl, rfl, rfl, by decide +kernel, rfl, by decide +kernel, by decide +kernel⟩
theorem k__law_hand (T : Txt K mg C) : Fk P w K mg base C "_law_hand" 1 1 m__law_hand := fk_of T.d__law_hand sc__law_hand [] (by decide) fun f cdv A outer s H E ad hr =>
  dss_cons (ds_set (i := 1) sc__law_hand.nd (de_add (de_B cr_lenS vb_len rfl T.b_len (by decide +kernel) (da_cons (de_var 0) (da_nil))) (de_int)))
  (dss_cons (ds_own (i := 2) sc__law_hand.nd (df_list (da_nil)))
  (dss_cons (ds_for (passes_of rfl) rfl (di_seq (de_var 0)) (dg_name (i := 3) sc__law_hand.nd rfl (by first | exact Or.inl rfl | exact Or.inr rfl) rfl) (dss_cons (ds_set (i := 1) sc__law_hand.nd (de_mod (de_T call_int1 vb_int rfl T.b_int (by decide +kernel) (da_cons (de_add (de_mul (de_var 1) (de_int)) (de_T call_int1 vb_int rfl T.b_int (by decide +kernel) (da_cons (de_var 3) (da_nil)))) (da_nil))) (de_int)))
  (dss_one (ds_app 2 (de_if (dt_c .ge (hu65 hr) (de_var 3) (de_int)) (de_T call_int1 vb_int rfl T.b_int (by decide +kernel) (da_cons (de_var 3) (da_nil))) (de_neg (de_T call_int1 vb_int rfl T.b_int (by decide +kernel) (da_cons (de_var 3) (da_nil)))))))))
  (dss_one (ds_retF (df_list (da_cons (de_var 2) (da_cons (de_int) (da_cons (de_int) (da_cons (de_var 1) (da_nil))))))))))
abbrev s__law_mixed : Stmt := top 21
def N__law_mixed : List Str := ["_law_number", "_law_turn", "_law_once", "_law_twice"]
theorem sc__law_mixed : FnScope N__law_mixed ["_law_number", "_law_turn"] (defScope s__law_mixed) := ⟨rfl, rfl, rfl, by decide +kernel, rfl, by decide +kernel, by decide +kernel⟩
theorem k__law_mixed (T : Txt K mg C) : Fk P w K mg base C "_law_mixed" 2 1 m__law_mixed := fk_of T.d__law_mixed sc__law_mixed [] (by decide) fun f cdv A outer s H E ad hr =>
  dss_cons (ds_set (i := 2) sc__law_mixed.nd (de_mod (de_T call_int1 vb_int rfl T.b_int (by decide +kernel) (da_cons (de_add (de_add (de_mul (de_var 0) (de_int)) (de_mul (de_var 1) (de_int))) (de_int)) (da_nil))) (de_int)))
  (dss_cons (ds_set (i := 3) sc__law_mixed.nd (de_mod (de_T call_int1 vb_int rfl T.b_int (by decide +kernel) (da_cons (de_add (de_add (de_mul (de_var 2) (de_var 2)) (de_mul (de_var 1) (de_int))) (de_div (de_var 2) (de_int))) (da_nil))) (de_int)))
  (dss_one (ds_ret (de_div (de_T call_int1 vb_int rfl T.b_int (by decide +kernel) (da_cons (de_mod (de_T call_int1 vb_int rfl T.b_int (by decide +kernel) (da_cons (de_add (de_mul (de_var 3) (de_int)) (de_div (de_var 2) (de_int))) (da_nil))) (de_int)) (da_nil))) (de_int)))))
abbrev s__law_take : Stmt := top 22
def N__law_take : List Str := ["_law_hand_here", "_law_many", "_law_cell", "_law_rest"]
theorem sc__law_take : FnScope N__law_take ["_law_hand_here", "_law_many"] (defScope s__law_take) := ⟨rfl, rfl, rfl, by decide +kernel, rfl, by decide +kernel, by decide +kernel⟩
theorem k__law_take (T : Txt K mg C) (K__law_mixed : Fk P w K mg base C "_law_mixed" 2 1 m__law_mixed) : Fk P w K mg base C "_law_take" 2 2 m__law_take := fk_of T.d__law_take sc__law_take [0] (by decide) fun f cdv A outer s H E ad hr =>
  dss_cons (ds_if (dt_w (dw_and (dt_c .eq (hu65 hr) (de_ixO 0 (de_int)) (de_int)) (dw_and1 (dt_c .lt (hu65 hr) (de_ixO 0 (de_int)) (de_B cr_lenS vb_len rfl T.b_len (by decide +kernel) (da_cons (de_ixO 0 (de_int)) (da_nil))))))) (dss_cons (ds_set (i := 2) sc__law_take.nd (de_ix (de_ixO 0 (de_int)) (de_ixO 0 (de_int))))
  (dss_cons (ds_sub 0 (de_add (de_ixO 0 (de_int)) (de_int)) (de_int))
  (dss_cons (ds_if (dt_c .lt (hu65 hr) (de_var 2) (de_pow (de_int) (de_int))) (dss_one (ds_ret (de_mod (de_T call_int1 vb_int rfl T.b_int (by decide +kernel) (da_cons (de_call (K__law_mixed.callee (hr.mono (by decide))) (takes_of rfl rfl rfl rfl) (dag_val (de_mod (de_T call_int1 vb_int rfl T.b_int (by decide +kernel) (da_cons (de_var 2) (da_nil))) (de_int)) (dag_val (de_ixO 0 (de_int)) (dag_nil))) (many_val (many_val (many_nil)))) (da_nil))) (de_var 1)))) (dss_nil))
  (dss_one (ds_sub 0 (de_var 2) (de_int)))))) (dss_nil))
  (dss_cons (ds_if (dt_c .gt (hu65 hr) (de_ixO 0 (de_int)) (de_int)) (dss_cons (ds_set (i := 3) sc__law_take.nd (de_ixO 0 (de_int)))
  (dss_cons (ds_sub 0 (de_div (de_T call_int1 vb_int rfl T.b_int (by decide +kernel) (da_cons (de_var 3) (da_nil))) (de_var 1)) (de_int))
  (dss_one (ds_ret (de_mod (de_T call_int1 vb_int rfl T.b_int (by decide +kernel) (da_cons (de_var 3) (da_nil))) (de_var 1)))))) (dss_nil))
  (dss_cons (ds_sub 0 (de_mod (de_T call_int1 vb_int rfl T.b_int (by decide +kernel) (da_cons (de_add (de_ixO 0 (de_int)) (de_int)) (da_nil))) (de_int)) (de_int))
  (dss_one (ds_ret (de_mod (de_T call_int1 vb_int rfl T.b_int (by decide +kernel) (da_cons (de_call (K__law_mixed.callee (hr.mono (by decide))) (takes_of rfl rfl rfl rfl) (dag_val (de_ixO 0 (de_int)) (dag_val (de_ixO 0 (de_int)) (dag_nil))) (many_val (many_val (many_nil)))) (da_nil))) (de_var 1))))))
abbrev s__law_name : Stmt := top 23
def N__law_name : List Str := ["_law_hand_here", "_law_text", "_law_turn"]
theorem sc__law_name : FnScope N__law_name ["_law_hand_here"] (defScope s__law_name) := ⟨rfl, rfl, rfl, by decide +kernel, rfl, by decide +kernel, by decide +kernel⟩
theorem k__law_name (T : Txt K mg C) (K__law_take : Fk P w K mg base C "_law_take" 2 2 m__law_take) : Fk P w K mg base C "_law_name" 1 3 m__law_name := fk_of T.d__law_name sc__law_name [0] (by decide) fun f cdv A outer s H E ad hr =>
  dss_cons (ds_set (i := 1) sc__law_name.nd (de_str))
  (dss_cons (ds_for (passes_of rfl) rfl (di_rng1 rfl T.b_range (de_add (de_int) (de_call (K__law_take.callee (hr.mono (by decide))) (takes_of rfl rfl rfl rfl) (dag_io 0 (dag_val (de_int) (dag_nil))) (many_io (many_val (many_nil)))))) (dg_name (i := 2) sc__law_name.nd rfl (by first | exact Or.inl rfl | exact Or.inr rfl) rfl) (dss_one (ds_set (i := 1) sc__law_name.nd (de_add (de_var 1) (de_ix (de_str) (de_call (K__law_take.callee (hr.mono (by decide))) (takes_of rfl rfl rfl rfl) (dag_io 0 (dag_val (de_int) (dag_nil))) (many_io (many_val (many_nil)))))))))
  (dss_one (ds_ret (de_var 1))))
abbrev s__law_whole : Stmt := top 24
def N__law_whole : List Str := ["_law_thing_here"]
theorem sc__law_whole : FnScope N__law_whole ["_law_thing_here"] (defScope s__law_whole) := ⟨rfl, rfl, rfl, by decide +kernel, rfl, by decide +kernel, by decide +kernel⟩
theorem k__law_whole (T : Txt K mg C) : Fk P w K mg base C "_law_whole" 1 1 m__law_whole := fk_of T.d__law_whole sc__law_whole [] (by decide) fun f cdv A outer s H E ad hr =>
  dss_one (ds_ret (de_and (de_isT (T := "int") rfl T.b_isinstance (by decide +kernel) rfl T.b_int (by decide +kernel) (de_var 0)) (de_one (de_not (de_isT (T := "bool") rfl T.b_isinstance (by decide +kernel) rfl T.b_bool (by decide +kernel) (de_var 0))))))
abbrev s__law_letters : Stmt := top 26
def N__law_letters : List Str := ["_law_thing_here", "_law_sign"]
theorem sc__law_letters : FnScope N__law_letters ["_law_thing_here"] (defScope s__law_letters) := ⟨rfl, rfl, rfl, by decide +kernel, rfl, by decide +kernel, by decide +kernel⟩
theorem k__law_letters (T : Txt K mg C) : Fk P w K mg base C "_law_letters" 1 1 m__law_letters := fk_of T.d__law_letters sc__law_letters [] (by decide) fun f cdv A outer s H E ad hr =>
  dss_one (ds_ret (de_and (de_isT (T := "str") rfl T.b_isinstance (by decide +kernel) rfl T.b_str (by decide +kernel) (de_var 0)) (de_and (de_chain .lt .lt (hu65 hr) (de_int) (de_B cr_lenS vb_len rfl T.b_len (by decide +kernel) (da_cons (de_var 0) (da_nil))) (de_int)) (de_one (de_B (cr_all rfl) vb_all rfl T.b_all (by decide +kernel) (da_cons (de_of (df_lc (own := [("_law_sign", 1)]) (sl := [1]) rfl sc__law_letters.nd (di_seq (de_var 0)) (blkOk_by (N := N__law_letters) (sc := defScope s__law_letters) (by decide +kernel)) (by decide) (fun _ _ _ _ _ => dg_name (i := 1) sc__law_letters.nd rfl (by first | exact Or.inl rfl | exact Or.inr rfl) rfl) (fun _ _ _ _ _ => dts_nil) (fun _ _ _ _ _ => de_c .in_ (hu65 hr) (de_var 1) (de_str)))) (da_nil)))))))
abbrev s__law_kind : Stmt := top 27
def N__law_kind : List Str := ["_law_thing_here", "_law_kind_here", "_law_heads", "_law_low", "_law_high"]
theorem sc__law_kind : FnScope N__law_kind ["_law_thing_here"] (defScope s__law_kind) := ⟨rfl, rfl, rfl, by decide +kernel, rfl, by decide +kernel, by decide +kernel⟩
theorem k__law_kind (T : Txt K mg C) (K__law_whole : Fk P w K mg base C "_law_whole" 1 1 m__law_whole) (K__law_letters : Fk P w K mg base C "_law_letters" 1 1 m__law_letters) : Fk P w K mg base C "_law_kind" 1 2 m__law_kind := fk_of T.d__law_kind sc__law_kind [] (by decide) fun f cdv A outer s H E ad hr =>
  dss_cons (ds_if (dt_w (dw_or (dt_not (dt_tru (de_isT (T := "tuple") rfl T.b_isinstance (by decide +kernel) rfl T.b_tuple (by decide +kernel) (de_var 0)))) (dw_or (dt_c .eq (hu65 hr) (de_B cr_lenS vb_len rfl T.b_len (by decide +kernel) (da_cons (de_var 0) (da_nil))) (de_int)) (dw_or (dt_c .gt (hu65 hr) (de_B cr_lenS vb_len rfl T.b_len (by decide +kernel) (da_cons (de_var 0) (da_nil))) (de_int)) (dw_or1 (dt_not (dt_tru (de_isT (T := "str") rfl T.b_isinstance (by decide +kernel) rfl T.b_str (by decide +kernel) (de_ix (de_var 0) (de_int)))))))))) (dss_one (ds_ret (de_non))) (dss_nil))
  (dss_cons (ds_if (dt_c .eq (hu65 hr) (de_B cr_lenS vb_len rfl T.b_len (by decide +kernel) (da_cons (de_var 0) (da_nil))) (de_int)) (dss_cons (ds_for (passes_of rfl) rfl (di_seq (de_list (da_cons (de_tuple (da_cons (de_str) (da_cons (de_list (da_cons (de_str) (da_cons (de_str) (da_cons (de_str) (da_cons (de_str) (da_cons (de_str) (da_nil))))))) (da_nil)))) (da_cons (de_tuple (da_cons (de_str) (da_cons (de_list (da_cons (de_str) (da_nil))) (da_nil)))) (da_cons (de_tuple (da_cons (de_str) (da_cons (de_list (da_cons (de_str) (da_cons (de_str) (da_cons (de_str) (da_nil))))) (da_nil)))) (da_nil)))))) (dg_seq rfl (dgs_cons (dg_name (i := 1) sc__law_kind.nd rfl (by first | exact Or.inl rfl | exact Or.inr rfl) rfl) (dgs_cons (dg_name (i := 2) sc__law_kind.nd rfl (by first | exact Or.inl rfl | exact Or.inr rfl) rfl) (dgs_nil)))) (dss_one (ds_if (dt_c .in_ (hu65 hr) (de_ix (de_var 0) (de_int)) (de_var 2)) (dss_one (ds_ret (de_var 1))) (dss_nil))))
  (dss_one (ds_ret (de_non)))) (dss_nil))
  (dss_cons (ds_if (dt_w (dw_or (dt_c .eq (hu65 hr) (de_ix (de_var 0) (de_int)) (de_str)) (dw_or1 (dt_c .eq (hu65 hr) (de_ix (de_var 0) (de_int)) (de_str))))) (dss_one (ds_ret (de_if (dt_tru (de_call (K__law_letters.callee (hr.mono (by decide))) (takes_of rfl rfl rfl rfl) (dag_val (de_ix (de_var 0) (de_int)) (dag_nil)) (many_val (many_nil)))) (de_ixB (de_list (da_cons (de_str) (da_cons (de_str) (da_nil)))) (de_c .eq (hu65 hr) (de_ix (de_var 0) (de_int)) (de_str))) (de_non)))) (dss_nil))
  (dss_cons (ds_if (dt_not (dt_tru (de_call (K__law_whole.callee (hr.mono (by decide))) (takes_of rfl rfl rfl rfl) (dag_val (de_ix (de_var 0) (de_int)) (dag_nil)) (many_val (many_nil))))) (dss_one (ds_ret (de_non))) (dss_nil))
  (dss_cons (ds_asg (de_tuple (da_cons (de_neg (de_int)) (da_cons (de_int) (da_nil)))) (dg_seq rfl (dgs_cons (dg_name (i := 3) sc__law_kind.nd rfl (by first | exact Or.inl rfl | exact Or.inr rfl) rfl) (dgs_cons (dg_name (i := 4) sc__law_kind.nd rfl (by first | exact Or.inl rfl | exact Or.inr rfl) rfl) (dgs_nil)))))
  (dss_cons (ds_if (dt_c .eq (hu65 hr) (de_ix (de_var 0) (de_int)) (de_str)) (dss_one (ds_ret (de_str))) (dss_nil))
  (dss_cons (ds_if (dt_c .in_ (hu65 hr) (de_ix (de_var 0) (de_int)) (de_list (da_cons (de_str) (da_cons (de_str) (da_cons (de_str) (da_cons (de_str) (da_nil))))))) (dss_one (ds_asg (de_tuple (da_cons (de_int) (da_cons (de_int) (da_nil)))) (dg_seq rfl (dgs_cons (dg_name (i := 3) sc__law_kind.nd rfl (by first | exact Or.inl rfl | exact Or.inr rfl) rfl) (dgs_cons (dg_name (i := 4) sc__law_kind.nd rfl (by first | exact Or.inl rfl | exact Or.inr rfl) rfl) (dgs_nil)))))) (dss_one (ds_if (dt_c .notIn (hu65 hr) (de_ix (de_var 0) (de_int)) (de_list (da_cons (de_str) (da_cons (de_str) (da_nil))))) (dss_one (ds_ret (de_non))) (dss_nil))))
  (dss_one (ds_ret (de_if (dt_chain .le .le (hu65 hr) (de_var 3) (de_ix (de_var 0) (de_int)) (de_var 4)) (de_str) (de_non))))))))))
abbrev s_is_whole : Stmt := top 11
def N_is_whole : List Str := ["thing"]
theorem sc_is_whole : FnScope N_is_whole ["thing"] (defScope s_is_whole) := ⟨rfl, rfl, rfl, by decide +kernel, rfl, by decide +kernel, by decide +kernel⟩
theorem k_is_whole (T : Txt K mg C) : Fk P w K mg base C "is_whole" 1 1 m_is_whole := fk_of T.d_is_whole sc_is_whole [] (by decide) fun f cdv A outer s H E ad hr =>
  dss_one (ds_ret (de_and (de_isT (T := "int") rfl T.b_isinstance (by decide +kernel) rfl T.b_int (by decide +kernel) (de_var 0)) (de_one (de_not (de_isT (T := "bool") rfl T.b_isinstance (by decide +kernel) rfl T.b_bool (by decide +kernel) (de_var 0))))))
abbrev s_is_name : Stmt := top 12
def N_is_name : List Str := ["thing", "sign"]
theorem sc_is_name : FnScope N_is_name ["thing"] (defScope s_is_name) := ⟨rfl, rfl, rfl, by decide +kernel, rfl, by decide +kernel, by decide +kernel⟩
theorem k_is_name (T : Txt K mg C) : Fk P w K mg base C "is_name" 1 1 m_is_name := fk_of T.d_is_name sc_is_name [] (by decide) fun f cdv A outer s H E ad hr =>
  dss_cons (ds_if (dt_w (dw_or (dt_not (dt_tru (de_isT (T := "str") rfl T.b_isinstance (by decide +kernel) rfl T.b_str (by decide +kernel) (de_var 0)))) (dw_or1 (dt_not (dt_chain .le .le (hu65 hr) (de_int) (de_B cr_lenS vb_len rfl T.b_len (by decide +kernel) (da_cons (de_var 0) (da_nil))) (de_int)))))) (dss_one (ds_ret (de_bl))) (dss_nil))
  (dss_one (ds_ret (de_B (cr_all rfl) vb_all rfl T.b_all (by decide +kernel) (da_cons (de_of (df_lc (own := [("sign", 1)]) (sl := [1]) rfl sc_is_name.nd (di_seq (de_var 0)) (blkOk_by (N := N_is_name) (sc := defScope s_is_name) (by decide +kernel)) (by decide) (fun _ _ _ _ _ => dg_name (i := 1) sc_is_name.nd rfl (by first | exact Or.inl rfl | exact Or.inr rfl) rfl) (fun _ _ _ _ _ => dts_nil) (fun _ _ _ _ _ => de_c .in_ (hu65 hr) (de_var 1) (de_glob T.g_LETTERS)))) (da_nil)))))
abbrev s_find_kind : Stmt := top 13
def N_find_kind : List Str := ["thing", "head", "rest"]
theorem sc_find_kind : FnScope N_find_kind ["thing"] (defScope s_find_kind) := ⟨rfl, rfl, rfl, by decide +kernel, rfl, by decide +kernel, by decide +kernel⟩
theorem k_find_kind (T : Txt K mg C) (K_is_whole : Fk P w K mg base C "is_whole" 1 1 m_is_whole) (K_is_name : Fk P w K mg base C "is_name" 1 1 m_is_name) : Fk P w K mg base C "find_kind" 1 2 m_find_kind := fk_of T.d_find_kind sc_find_kind [] (by decide) fun f cdv A outer s H E ad hr =>
  dss_cons (ds_if (dt_w (dw_or (dt_not (dt_tru (de_isT (T := "tuple") rfl T.b_isinstance (by decide +kernel) rfl T.b_tuple (by decide +kernel) (de_var 0)))) (dw_or (dt_not (dt_chain .le .le (hu65 hr) (de_int) (de_B cr_lenS vb_len rfl T.b_len (by decide +kernel) (da_cons (de_var 0) (da_nil))) (de_int))) (dw_or1 (dt_not (dt_tru (de_isT (T := "str") rfl T.b_isinstance (by decide +kernel) rfl T.b_str (by decide +kernel) (de_ix (de_var 0) (de_int))))))))) (dss_one (ds_ret (de_non))) (dss_nil))
  (dss_cons (ds_set (i := 1) sc_find_kind.nd (de_ix (de_var 0) (de_int)))
  (dss_cons (ds_if (dt_c .eq (hu65 hr) (de_B cr_lenS vb_len rfl T.b_len (by decide +kernel) (da_cons (de_var 0) (da_nil))) (de_int)) (dss_one (ds_ret (de_kgetG T.t_SINGLE_WORDS rfl (de_var 1) ⟨rfl, rfl, rfl, rfl⟩))) (dss_nil))
  (dss_cons (ds_set (i := 2) sc_find_kind.nd (de_ix (de_var 0) (de_int)))
  (dss_cons (ds_if (dt_c .eq (hu65 hr) (de_var 1) (de_str)) (dss_one (ds_ret (de_if (dt_tru (de_call (K_is_name.callee (hr.mono (by decide))) (takes_of rfl rfl rfl rfl) (dag_val (de_var 2) (dag_nil)) (many_val (many_nil)))) (de_str) (de_non)))) (dss_nil))
  (dss_cons (ds_if (dt_c .eq (hu65 hr) (de_var 1) (de_str)) (dss_one (ds_ret (de_if (dt_tru (de_call (K_is_name.callee (hr.mono (by decide))) (takes_of rfl rfl rfl rfl) (dag_val (de_var 2) (dag_nil)) (many_val (many_nil)))) (de_str) (de_non)))) (dss_nil))
  (dss_cons (ds_if (dt_not (dt_tru (de_call (K_is_whole.callee (hr.mono (by decide))) (takes_of rfl rfl rfl rfl) (dag_val (de_var 2) (dag_nil)) (many_val (many_nil))))) (dss_one (ds_ret (de_non))) (dss_nil))
  (dss_cons (ds_if (dt_c .eq (hu65 hr) (de_var 1) (de_str)) (dss_one (ds_ret (de_str))) (dss_nil))
  (dss_cons (ds_if (dt_c .in_ (hu65 hr) (de_var 1) (de_glob T.g_STEP_WORDS)) (dss_one (ds_ret (de_if (dt_chain .le .le (hu65 hr) (de_neg (de_glob T.g_MOST_STEP)) (de_var 2) (de_glob T.g_MOST_STEP)) (de_str) (de_non)))) (dss_nil))
  (dss_cons (ds_if (dt_c .in_ (hu65 hr) (de_var 1) (de_glob T.g_WEEKDAY_WORDS)) (dss_one (ds_ret (de_if (dt_chain .le .le (hu65 hr) (de_int) (de_var 2) (de_int)) (de_str) (de_non)))) (dss_nil))
  (dss_one (ds_ret (de_non))))))))))))
abbrev s_kind_of : Stmt := top 14
def N_kind_of : List Str := ["word", "kind"]
theorem sc_kind_of : FnScope N_kind_of ["word"] (defScope s_kind_of) := ⟨rfl, rfl, rfl, by decide +kernel, rfl, by decide +kernel, by decide +kernel⟩
theorem k_kind_of (T : Txt K mg C) (K_find_kind : Fk P w K mg base C "find_kind" 1 2 m_find_kind) : Fk P w K mg base C "kind_of" 1 3 m_kind_of := fk_of T.d_kind_of sc_kind_of [] (by decide) fun f cdv A outer s H E ad hr =>
  dss_cons (ds_set (i := 1) sc_kind_of.nd (de_call (K_find_kind.callee (hr.mono (by decide))) (takes_of rfl rfl rfl rfl) (dag_val (de_var 0) (dag_nil)) (many_val (many_nil))))
  (dss_cons (ds_if (dt_c .isN (hu65 hr) (de_var 1) (de_non)) (dss_one (ds_raise0 (c := 1) rfl (takes_of rfl rfl rfl rfl) (T.x_BadWord.pmk rfl))) (dss_nil))
  (dss_one (ds_ret (de_var 1))))
abbrev s_check_word : Stmt := top 15
def N_check_word : List Str := ["word"]
theorem sc_check_word : FnScope N_check_word ["word"] (defScope s_check_word) := ⟨rfl, rfl, rfl, by decide +kernel, rfl, by decide +kernel, by decide +kernel⟩
theorem k_check_word (T : Txt K mg C) (K_kind_of : Fk P w K mg base C "kind_of" 1 3 m_kind_of) : Fk P w K mg base C "check_word" 1 4 m_check_word := fk_of T.d_check_word sc_check_word [] (by decide) fun f cdv A outer s H E ad hr =>
  dss_cons (ds_expr (de_call (K_kind_of.callee (hr.mono (by decide))) (takes_of rfl rfl rfl rfl) (dag_val (de_var 0) (dag_nil)) (many_val (many_nil))))
  (dss_one (ds_ret (de_var 0)))
abbrev s_is_unknown : Stmt := top 16
def N_is_unknown : List Str := ["word"]
theorem sc_is_unknown : FnScope N_is_unknown ["word"] (defScope s_is_unknown) := ⟨rfl, rfl, rfl, by decide +kernel, rfl, by decide +kernel, by decide +kernel⟩
theorem k_is_unknown (T : Txt K mg C) (K_kind_of : Fk P w K mg base C "kind_of" 1 3 m_kind_of) : Fk P w K mg base C "is_unknown" 1 4 m_is_unknown := fk_of T.d_is_unknown sc_is_unknown [] (by decide) fun f cdv A outer s H E ad hr =>
  dss_cons (ds_expr (de_call (K_kind_of.callee (hr.mono (by decide))) (takes_of rfl rfl rfl rfl) (dag_val (de_var 0) (dag_nil)) (many_val (many_nil))))
  (dss_one (ds_ret (de_c .in_ (hu65 hr) (de_ix (de_var 0) (de_int)) (de_glob T.g_UNKNOWN))))
abbrev s_is_absolute : Stmt := top 18
def N_is_absolute : List Str := ["word"]
theorem sc_is_absolute : FnScope N_is_absolute ["word"] (defScope s_is_absolute) := ⟨rfl, rfl, rfl, by decide +kernel, rfl, by decide +kernel, by decide +kernel⟩
theorem k_is_absolute (T : Txt K mg C) (K_kind_of : Fk P w K mg base C "kind_of" 1 3 m_kind_of) : Fk P w K mg base C "is_absolute" 1 4 m_is_absolute := fk_of T.d_is_absolute sc_is_absolute [] (by decide) fun f cdv A outer s H E ad hr =>
  dss_cons (ds_expr (de_call (K_kind_of.callee (hr.mono (by decide))) (takes_of rfl rfl rfl rfl) (dag_val (de_var 0) (dag_nil)) (many_val (many_nil))))
  (dss_one (ds_ret (de_c .in_ (hu65 hr) (de_ix (de_var 0) (de_int)) (de_tuple (da_cons (de_str) (da_cons (de_str) (da_cons (de_str) (da_nil))))))))
abbrev s_needs_report : Stmt := top 17
def N_needs_report : List Str := ["word"]
theorem sc_needs_report : FnScope N_needs_report ["word"] (defScope s_needs_report) := ⟨rfl, rfl, rfl, by decide +kernel, rfl, by decide +kernel, by decide +kernel⟩
theorem k_needs_report (T : Txt K mg C) (K_kind_of : Fk P w K mg base C "kind_of" 1 3 m_kind_of) : Fk P w K mg base C "needs_report" 1 4 m_needs_report := fk_of T.d_needs_report sc_needs_report [] (by decide) fun f cdv A outer s H E ad hr =>
  dss_cons (ds_expr (de_call (K_kind_of.callee (hr.mono (by decide))) (takes_of rfl rfl rfl rfl) (dag_val (de_var 0) (dag_nil)) (many_val (many_nil))))
  (dss_one (ds_ret (de_c .in_ (hu65 hr) (de_ix (de_var 0) (de_int)) (de_glob T.g_INNER_WORDS))))
abbrev s__law_asked : Stmt := top 30
def N__law_asked : List Str := ["_law_thing_here", "_law_told", "_law_refused"]
theorem sc__law_asked : FnScope N__law_asked ["_law_thing_here"] (defScope s__law_asked) := ⟨rfl, rfl, rfl, by decide +kernel, rfl, by decide +kernel, by decide +kernel⟩
theorem k__law_asked (T : Txt K mg C) (K_kind_of : Fk P w K mg base C "kind_of" 1 3 m_kind_of) (K_check_word : Fk P w K mg base C "check_word" 1 4 m_check_word) (K_is_unknown : Fk P w K mg base C "is_unknown" 1 4 m_is_unknown) (K_is_absolute : Fk P w K mg base C "is_absolute" 1 4 m_is_absolute) (K_needs_report : Fk P w K mg base C "needs_report" 1 4 m_needs_report) : Fk P w K mg base C "_law_asked" 1 5 m__law_asked := fk_of T.d__law_asked sc__law_asked [] (by decide) fun f cdv A outer s H E ad hr =>
  dss_cons (ds_own (i := 1) sc__law_asked.nd (df_list (da_nil)))
  (dss_cons (ds_set (i := 2) sc__law_asked.nd (de_int))
  (dss_cons (ds_try (c := 1) rfl rfl (T.x_BadWord.names rfl) (takes_of rfl rfl rfl rfl) T.sb (fun W_ pn_ xe_ tk_ po_ => dss_one (ds_app 1 (de_call (K_kind_of.callee (hr.mono (by decide))) tk_ (dag_val (de_var 0) (dag_nil)) (many_val (many_nil))))) (fun a_ oe_ pn_ => dss_one (ds_set (i := 2) sc__law_asked.nd (de_add (de_var 2) (de_int)))))
  (dss_cons (ds_try (c := 1) rfl rfl (T.x_BadWord.names rfl) (takes_of rfl rfl rfl rfl) T.sb (fun W_ pn_ xe_ tk_ po_ => dss_one (ds_app 1 (de_call (K_check_word.callee (hr.mono (by decide))) tk_ (dag_val (de_var 0) (dag_nil)) (many_val (many_nil))))) (fun a_ oe_ pn_ => dss_one (ds_set (i := 2) sc__law_asked.nd (de_add (de_var 2) (de_int)))))
  (dss_cons (ds_try (c := 1) rfl rfl (T.x_BadWord.names rfl) (takes_of rfl rfl rfl rfl) T.sb (fun W_ pn_ xe_ tk_ po_ => dss_one (ds_app 1 (de_call (K_is_unknown.callee (hr.mono (by decide))) tk_ (dag_val (de_var 0) (dag_nil)) (many_val (many_nil))))) (fun a_ oe_ pn_ => dss_one (ds_set (i := 2) sc__law_asked.nd (de_add (de_var 2) (de_int)))))
  (dss_cons (ds_try (c := 1) rfl rfl (T.x_BadWord.names rfl) (takes_of rfl rfl rfl rfl) T.sb (fun W_ pn_ xe_ tk_ po_ => dss_one (ds_app 1 (de_call (K_is_absolute.callee (hr.mono (by decide))) tk_ (dag_val (de_var 0) (dag_nil)) (many_val (many_nil))))) (fun a_ oe_ pn_ => dss_one (ds_set (i := 2) sc__law_asked.nd (de_add (de_var 2) (de_int)))))
  (dss_cons (ds_try (c := 1) rfl rfl (T.x_BadWord.names rfl) (takes_of rfl rfl rfl rfl) T.sb (fun W_ pn_ xe_ tk_ po_ => dss_one (ds_app 1 (de_call (K_needs_report.callee (hr.mono (by decide))) tk_ (dag_val (de_var 0) (dag_nil)) (many_val (many_nil))))) (fun a_ oe_ pn_ => dss_one (ds_set (i := 2) sc__law_asked.nd (de_add (de_var 2) (de_int)))))
  (dss_one (ds_ret (de_list (da_cons (de_var 1) (da_cons (de_var 2) (da_nil))))))))))))
abbrev s__law_unlike : Stmt := top 25
def N__law_unlike : List Str := ["_law_told", "_law_due"]
theorem sc__law_unlike : FnScope N__law_unlike ["_law_told", "_law_due"] (defScope s__law_unlike) := ⟨rfl, rfl, rfl, by decide +kernel, rfl, by decide +kernel, by decide +kernel⟩
theorem k__law_unlike (T : Txt K mg C) : Fk P w K mg base C "_law_unlike" 2 1 m__law_unlike := fk_of T.d__law_unlike sc__law_unlike [] (by decide) fun f cdv A outer s H E ad hr =>
  dss_one (ds_ret (de_if (dt_tru (de_var 1)) (de_c .notB (hu65 hr) (de_var 0) (de_bl)) (de_c .notB (hu65 hr) (de_var 0) (de_bl))))
abbrev s__law_inside : Stmt := top 28
def N__law_inside : List Str := ["_law_word"]
theorem sc__law_inside : FnScope N__law_inside ["_law_word"] (defScope s__law_inside) := ⟨rfl, rfl, rfl, by decide +kernel, rfl, by decide +kernel, by decide +kernel⟩
theorem k__law_inside (T : Txt K mg C) : Fk P w K mg base C "_law_inside" 1 1 m__law_inside := fk_of T.d__law_inside sc__law_inside [] (by decide) fun f cdv A outer s H E ad hr =>
  dss_one (ds_ret (de_c .in_ (hu65 hr) (de_ix (de_var 0) (de_int)) (de_list (da_cons (de_str) (da_cons (de_str) (da_cons (de_str) (da_cons (de_str) (da_cons (de_str) (da_cons (de_str) (da_nil))))))))))
abbrev s__law_right : Stmt := top 31
def N__law_right : List Str := ["_law_thing_here", "_law_kind_here", "_law_told", "_law_refused", "_law_truth", "_law_due"]
theorem sc__law_right : FnScope N__law_right ["_law_thing_here"] (defScope s__law_right) := ⟨rfl, rfl, rfl, by decide +kernel, rfl, by decide +kernel, by decide +kernel⟩
theorem k__law_right (T : Txt K mg C) (K__law_kind : Fk P w K mg base C "_law_kind" 1 2 m__law_kind) (K__law_asked : Fk P w K mg base C "_law_asked" 1 5 m__law_asked) (K_find_kind : Fk P w K mg base C "find_kind" 1 2 m_find_kind) (K__law_unlike : Fk P w K mg base C "_law_unlike" 2 1 m__law_unlike) (K__law_inside : Fk P w K mg base C "_law_inside" 1 1 m__law_inside) : Fk P w K mg base C "_law_right" 1 6 m__law_right := fk_of T.d__law_right sc__law_right [] (by decide) fun f cdv A outer s H E ad hr =>
  dss_cons (ds_set (i := 1) sc__law_right.nd (de_call (K__law_kind.callee (hr.mono (by decide))) (takes_of rfl rfl rfl rfl) (dag_val (de_var 0) (dag_nil)) (many_val (many_nil))))
  (dss_cons (ds_if (dt_c .ne (hu65 hr) (de_call (K_find_kind.callee (hr.mono (by decide))) (takes_of rfl rfl rfl rfl) (dag_val (de_var 0) (dag_nil)) (many_val (many_nil))) (de_var 1)) (dss_one (ds_ret (de_bl))) (dss_nil))
  (dss_cons (ds_asg (de_call (K__law_asked.callee (hr.mono (by decide))) (takes_of rfl rfl rfl rfl) (dag_val (de_var 0) (dag_nil)) (many_val (many_nil))) (dg_seq rfl (dgs_cons (dg_name (i := 2) sc__law_right.nd rfl (by first | exact Or.inl rfl | exact Or.inr rfl) rfl) (dgs_cons (dg_name (i := 3) sc__law_right.nd rfl (by first | exact Or.inl rfl | exact Or.inr rfl) rfl) (dgs_nil)))))
  (dss_cons (ds_if (dt_c .isN (hu65 hr) (de_var 1) (de_non)) (dss_one (ds_ret (de_and (de_c .eq (hu65 hr) (de_var 2) (de_list (da_nil))) (de_one (de_c .eq (hu65 hr) (de_var 3) (de_int)))))) (dss_nil))
  (dss_cons (ds_if (dt_w (dw_or (dt_c .ne (hu65 hr) (de_var 3) (de_int)) (dw_or (dt_c .ne (hu65 hr) (de_ix (de_var 2) (de_int)) (de_var 1)) (dw_or (dt_c .ne (hu65 hr) (de_ix (de_var 2) (de_int)) (de_var 0)) (dw_or1 (dt_not (dt_tru (de_isT (T := "tuple") rfl T.b_isinstance (by decide +kernel) rfl T.b_tuple (by decide +kernel) (de_ix (de_var 2) (de_int)))))))))) (dss_one (ds_ret (de_bl))) (dss_nil))
  (dss_cons (ds_if (dt_w (dw_or (dt_c .ne (hu65 hr) (de_ix (de_var 2) (de_int)) (de_T call_tuple_of vb_tuple rfl T.b_tuple (by decide +kernel) (da_cons (de_var 0) (da_nil)))) (dw_or1 (dt_c .ne (hu65 hr) (de_B call_reprS vb_repr rfl T.b_repr (by decide +kernel) (da_cons (de_ix (de_ix (de_var 2) (de_int)) (de_neg (de_int))) (da_nil))) (de_B call_reprS vb_repr rfl T.b_repr (by decide +kernel) (da_cons (de_ix (de_var 0) (de_neg (de_int))) (da_nil))))))) (dss_one (ds_ret (de_bl))) (dss_nil))
  (dss_cons (ds_for (passes_of rfl) rfl (di_seq (de_list (da_cons (de_tuple (da_cons (de_ix (de_var 2) (de_int)) (da_cons (de_c .in_ (hu65 hr) (de_ix (de_var 0) (de_int)) (de_list (da_cons (de_str) (da_cons (de_str) (da_cons (de_str) (da_nil)))))) (da_nil)))) (da_cons (de_tuple (da_cons (de_ix (de_var 2) (de_int)) (da_cons (de_c .in_ (hu65 hr) (de_ix (de_var 0) (de_int)) (de_list (da_cons (de_str) (da_cons (de_str) (da_cons (de_str) (da_nil)))))) (da_nil)))) (da_cons (de_tuple (da_cons (de_ix (de_var 2) (de_int)) (da_cons (de_call (K__law_inside.callee (hr.mono (by decide))) (takes_of rfl rfl rfl rfl) (dag_val (de_var 0) (dag_nil)) (many_val (many_nil))) (da_nil)))) (da_nil)))))) (dg_seq rfl (dgs_cons (dg_name (i := 4) sc__law_right.nd rfl (by first | exact Or.inl rfl | exact Or.inr rfl) rfl) (dgs_cons (dg_name (i := 5) sc__law_right.nd rfl (by first | exact Or.inl rfl | exact Or.inr rfl) rfl) (dgs_nil)))) (dss_one (ds_if (dt_tru (de_call (K__law_unlike.callee (hr.mono (by decide))) (takes_of rfl rfl rfl rfl) (dag_val (de_var 4) (dag_val (de_var 5) (dag_nil))) (many_val (many_val (many_nil))))) (dss_one (ds_ret (de_bl))) (dss_nil))))
  (dss_one (ds_ret (de_bl)))))))))
abbrev s__law_odd_word : Stmt := top 29
def N__law_odd_word : List Str := ["_law_hand_here", "_law_way"]
theorem sc__law_odd_word : FnScope N__law_odd_word ["_law_hand_here"] (defScope s__law_odd_word) := ⟨rfl, rfl, rfl, by decide +kernel, rfl, by decide +kernel, by decide +kernel⟩
theorem k__law_odd_word (T : Txt K mg C) (K__law_take : Fk P w K mg base C "_law_take" 2 2 m__law_take) : Fk P w K mg base C "_law_odd_word" 1 3 m__law_odd_word := fk_of T.d__law_odd_word sc__law_odd_word [0] (by decide) fun f cdv A outer s H E ad hr =>
  dss_cons (ds_set (i := 1) sc__law_odd_word.nd (de_call (K__law_take.callee (hr.mono (by decide))) (takes_of rfl rfl rfl rfl) (dag_io 0 (dag_val (de_int) (dag_nil))) (many_io (many_val (many_nil)))))
  (dss_cons (ds_if (dt_c .lt (hu65 hr) (de_var 1) (de_int)) (dss_one (ds_ret (de_ix (de_list (da_cons (de_non) (da_cons (de_bl) (da_cons (de_int) (da_cons (de_str) (da_cons (de_list (da_cons (de_str) (da_nil))) (da_cons (de_tuple (da_cons (de_str) (da_cons (de_str) (da_nil)))) (da_cons (de_tuple (da_nil)) (da_cons (de_tuple (da_cons (de_str) (da_nil))) (da_cons (de_tuple (da_cons (de_str) (da_nil))) (da_cons (de_tuple (da_cons (de_str) (da_cons (de_int) (da_nil)))) (da_nil)))))))))))) (de_var 1)))) (dss_nil))
  (dss_cons (ds_if (dt_c .lt (hu65 hr) (de_var 1) (de_int)) (dss_one (ds_ret (de_ix (de_list (da_cons (de_tuple (da_cons (de_str) (da_cons (de_neg (de_int)) (da_nil)))) (da_cons (de_tuple (da_cons (de_str) (da_cons (de_int) (da_nil)))) (da_cons (de_tuple (da_cons (de_str) (da_cons (de_neg (de_int)) (da_nil)))) (da_cons (de_tuple (da_cons (de_str) (da_cons (de_str) (da_nil)))) (da_cons (de_tuple (da_cons (de_str) (da_cons (de_str) (da_nil)))) (da_nil))))))) (de_sub (de_var 1) (de_int))))) (dss_nil))
  (dss_one (ds_ret (de_ix (de_list (da_cons (de_tuple (da_cons (de_str) (da_cons (de_str) (da_nil)))) (da_cons (de_tuple (da_cons (de_str) (da_cons (de_str) (da_nil)))) (da_cons (de_tuple (da_cons (de_str) (da_cons (de_non) (da_nil)))) (da_cons (de_tuple (da_cons (de_int) (da_nil))) (da_cons (de_tuple (da_cons (de_str) (da_cons (de_int) (da_nil)))) (da_nil))))))) (de_sub (de_var 1) (de_int)))))))
abbrev s__law_thing : Stmt := top 32
def N__law_thing : List Str := ["_law_hand_here", "_law_singles", "_law_heads", "_law_way", "_law_head", "_law_name_here", "_law_numbers", "_law_others", "_law_rest"]
theorem sc__law_thing : FnScope N__law_thing ["_law_hand_here"] (defScope s__law_thing) := ⟨rfl, rfl, rfl, by decide +kernel, rfl, by decide +kernel, by decide +kernel⟩
theorem k__law_thing (T : Txt K mg C) (K__law_take : Fk P w K mg base C "_law_take" 2 2 m__law_take) (K__law_name : Fk P w K mg base C "_law_name" 1 3 m__law_name) (K__law_odd_word : Fk P w K mg base C "_law_odd_word" 1 3 m__law_odd_word) : Fk P w K mg base C "_law_thing" 1 4 m__law_thing := fk_of T.d__law_thing sc__law_thing [0] (by decide) fun f cdv A outer s H E ad hr =>
  dss_cons (ds_set (i := 1) sc__law_thing.nd (de_list (da_cons (de_str) (da_cons (de_str) (da_cons (de_str) (da_cons (de_str) (da_cons (de_str) (da_cons (de_str) (da_cons (de_str) (da_cons (de_str) (da_cons (de_str) (da_nil))))))))))))
  (dss_cons (ds_set (i := 2) sc__law_thing.nd (de_list (da_cons (de_str) (da_cons (de_str) (da_cons (de_str) (da_cons (de_str) (da_cons (de_str) (da_cons (de_str) (da_cons (de_str) (da_cons (de_str) (da_cons (de_str) (da_nil))))))))))))
  (dss_cons (ds_set (i := 3) sc__law_thing.nd (de_call (K__law_take.callee (hr.mono (by decide))) (takes_of rfl rfl rfl rfl) (dag_io 0 (dag_val (de_int) (dag_nil))) (many_io (many_val (many_nil)))))
  (dss_cons (ds_if (dt_c .eq (hu65 hr) (de_var 3) (de_int)) (dss_one (ds_ret (de_tuple (da_cons (de_ix (de_var 1) (de_call (K__law_take.callee (hr.mono (by decide))) (takes_of rfl rfl rfl rfl) (dag_io 0 (dag_val (de_int) (dag_nil))) (many_io (many_val (many_nil))))) (da_nil))))) (dss_nil))
  (dss_cons (ds_if (dt_c .eq (hu65 hr) (de_var 3) (de_int)) (dss_one (ds_ret (de_call (K__law_odd_word.callee (hr.mono (by decide))) (takes_of rfl rfl rfl rfl) (dag_io 0 (dag_nil)) (many_io (many_nil))))) (dss_nil))
  (dss_cons (ds_set (i := 4) sc__law_thing.nd (de_if (dt_c .lt (hu65 hr) (de_var 3) (de_int)) (de_ix (de_add (de_add (de_var 2) (de_var 1)) (de_list (da_cons (de_str) (da_cons (de_str) (da_cons (de_str) (da_nil)))))) (de_call (K__law_take.callee (hr.mono (by decide))) (takes_of rfl rfl rfl rfl) (dag_io 0 (dag_val (de_int) (dag_nil))) (many_io (many_val (many_nil))))) (de_ix (de_var 2) (de_call (K__law_take.callee (hr.mono (by decide))) (takes_of rfl rfl rfl rfl) (dag_io 0 (dag_val (de_int) (dag_nil))) (many_io (many_val (many_nil)))))))
  (dss_cons (ds_set (i := 5) sc__law_thing.nd (de_call (K__law_name.callee (hr.mono (by decide))) (takes_of rfl rfl rfl rfl) (dag_io 0 (dag_nil)) (many_io (many_nil))))
  (dss_cons (ds_set (i := 6) sc__law_thing.nd (de_list (da_cons (de_sub (de_call (K__law_take.callee (hr.mono (by decide))) (takes_of rfl rfl rfl rfl) (dag_io 0 (dag_val (de_int) (dag_nil))) (many_io (many_val (many_nil)))) (de_int)) (da_cons (de_sub (de_call (K__law_take.callee (hr.mono (by decide))) (takes_of rfl rfl rfl rfl) (dag_io 0 (dag_val (de_int) (dag_nil))) (many_io (many_val (many_nil)))) (de_int)) (da_cons (de_sub (de_call (K__law_take.callee (hr.mono (by decide))) (takes_of rfl rfl rfl rfl) (dag_io 0 (dag_val (de_mul (de_int) (de_pow (de_int) (de_int))) (dag_nil))) (many_io (many_val (many_nil)))) (de_pow (de_int) (de_int))) (da_nil))))))
  (dss_cons (ds_set (i := 7) sc__law_thing.nd (de_list (da_cons (de_var 5) (da_cons (de_var 5) (da_cons (de_int) (da_cons (de_neg (de_int)) (da_cons (de_int) (da_cons (de_int) (da_cons (de_bl) (da_cons (de_add (de_var 5) (de_str)) (da_cons (de_non) (da_cons (de_sl (de_var 5) (do_none) (do_some (de_neg (de_int)))) (da_cons (de_add (de_str) (de_sl (de_var 5) (do_some (de_int)) (do_none))) (da_cons (de_list (da_cons (de_int) (da_nil))) (da_cons (de_int) (da_cons (de_add (de_var 5) (de_str)) (da_nil)))))))))))))))))
  (dss_cons (ds_set (i := 8) sc__law_thing.nd (de_ix (de_add (de_var 6) (de_var 7)) (de_call (K__law_take.callee (hr.mono (by decide))) (takes_of rfl rfl rfl rfl) (dag_io 0 (dag_val (de_int) (dag_nil))) (many_io (many_val (many_nil))))))
  (dss_cons (ds_if (dt_c .eq (hu65 hr) (de_var 3) (de_int)) (dss_one (ds_ret (de_list (da_cons (de_var 4) (da_cons (de_var 8) (da_nil)))))) (dss_nil))
  (dss_one (ds_ret (de_if (dt_c .eq (hu65 hr) (de_var 3) (de_int)) (de_tuple (da_cons (de_var 4) (da_cons (de_var 8) (da_cons (de_var 8) (da_nil))))) (de_tuple (da_cons (de_var 4) (da_cons (de_var 8) (da_nil)))))))))))))))))
abbrev s_law : Stmt := top 33
def N_law : List Str := ["_law_script", "_law_hand_here", "_law_turn", "_law_weekday", "_law_head", "_law_step", "_law_number", "_law_thing_here", "_law_whole_here", "_law_name_here"]
theorem sc_law : FnScope N_law ["_law_script"] (defScope s_law) := ⟨rfl, rfl, rfl, by decide +kernel, rfl, by decide +kernel, by decide +kernel⟩
theorem k_law (T : Txt K mg C) (K__law_hand : Fk P w K mg base C "_law_hand" 1 1 m__law_hand) (K__law_name : Fk P w K mg base C "_law_name" 1 3 m__law_name) (K__law_take : Fk P w K mg base C "_law_take" 2 2 m__law_take) (K__law_whole : Fk P w K mg base C "_law_whole" 1 1 m__law_whole) (K__law_right : Fk P w K mg base C "_law_right" 1 6 m__law_right) (K__law_unlike : Fk P w K mg base C "_law_unlike" 2 1 m__law_unlike) (K__law_thing : Fk P w K mg base C "_law_thing" 1 4 m__law_thing) (K_is_whole : Fk P w K mg base C "is_whole" 1 1 m_is_whole) (K_is_name : Fk P w K mg base C "is_name" 1 1 m_is_name) (K__law_letters : Fk P w K mg base C "_law_letters" 1 1 m__law_letters) : FnOk P w K mg base (L2.CX P w) 7 T.d_law.f T.d_law.fd ["_law_script"] (spF K C 1 m_law) := fnok_of T.d_law sc_law [] (by decide) fun f cdv A outer s H E ad hr =>
  dss_cons (ds_own (i := 1) sc_law.nd (df_call (K__law_hand.callee (hr.mono (by decide))) (takes_of rfl rfl rfl rfl) (dag_val (de_var 0) (dag_nil)) (many_val (many_nil))))
  (dss_cons (ds_for (passes_of rfl) rfl (di_rng1 rfl T.b_range (de_int)) (dg_name (i := 2) sc_law.nd rfl (by first | exact Or.inl rfl | exact Or.inr rfl) rfl) (dss_one (ds_if (dt_not (dt_tru (de_call (K__law_right.callee (hr.mono (by decide))) (takes_of rfl rfl rfl rfl) (dag_val (de_call (K__law_thing.callee (hr.mono (by decide))) (takes_of rfl rfl rfl rfl) (dag_io 1 (dag_nil)) (many_io (many_nil))) (dag_nil)) (many_val (many_nil))))) (dss_one (ds_ret (de_bl))) (dss_nil))))
  (dss_cons (ds_for (passes_of rfl) rfl (di_rng2 rfl T.b_range (de_neg (de_int)) (de_int)) (dg_name (i := 3) sc_law.nd rfl (by first | exact Or.inl rfl | exact Or.inr rfl) rfl) (dss_one (ds_for (passes_of rfl) rfl (di_seq (de_list (da_cons (de_str) (da_cons (de_str) (da_cons (de_str) (da_cons (de_str) (da_nil))))))) (dg_name (i := 4) sc_law.nd rfl (by first | exact Or.inl rfl | exact Or.inr rfl) rfl) (dss_one (ds_if (dt_not (dt_tru (de_call (K__law_right.callee (hr.mono (by decide))) (takes_of rfl rfl rfl rfl) (dag_val (de_tuple (da_cons (de_var 4) (da_cons (de_var 3) (da_nil)))) (dag_nil)) (many_val (many_nil))))) (dss_one (ds_ret (de_bl))) (dss_nil))))))
  (dss_cons (ds_for (passes_of rfl) rfl (di_rng2 rfl T.b_range (de_neg (de_int)) (de_int)) (dg_name (i := 5) sc_law.nd rfl (by first | exact Or.inl rfl | exact Or.inr rfl) rfl) (dss_one (ds_if (dt_w (dw_or (dt_not (dt_tru (de_call (K__law_right.callee (hr.mono (by decide))) (takes_of rfl rfl rfl rfl) (dag_val (de_tuple (da_cons (de_str) (da_cons (de_var 5) (da_nil)))) (dag_nil)) (many_val (many_nil))))) (dw_or1 (dt_not (dt_tru (de_call (K__law_right.callee (hr.mono (by decide))) (takes_of rfl rfl rfl rfl) (dag_val (de_tuple (da_cons (de_str) (da_cons (de_var 5) (da_nil)))) (dag_nil)) (many_val (many_nil)))))))) (dss_one (ds_ret (de_bl))) (dss_nil))))
  (dss_cons (ds_for (passes_of rfl) rfl (di_seq (de_list (da_cons (de_str) (da_cons (de_str) (da_cons (de_str) (da_cons (de_str) (da_cons (de_str) (da_cons (de_str) (da_cons (de_str) (da_cons (de_str) (da_cons (de_str) (da_cons (de_str) (da_cons (de_str) (da_cons (de_str) (da_nil))))))))))))))) (dg_name (i := 4) sc_law.nd rfl (by first | exact Or.inl rfl | exact Or.inr rfl) rfl) (dss_one (ds_if (dt_w (dw_or (dt_not (dt_tru (de_call (K__law_right.callee (hr.mono (by decide))) (takes_of rfl rfl rfl rfl) (dag_val (de_tuple (da_cons (de_var 4) (da_nil))) (dag_nil)) (many_val (many_nil))))) (dw_or (dt_not (dt_tru (de_call (K__law_right.callee (hr.mono (by decide))) (takes_of rfl rfl rfl rfl) (dag_val (de_list (da_cons (de_var 4) (da_nil))) (dag_nil)) (many_val (many_nil))))) (dw_or1 (dt_not (dt_tru (de_call (K__law_right.callee (hr.mono (by decide))) (takes_of rfl rfl rfl rfl) (dag_val (de_var 4) (dag_nil)) (many_val (many_nil))))))))) (dss_one (ds_ret (de_bl))) (dss_nil))))
  (dss_cons (ds_set (i := 6) sc_law.nd (de_sub (de_call (K__law_take.callee (hr.mono (by decide))) (takes_of rfl rfl rfl rfl) (dag_io 1 (dag_val (de_mul (de_int) (de_pow (de_int) (de_int))) (dag_nil))) (many_io (many_val (many_nil)))) (de_pow (de_int) (de_int))))
  (dss_cons (ds_for (passes_of rfl) rfl (di_seq (de_list (da_cons (de_var 6) (da_cons (de_int) (da_cons (de_int) (da_cons (de_neg (de_int)) (da_cons (de_bl) (da_cons (de_bl) (da_cons (de_non) (da_cons (de_str) (da_cons (de_tuple (da_cons (de_int) (da_nil))) (da_cons (de_list (da_nil)) (da_cons (de_call (K__law_name.callee (hr.mono (by decide))) (takes_of rfl rfl rfl rfl) (dag_io 1 (dag_nil)) (many_io (many_nil))) (da_nil)))))))))))))) (dg_name (i := 7) sc_law.nd rfl (by first | exact Or.inl rfl | exact Or.inr rfl) rfl) (dss_cons (ds_set (i := 8) sc_law.nd (de_call (K__law_whole.callee (hr.mono (by decide))) (takes_of rfl rfl rfl rfl) (dag_val (de_var 7) (dag_nil)) (many_val (many_nil))))
  (dss_one (ds_if (dt_w (dw_or (dt_tru (de_call (K__law_unlike.callee (hr.mono (by decide))) (takes_of rfl rfl rfl rfl) (dag_val (de_call (K_is_whole.callee (hr.mono (by decide))) (takes_of rfl rfl rfl rfl) (dag_val (de_var 7) (dag_nil)) (many_val (many_nil))) (dag_val (de_var 8) (dag_nil))) (many_val (many_val (many_nil))))) (dw_or1 (dt_tru (de_call (K__law_unlike.callee (hr.mono (by decide))) (takes_of rfl rfl rfl rfl) (dag_val (de_call (K_is_name.callee (hr.mono (by decide))) (takes_of rfl rfl rfl rfl) (dag_val (de_var 7) (dag_nil)) (many_val (many_nil))) (dag_val (de_call (K__law_letters.callee (hr.mono (by decide))) (takes_of rfl rfl rfl rfl) (dag_val (de_var 7) (dag_nil)) (many_val (many_nil))) (dag_nil))) (many_val (many_val (many_nil)))))))) (dss_one (ds_ret (de_bl))) (dss_nil)))))
  (dss_cons (ds_set (i := 9) sc_law.nd (de_call (K__law_name.callee (hr.mono (by decide))) (takes_of rfl rfl rfl rfl) (dag_io 1 (dag_nil)) (many_io (many_nil))))
  (dss_cons (ds_for (passes_of rfl) rfl (di_seq (de_list (da_cons (de_var 9) (da_cons (de_add (de_var 9) (de_str)) (da_cons (de_add (de_var 9) (de_str)) (da_cons (de_add (de_str) (de_var 9)) (da_cons (de_str) (da_cons (de_mulS (de_ix (de_var 9) (de_int)) (de_int)) (da_cons (de_mulS (de_ix (de_var 9) (de_int)) (de_int)) (da_cons (de_add (de_str) (de_var 9)) (da_cons (de_tuple (da_cons (de_var 9) (da_nil))) (da_cons (de_str) (da_nil))))))))))))) (dg_name (i := 7) sc_law.nd rfl (by first | exact Or.inl rfl | exact Or.inr rfl) rfl) (dss_one (ds_if (dt_w (dw_or (dt_tru (de_call (K__law_unlike.callee (hr.mono (by decide))) (takes_of rfl rfl rfl rfl) (dag_val (de_call (K_is_name.callee (hr.mono (by decide))) (takes_of rfl rfl rfl rfl) (dag_val (de_var 7) (dag_nil)) (many_val (many_nil))) (dag_val (de_call (K__law_letters.callee (hr.mono (by decide))) (takes_of rfl rfl rfl rfl) (dag_val (de_var 7) (dag_nil)) (many_val (many_nil))) (dag_nil))) (many_val (many_val (many_nil))))) (dw_or1 (dt_tru (de_call (K__law_unlike.callee (hr.mono (by decide))) (takes_of rfl rfl rfl rfl) (dag_val (de_call (K_is_whole.callee (hr.mono (by decide))) (takes_of rfl rfl rfl rfl) (dag_val (de_var 7) (dag_nil)) (many_val (many_nil))) (dag_val (de_bl) (dag_nil))) (many_val (many_val (many_nil)))))))) (dss_one (ds_ret (de_bl))) (dss_nil))))
  (dss_one (ds_ret (de_bl)))))))))))
theorem k_all (T : Txt K mg C) : FnOk P w K mg base (L2.CX P w) 7 T.d_law.f T.d_law.fd ["_law_script"] (spF K C 1 m_law) := by
  have K__law_hand : Fk P w K mg base C "_law_hand" 1 1 m__law_hand := k__law_hand T
  have K__law_mixed : Fk P w K mg base C "_law_mixed" 2 1 m__law_mixed := k__law_mixed T
  have K__law_take : Fk P w K mg base C "_law_take" 2 2 m__law_take := k__law_take T K__law_mixed
  have K__law_name : Fk P w K mg base C "_law_name" 1 3 m__law_name := k__law_name T K__law_take
  have K__law_whole : Fk P w K mg base C "_law_whole" 1 1 m__law_whole := k__law_whole T
  have K__law_letters : Fk P w K mg base C "_law_letters" 1 1 m__law_letters := k__law_letters T
  have K__law_kind : Fk P w K mg base C "_law_kind" 1 2 m__law_kind := k__law_kind T K__law_whole K__law_letters
  have K_is_whole : Fk P w K mg base C "is_whole" 1 1 m_is_whole := k_is_whole T
  have K_is_name : Fk P w K mg base C "is_name" 1 1 m_is_name := k_is_name T
  have K_find_kind : Fk P w K mg base C "find_kind" 1 2 m_find_kind := k_find_kind T K_is_whole K_is_name
  have K_kind_of : Fk P w K mg base C "kind_of" 1 3 m_kind_of := k_kind_of T K_find_kind
  have K_check_word : Fk P w K mg base C "check_word" 1 4 m_check_word := k_check_word T K_kind_of
  have K_is_unknown : Fk P w K mg base C "is_unknown" 1 4 m_is_unknown := k_is_unknown T K_kind_of
  have K_is_absolute : Fk P w K mg base C "is_absolute" 1 4 m_is_absolute := k_is_absolute T K_kind_of
  have K_needs_report : Fk P w K mg base C "needs_report" 1 4 m_needs_report := k_needs_report T K_kind_of
  have K__law_asked : Fk P w K mg base C "_law_asked" 1 5 m__law_asked := k__law_asked T K_kind_of K_check_word K_is_unknown K_is_absolute K_needs_report
  have K__law_unlike : Fk P w K mg base C "_law_unlike" 2 1 m__law_unlike := k__law_unlike T
  have K__law_inside : Fk P w K mg base C "_law_inside" 1 1 m__law_inside := k__law_inside T
  have K__law_right : Fk P w K mg base C "_law_right" 1 6 m__law_right := k__law_right T K__law_kind K__law_asked K_find_kind K__law_unlike K__law_inside
  have K__law_odd_word : Fk P w K mg base C "_law_odd_word" 1 3 m__law_odd_word := k__law_odd_word T K__law_take
  have K__law_thing : Fk P w K mg base C "_law_thing" 1 4 m__law_thing := k__law_thing T K__law_take K__law_name K__law_odd_word
  exact k_law T K__law_hand K__law_name K__law_take K__law_whole K__law_right K__law_unlike K__law_thing K_is_whole K_is_name K__law_letters
end
end L01
set_option Elab.async false
set_option linter.all false
set_option maxRecDepth 100000
set_option maxHeartbeats 8000000
namespace L01
open PySem PySem.Spec L2 Rf
theorem txt_mk {K : PySem.W.Frag} {h : Heap} {mg : Str → Option Value} (X : K.In h) (G : h.Ns mainGlobals mg) {C1 g_UNKNOWN_a g_SINGLE_WORDS_a g_STEP_WORDS_a g_WEEKDAY_WORDS_a g_INNER_WORDS_a : Addr} {t_LETTERS_0 t_MOST_STEP_0 t_UNKNOWN_0 t_UNKNOWN_1 t_UNKNOWN_2 t_SINGLE_WORDS_0 t_SINGLE_WORDS_1 t_SINGLE_WORDS_2 t_SINGLE_WORDS_3 t_SINGLE_WORDS_4 t_SINGLE_WORDS_5 t_SINGLE_WORDS_6 t_SINGLE_WORDS_7 t_SINGLE_WORDS_8 t_SINGLE_WORDS_9 t_SINGLE_WORDS_10 t_SINGLE_WORDS_11 t_SINGLE_WORDS_12 t_SINGLE_WORDS_13 t_SINGLE_WORDS_14 t_SINGLE_WORDS_15 t_SINGLE_WORDS_16 t_SINGLE_WORDS_17 t_STEP_WORDS_0 t_STEP_WORDS_1 t_WEEKDAY_WORDS_0 t_WEEKDAY_WORDS_1 t_WEEKDAY_WORDS_2 t_WEEKDAY_WORDS_3 t_INNER_WORDS_0 t_INNER_WORDS_1 t_INNER_WORDS_2 t_INNER_WORDS_3 t_INNER_WORDS_4 t_INNER_WORDS_5 : Tok}
    {od_UNKNOWN : Option Addr} {sl_UNKNOWN : Array (Option Value)} {n_UNKNOWN : Nat}
    {n_SINGLE_WORDS : Nat} {h_SINGLE_WORDS_0 h_SINGLE_WORDS_1 h_SINGLE_WORDS_2 h_SINGLE_WORDS_3 h_SINGLE_WORDS_4 h_SINGLE_WORDS_5 h_SINGLE_WORDS_6 h_SINGLE_WORDS_7 h_SINGLE_WORDS_8 : Int}
    {od_STEP_WORDS : Option Addr} {sl_STEP_WORDS : Array (Option Value)} {n_STEP_WORDS : Nat}
    {od_WEEKDAY_WORDS : Option Addr} {sl_WEEKDAY_WORDS : Array (Option Value)} {n_WEEKDAY_WORDS : Nat}
    {od_INNER_WORDS : Option Addr} {sl_INNER_WORDS : Array (Option Value)} {n_INNER_WORDS : Nat}
    {f20 : Addr} {od20 an20 : Option Addr} {sl20 : Array (Option Value)} {oc20 kV20 dc20 pm20 cd20 ct20 : Value}
    {f21 : Addr} {od21 an21 : Option Addr} {sl21 : Array (Option Value)} {oc21 kV21 dc21 pm21 cd21 ct21 : Value}
    {f22 : Addr} {od22 an22 : Option Addr} {sl22 : Array (Option Value)} {oc22 kV22 dc22 pm22 cd22 ct22 : Value}
    {f23 : Addr} {od23 an23 : Option Addr} {sl23 : Array (Option Value)} {oc23 kV23 dc23 pm23 cd23 ct23 : Value}
    {f24 : Addr} {od24 an24 : Option Addr} {sl24 : Array (Option Value)} {oc24 kV24 dc24 pm24 cd24 ct24 : Value}
    {f26 : Addr} {od26 an26 : Option Addr} {sl26 : Array (Option Value)} {oc26 kV26 dc26 pm26 cd26 ct26 : Value}
    {f27 : Addr} {od27 an27 : Option Addr} {sl27 : Array (Option Value)} {oc27 kV27 dc27 pm27 cd27 ct27 : Value}
    {f11 : Addr} {od11 an11 : Option Addr} {sl11 : Array (Option Value)} {oc11 kV11 dc11 pm11 cd11 ct11 : Value}
    {f12 : Addr} {od12 an12 : Option Addr} {sl12 : Array (Option Value)} {oc12 kV12 dc12 pm12 cd12 ct12 : Value}
    {f13 : Addr} {od13 an13 : Option Addr} {sl13 : Array (Option Value)} {oc13 kV13 dc13 pm13 cd13 ct13 : Value}
    {f14 : Addr} {od14 an14 : Option Addr} {sl14 : Array (Option Value)} {oc14 kV14 dc14 pm14 cd14 ct14 : Value}
    {f15 : Addr} {od15 an15 : Option Addr} {sl15 : Array (Option Value)} {oc15 kV15 dc15 pm15 cd15 ct15 : Value}
    {f16 : Addr} {od16 an16 : Option Addr} {sl16 : Array (Option Value)} {oc16 kV16 dc16 pm16 cd16 ct16 : Value}
    {f18 : Addr} {od18 an18 : Option Addr} {sl18 : Array (Option Value)} {oc18 kV18 dc18 pm18 cd18 ct18 : Value}
    {f17 : Addr} {od17 an17 : Option Addr} {sl17 : Array (Option Value)} {oc17 kV17 dc17 pm17 cd17 ct17 : Value}
    {f30 : Addr} {od30 an30 : Option Addr} {sl30 : Array (Option Value)} {oc30 kV30 dc30 pm30 cd30 ct30 : Value}
    {f25 : Addr} {od25 an25 : Option Addr} {sl25 : Array (Option Value)} {oc25 kV25 dc25 pm25 cd25 ct25 : Value}
    {f28 : Addr} {od28 an28 : Option Addr} {sl28 : Array (Option Value)} {oc28 kV28 dc28 pm28 cd28 ct28 : Value}
    {f31 : Addr} {od31 an31 : Option Addr} {sl31 : Array (Option Value)} {oc31 kV31 dc31 pm31 cd31 ct31 : Value}
    {f29 : Addr} {od29 an29 : Option Addr} {sl29 : Array (Option Value)} {oc29 kV29 dc29 pm29 cd29 ct29 : Value}
    {f32 : Addr} {od32 an32 : Option Addr} {sl32 : Array (Option Value)} {oc32 kV32 dc32 pm32 cd32 ct32 : Value}
    {f33 : Addr} {od33 an33 : Option Addr} {sl33 : Array (Option Value)} {oc33 kV33 dc33 pm33 cd33 ct33 : Value}
    (zb_all : PySem.W.nsIn K mainGlobals "all" = some none)
    (zb_bool : PySem.W.nsIn K mainGlobals "bool" = some none)
    (zb_int : PySem.W.nsIn K mainGlobals "int" = some none)
    (zb_isinstance : PySem.W.nsIn K mainGlobals "isinstance" = some none)
    (zb_len : PySem.W.nsIn K mainGlobals "len" = some none)
    (zb_range : PySem.W.nsIn K mainGlobals "range" = some none)
    (zb_repr : PySem.W.nsIn K mainGlobals "repr" = some none)
    (zb_str : PySem.W.nsIn K mainGlobals "str" = some none)
    (zb_tuple : PySem.W.nsIn K mainGlobals "tuple" = some none)
    (xa1 : PySem.W.nsIn K mainGlobals "BadWord" = some (some (.ref C1)))
    (xq1 : PySem.W.excIn K C1 PySem.HandSPX.veTail "ValueError.__new__" = true)
    (xk1 : PySem.W.keepIn K (.ref C1) = true)
    (xb1 : PySem.W.subIn K (.ref C1) (.type "BaseException") = some true)
    (xt1 : PySem.W.typeIn K (.ref C1) = some (.type "type"))
    (xi1 : PySem.W.isClsIn K C1 = true)
    (xs1_1 : PySem.W.subIn K (.ref C1) (.ref C1) = some true)
    (gc_LETTERS : PySem.W.nsIn K mainGlobals "LETTERS" = some (some (.str "abcdefghijklmnopqrstuvwxyz" t_LETTERS_0)))
    (gc_MOST_STEP : PySem.W.nsIn K mainGlobals "MOST_STEP" = some (some (.int 30 t_MOST_STEP_0)))
    (gc_UNKNOWN : PySem.W.nsIn K mainGlobals "UNKNOWN" = some (some (.ref g_UNKNOWN_a)))
    (gl_UNKNOWN : K.lookup g_UNKNOWN_a = some ⟨.type "tuple", od_UNKNOWN, .seq #[(.str "somebody" t_UNKNOWN_0), (.str "one day" t_UNKNOWN_1), (.str "somewhere" t_UNKNOWN_2)] n_UNKNOWN, sl_UNKNOWN⟩)
    (gc_SINGLE_WORDS : PySem.W.nsIn K mainGlobals "SINGLE_WORDS" = some (some (.ref g_SINGLE_WORDS_a)))
    (gl_SINGLE_WORDS : K.lookup g_SINGLE_WORDS_a = some ⟨.type "dict", none, .dict #[⟨h_SINGLE_WORDS_0, (.str "I" t_SINGLE_WORDS_0), (.str "person" t_SINGLE_WORDS_1)⟩, ⟨h_SINGLE_WORDS_1, (.str "you" t_SINGLE_WORDS_2), (.str "person" t_SINGLE_WORDS_3)⟩, ⟨h_SINGLE_WORDS_2, (.str "self" t_SINGLE_WORDS_4), (.str "person" t_SINGLE_WORDS_5)⟩, ⟨h_SINGLE_WORDS_3, (.str "told" t_SINGLE_WORDS_6), (.str "person" t_SINGLE_WORDS_7)⟩, ⟨h_SINGLE_WORDS_4, (.str "somebody" t_SINGLE_WORDS_8), (.str "person" t_SINGLE_WORDS_9)⟩, ⟨h_SINGLE_WORDS_5, (.str "one day" t_SINGLE_WORDS_10), (.str "day" t_SINGLE_WORDS_11)⟩, ⟨h_SINGLE_WORDS_6, (.str "here" t_SINGLE_WORDS_12), (.str "place" t_SINGLE_WORDS_13)⟩, ⟨h_SINGLE_WORDS_7, (.str "there" t_SINGLE_WORDS_14), (.str "place" t_SINGLE_WORDS_15)⟩, ⟨h_SINGLE_WORDS_8, (.str "somewhere" t_SINGLE_WORDS_16), (.str "place" t_SINGLE_WORDS_17)⟩] n_SINGLE_WORDS, #[]⟩)
    (gs_SINGLE_WORDS : (g_SINGLE_WORDS_a == sysModules) = false)
    (gc_STEP_WORDS : PySem.W.nsIn K mainGlobals "STEP_WORDS" = some (some (.ref g_STEP_WORDS_a)))
    (gl_STEP_WORDS : K.lookup g_STEP_WORDS_a = some ⟨.type "tuple", od_STEP_WORDS, .seq #[(.str "today" t_STEP_WORDS_0), (.str "that day" t_STEP_WORDS_1)] n_STEP_WORDS, sl_STEP_WORDS⟩)
    (gc_WEEKDAY_WORDS : PySem.W.nsIn K mainGlobals "WEEKDAY_WORDS" = some (some (.ref g_WEEKDAY_WORDS_a)))
    (gl_WEEKDAY_WORDS : K.lookup g_WEEKDAY_WORDS_a = some ⟨.type "tuple", od_WEEKDAY_WORDS, .seq #[(.str "coming" t_WEEKDAY_WORDS_0), (.str "last" t_WEEKDAY_WORDS_1), (.str "then coming" t_WEEKDAY_WORDS_2), (.str "then last" t_WEEKDAY_WORDS_3)] n_WEEKDAY_WORDS, sl_WEEKDAY_WORDS⟩)
    (gc_INNER_WORDS : PySem.W.nsIn K mainGlobals "INNER_WORDS" = some (some (.ref g_INNER_WORDS_a)))
    (gl_INNER_WORDS : K.lookup g_INNER_WORDS_a = some ⟨.type "tuple", od_INNER_WORDS, .seq #[(.str "self" t_INNER_WORDS_0), (.str "told" t_INNER_WORDS_1), (.str "that day" t_INNER_WORDS_2), (.str "there" t_INNER_WORDS_3), (.str "then coming" t_INNER_WORDS_4), (.str "then last" t_INNER_WORDS_5)] n_INNER_WORDS, sl_INNER_WORDS⟩)
    (a20 : PySem.W.nsIn K mainGlobals "_law_hand" = some (some (.ref f20)))
    (l20 : K.lookup f20 = some ⟨oc20, od20, .func (PySem.W.fnOf "_law_hand" "_law_hand" (defArgs (top 20)) (defBody (top 20)) (defScope (top 20)) .none kV20 dc20 pm20 an20 cd20 ct20), sl20⟩)
    (c20 : PySem.W.codeIn K cd20 "_law_hand" = true)
    (k20 : PySem.W.keepIn K (.ref f20) = true)
    (a21 : PySem.W.nsIn K mainGlobals "_law_mixed" = some (some (.ref f21)))
    (l21 : K.lookup f21 = some ⟨oc21, od21, .func (PySem.W.fnOf "_law_mixed" "_law_mixed" (defArgs (top 21)) (defBody (top 21)) (defScope (top 21)) .none kV21 dc21 pm21 an21 cd21 ct21), sl21⟩)
    (c21 : PySem.W.codeIn K cd21 "_law_mixed" = true)
    (k21 : PySem.W.keepIn K (.ref f21) = true)
    (a22 : PySem.W.nsIn K mainGlobals "_law_take" = some (some (.ref f22)))
    (l22 : K.lookup f22 = some ⟨oc22, od22, .func (PySem.W.fnOf "_law_take" "_law_take" (defArgs (top 22)) (defBody (top 22)) (defScope (top 22)) .none kV22 dc22 pm22 an22 cd22 ct22), sl22⟩)
    (c22 : PySem.W.codeIn K cd22 "_law_take" = true)
    (k22 : PySem.W.keepIn K (.ref f22) = true)
    (a23 : PySem.W.nsIn K mainGlobals "_law_name" = some (some (.ref f23)))
    (l23 : K.lookup f23 = some ⟨oc23, od23, .func (PySem.W.fnOf "_law_name" "_law_name" (defArgs (top 23)) (defBody (top 23)) (defScope (top 23)) .none kV23 dc23 pm23 an23 cd23 ct23), sl23⟩)
    (c23 : PySem.W.codeIn K cd23 "_law_name" = true)
    (k23 : PySem.W.keepIn K (.ref f23) = true)
    (a24 : PySem.W.nsIn K mainGlobals "_law_whole" = some (some (.ref f24)))
    (l24 : K.lookup f24 = some ⟨oc24, od24, .func (PySem.W.fnOf "_law_whole" "_law_whole" (defArgs (top 24)) (defBody (top 24)) (defScope (top 24)) .none kV24 dc24 pm24 an24 cd24 ct24), sl24⟩)
    (c24 : PySem.W.codeIn K cd24 "_law_whole" = true)
    (k24 : PySem.W.keepIn K (.ref f24) = true)
    (a26 : PySem.W.nsIn K mainGlobals "_law_letters" = some (some (.ref f26)))
    (l26 : K.lookup f26 = some ⟨oc26, od26, .func (PySem.W.fnOf "_law_letters" "_law_letters" (defArgs (top 26)) (defBody (top 26)) (defScope (top 26)) .none kV26 dc26 pm26 an26 cd26 ct26), sl26⟩)
    (c26 : PySem.W.codeIn K cd26 "_law_letters" = true)
    (k26 : PySem.W.keepIn K (.ref f26) = true)
    (a27 : PySem.W.nsIn K mainGlobals "_law_kind" = some (some (.ref f27)))
    (l27 : K.lookup f27 = some ⟨oc27, od27, .func (PySem.W.fnOf "_law_kind" "_law_kind" (defArgs (top 27)) (defBody (top 27)) (defScope (top 27)) .none kV27 dc27 pm27 an27 cd27 ct27), sl27⟩)
    (c27 : PySem.W.codeIn K cd27 "_law_kind" = true)
    (k27 : PySem.W.keepIn K (.ref f27) = true)
    (a11 : PySem.W.nsIn K mainGlobals "is_whole" = some (some (.ref f11)))
    (l11 : K.lookup f11 = some ⟨oc11, od11, .func (PySem.W.fnOf "is_whole" "is_whole" (defArgs (top 11)) (defBody (top 11)) (defScope (top 11)) .none kV11 dc11 pm11 an11 cd11 ct11), sl11⟩)
    (c11 : PySem.W.codeIn K cd11 "is_whole" = true)
    (k11 : PySem.W.keepIn K (.ref f11) = true)
    (a12 : PySem.W.nsIn K mainGlobals "is_name" = some (some (.ref f12)))
    (l12 : K.lookup f12 = some ⟨oc12, od12, .func (PySem.W.fnOf "is_name" "is_name" (defArgs (top 12)) (defBody (top 12)) (defScope (top 12)) .none kV12 dc12 pm12 an12 cd12 ct12), sl12⟩)
    (c12 : PySem.W.codeIn K cd12 "is_name" = true)
    (k12 : PySem.W.keepIn K (.ref f12) = true)
    (a13 : PySem.W.nsIn K mainGlobals "find_kind" = some (some (.ref f13)))
    (l13 : K.lookup f13 = some ⟨oc13, od13, .func (PySem.W.fnOf "find_kind" "find_kind" (defArgs (top 13)) (defBody (top 13)) (defScope (top 13)) .none kV13 dc13 pm13 an13 cd13 ct13), sl13⟩)
    (c13 : PySem.W.codeIn K cd13 "find_kind" = true)
    (k13 : PySem.W.keepIn K (.ref f13) = true)
    (a14 : PySem.W.nsIn K mainGlobals "kind_of" = some (some (.ref f14)))
    (l14 : K.lookup f14 = some ⟨oc14, od14, .func (PySem.W.fnOf "kind_of" "kind_of" (defArgs (top 14)) (defBody (top 14)) (defScope (top 14)) .none kV14 dc14 pm14 an14 cd14 ct14), sl14⟩)
    (c14 : PySem.W.codeIn K cd14 "kind_of" = true)
    (k14 : PySem.W.keepIn K (.ref f14) = true)
    (a15 : PySem.W.nsIn K mainGlobals "check_word" = some (some (.ref f15)))
    (l15 : K.lookup f15 = some ⟨oc15, od15, .func (PySem.W.fnOf "check_word" "check_word" (defArgs (top 15)) (defBody (top 15)) (defScope (top 15)) .none kV15 dc15 pm15 an15 cd15 ct15), sl15⟩)
    (c15 : PySem.W.codeIn K cd15 "check_word" = true)
    (k15 : PySem.W.keepIn K (.ref f15) = true)
    (a16 : PySem.W.nsIn K mainGlobals "is_unknown" = some (some (.ref f16)))
    (l16 : K.lookup f16 = some ⟨oc16, od16, .func (PySem.W.fnOf "is_unknown" "is_unknown" (defArgs (top 16)) (defBody (top 16)) (defScope (top 16)) .none kV16 dc16 pm16 an16 cd16 ct16), sl16⟩)
    (c16 : PySem.W.codeIn K cd16 "is_unknown" = true)
    (k16 : PySem.W.keepIn K (.ref f16) = true)
    (a18 : PySem.W.nsIn K mainGlobals "is_absolute" = some (some (.ref f18)))
    (l18 : K.lookup f18 = some ⟨oc18, od18, .func (PySem.W.fnOf "is_absolute" "is_absolute" (defArgs (top 18)) (defBody (top 18)) (defScope (top 18)) .none kV18 dc18 pm18 an18 cd18 ct18), sl18⟩)
    (c18 : PySem.W.codeIn K cd18 "is_absolute" = true)
    (k18 : PySem.W.keepIn K (.ref f18) = true)
    (a17 : PySem.W.nsIn K mainGlobals "needs_report" = some (some (.ref f17)))
    (l17 : K.lookup f17 = some ⟨oc17, od17, .func (PySem.W.fnOf "needs_report" "needs_report" (defArgs (top 17)) (defBody (top 17)) (defScope (top 17)) .none kV17 dc17 pm17 an17 cd17 ct17), sl17⟩)
    (c17 : PySem.W.codeIn K cd17 "needs_report" = true)
    (k17 : PySem.W.keepIn K (.ref f17) = true)
    (a30 : PySem.W.nsIn K mainGlobals "_law_asked" = some (some (.ref f30)))
    (l30 : K.lookup f30 = some ⟨oc30, od30, .func (PySem.W.fnOf "_law_asked" "_law_asked" (defArgs (top 30)) (defBody (top 30)) (defScope (top 30)) .none kV30 dc30 pm30 an30 cd30 ct30), sl30⟩)
    (c30 : PySem.W.codeIn K cd30 "_law_asked" = true)
    (k30 : PySem.W.keepIn K (.ref f30) = true)
    (a25 : PySem.W.nsIn K mainGlobals "_law_unlike" = some (some (.ref f25)))
    (l25 : K.lookup f25 = some ⟨oc25, od25, .func (PySem.W.fnOf "_law_unlike" "_law_unlike" (defArgs (top 25)) (defBody (top 25)) (defScope (top 25)) .none kV25 dc25 pm25 an25 cd25 ct25), sl25⟩)
    (c25 : PySem.W.codeIn K cd25 "_law_unlike" = true)
    (k25 : PySem.W.keepIn K (.ref f25) = true)
    (a28 : PySem.W.nsIn K mainGlobals "_law_inside" = some (some (.ref f28)))
    (l28 : K.lookup f28 = some ⟨oc28, od28, .func (PySem.W.fnOf "_law_inside" "_law_inside" (defArgs (top 28)) (defBody (top 28)) (defScope (top 28)) .none kV28 dc28 pm28 an28 cd28 ct28), sl28⟩)
    (c28 : PySem.W.codeIn K cd28 "_law_inside" = true)
    (k28 : PySem.W.keepIn K (.ref f28) = true)
    (a31 : PySem.W.nsIn K mainGlobals "_law_right" = some (some (.ref f31)))
    (l31 : K.lookup f31 = some ⟨oc31, od31, .func (PySem.W.fnOf "_law_right" "_law_right" (defArgs (top 31)) (defBody (top 31)) (defScope (top 31)) .none kV31 dc31 pm31 an31 cd31 ct31), sl31⟩)
    (c31 : PySem.W.codeIn K cd31 "_law_right" = true)
    (k31 : PySem.W.keepIn K (.ref f31) = true)
    (a29 : PySem.W.nsIn K mainGlobals "_law_odd_word" = some (some (.ref f29)))
    (l29 : K.lookup f29 = some ⟨oc29, od29, .func (PySem.W.fnOf "_law_odd_word" "_law_odd_word" (defArgs (top 29)) (defBody (top 29)) (defScope (top 29)) .none kV29 dc29 pm29 an29 cd29 ct29), sl29⟩)
    (c29 : PySem.W.codeIn K cd29 "_law_odd_word" = true)
    (k29 : PySem.W.keepIn K (.ref f29) = true)
    (a32 : PySem.W.nsIn K mainGlobals "_law_thing" = some (some (.ref f32)))
    (l32 : K.lookup f32 = some ⟨oc32, od32, .func (PySem.W.fnOf "_law_thing" "_law_thing" (defArgs (top 32)) (defBody (top 32)) (defScope (top 32)) .none kV32 dc32 pm32 an32 cd32 ct32), sl32⟩)
    (c32 : PySem.W.codeIn K cd32 "_law_thing" = true)
    (k32 : PySem.W.keepIn K (.ref f32) = true)
    (a33 : PySem.W.nsIn K mainGlobals "law" = some (some (.ref f33)))
    (l33 : K.lookup f33 = some ⟨oc33, od33, .func (PySem.W.fnOf "law" "law" (defArgs (top 33)) (defBody (top 33)) (defScope (top 33)) .none kV33 dc33 pm33 an33 cd33 ct33), sl33⟩)
    (c33 : PySem.W.codeIn K cd33 "law" = true)
    (k33 : PySem.W.keepIn K (.ref f33) = true)
    : Txt K mg (fun n => if n = 1 then C1 else 0) where
  b_all := PySem.W.mg_none_of X G zb_all
  b_bool := PySem.W.mg_none_of X G zb_bool
  b_int := PySem.W.mg_none_of X G zb_int
  b_isinstance := PySem.W.mg_none_of X G zb_isinstance
  b_len := PySem.W.mg_none_of X G zb_len
  b_range := PySem.W.mg_none_of X G zb_range
  b_repr := PySem.W.mg_none_of X G zb_repr
  b_str := PySem.W.mg_none_of X G zb_str
  b_tuple := PySem.W.mg_none_of X G zb_tuple
  x_BadWord := ⟨xq1, PySem.W.mg_of X G xa1, xk1, xb1, xt1⟩
  sb := by
    intro i j b e
    unfold subT at e
    split at e
    · rename_i h; obtain ⟨rfl, rfl⟩ := h; cases e; exact exm_at xb1 xi1 xt1 xs1_1
    cases e
  t_SINGLE_WORDS := ⟨_, PySem.W.mg_of X G gc_SINGLE_WORDS, ⟨gs_SINGLE_WORDS, _, _, gl_SINGLE_WORDS, .cons (.str _ _ (by decide +kernel)) (.cons (.str _ _ (by decide +kernel)) (.cons (.str _ _ (by decide +kernel)) (.cons (.str _ _ (by decide +kernel)) (.cons (.str _ _ (by decide +kernel)) (.cons (.str _ _ (by decide +kernel)) (.cons (.str _ _ (by decide +kernel)) (.cons (.str _ _ (by decide +kernel)) (.cons (.str _ _ (by decide +kernel)) (.nil)))))))))⟩⟩
  g_LETTERS := ⟨_, .str "abcdefghijklmnopqrstuvwxyz", PySem.W.mg_of X G gc_LETTERS, ⟨_, rfl⟩, fun _ => .str _ (by decide +kernel)⟩
  g_MOST_STEP := ⟨_, .int 30, PySem.W.mg_of X G gc_MOST_STEP, ⟨_, rfl⟩, fun _ => .int _⟩
  g_UNKNOWN := ⟨_, .ref g_UNKNOWN_a, PySem.W.mg_of X G gc_UNKNOWN, rfl, fun _ => .tup (.inr ⟨_, _, _, gl_UNKNOWN, rfl, rfl, (by rw [sizeLine_eq]; show 3 ≤ _; decide), .cons (relS _ _) (.cons (relS _ _) (.cons (relS _ _) (.nil)))⟩) (.cons (.str _ (by decide +kernel)) (.cons (.str _ (by decide +kernel)) (.cons (.str _ (by decide +kernel)) (.nil))))⟩
  g_STEP_WORDS := ⟨_, .ref g_STEP_WORDS_a, PySem.W.mg_of X G gc_STEP_WORDS, rfl, fun _ => .tup (.inr ⟨_, _, _, gl_STEP_WORDS, rfl, rfl, (by rw [sizeLine_eq]; show 2 ≤ _; decide), .cons (relS _ _) (.cons (relS _ _) (.nil))⟩) (.cons (.str _ (by decide +kernel)) (.cons (.str _ (by decide +kernel)) (.nil)))⟩
  g_WEEKDAY_WORDS := ⟨_, .ref g_WEEKDAY_WORDS_a, PySem.W.mg_of X G gc_WEEKDAY_WORDS, rfl, fun _ => .tup (.inr ⟨_, _, _, gl_WEEKDAY_WORDS, rfl, rfl, (by rw [sizeLine_eq]; show 4 ≤ _; decide), .cons (relS _ _) (.cons (relS _ _) (.cons (relS _ _) (.cons (relS _ _) (.nil))))⟩) (.cons (.str _ (by decide +kernel)) (.cons (.str _ (by decide +kernel)) (.cons (.str _ (by decide +kernel)) (.cons (.str _ (by decide +kernel)) (.nil)))))⟩
  g_INNER_WORDS := ⟨_, .ref g_INNER_WORDS_a, PySem.W.mg_of X G gc_INNER_WORDS, rfl, fun _ => .tup (.inr ⟨_, _, _, gl_INNER_WORDS, rfl, rfl, (by rw [sizeLine_eq]; show 6 ≤ _; decide), .cons (relS _ _) (.cons (relS _ _) (.cons (relS _ _) (.cons (relS _ _) (.cons (relS _ _) (.cons (relS _ _) (.nil))))))⟩) (.cons (.str _ (by decide +kernel)) (.cons (.str _ (by decide +kernel)) (.cons (.str _ (by decide +kernel)) (.cons (.str _ (by decide +kernel)) (.cons (.str _ (by decide +kernel)) (.cons (.str _ (by decide +kernel)) (.nil)))))))⟩
  d__law_hand := df_mk X G a20 l20 c20 k20 fun _ _ _ _ _ _ us hl => match us, hl with | [_], _ => rfl
  d__law_mixed := df_mk X G a21 l21 c21 k21 fun _ _ _ _ _ _ us hl => match us, hl with | [_, _], _ => rfl
  d__law_take := df_mk X G a22 l22 c22 k22 fun _ _ _ _ _ _ us hl => match us, hl with | [_, _], _ => rfl
  d__law_name := df_mk X G a23 l23 c23 k23 fun _ _ _ _ _ _ us hl => match us, hl with | [_], _ => rfl
  d__law_whole := df_mk X G a24 l24 c24 k24 fun _ _ _ _ _ _ us hl => match us, hl with | [_], _ => rfl
  d__law_letters := df_mk X G a26 l26 c26 k26 fun _ _ _ _ _ _ us hl => match us, hl with | [_], _ => rfl
  d__law_kind := df_mk X G a27 l27 c27 k27 fun _ _ _ _ _ _ us hl => match us, hl with | [_], _ => rfl
  d_is_whole := df_mk X G a11 l11 c11 k11 fun _ _ _ _ _ _ us hl => match us, hl with | [_], _ => rfl
  d_is_name := df_mk X G a12 l12 c12 k12 fun _ _ _ _ _ _ us hl => match us, hl with | [_], _ => rfl
  d_find_kind := df_mk X G a13 l13 c13 k13 fun _ _ _ _ _ _ us hl => match us, hl with | [_], _ => rfl
  d_kind_of := df_mk X G a14 l14 c14 k14 fun _ _ _ _ _ _ us hl => match us, hl with | [_], _ => rfl
  d_check_word := df_mk X G a15 l15 c15 k15 fun _ _ _ _ _ _ us hl => match us, hl with | [_], _ => rfl
  d_is_unknown := df_mk X G a16 l16 c16 k16 fun _ _ _ _ _ _ us hl => match us, hl with | [_], _ => rfl
  d_is_absolute := df_mk X G a18 l18 c18 k18 fun _ _ _ _ _ _ us hl => match us, hl with | [_], _ => rfl
  d_needs_report := df_mk X G a17 l17 c17 k17 fun _ _ _ _ _ _ us hl => match us, hl with | [_], _ => rfl
  d__law_asked := df_mk X G a30 l30 c30 k30 fun _ _ _ _ _ _ us hl => match us, hl with | [_], _ => rfl
  d__law_unlike := df_mk X G a25 l25 c25 k25 fun _ _ _ _ _ _ us hl => match us, hl with | [_, _], _ => rfl
  d__law_inside := df_mk X G a28 l28 c28 k28 fun _ _ _ _ _ _ us hl => match us, hl with | [_], _ => rfl
  d__law_right := df_mk X G a31 l31 c31 k31 fun _ _ _ _ _ _ us hl => match us, hl with | [_], _ => rfl
  d__law_odd_word := df_mk X G a29 l29 c29 k29 fun _ _ _ _ _ _ us hl => match us, hl with | [_], _ => rfl
  d__law_thing := df_mk X G a32 l32 c32 k32 fun _ _ _ _ _ _ us hl => match us, hl with | [_], _ => rfl
  d_law := df_mk X G a33 l33 c33 k33 fun _ _ _ _ _ _ us hl => match us, hl with | [_], _ => rfl
theorem end_mk {P : Program} {w : World} {K : PySem.W.Frag} {mg : Str → Option Value} {C : Nat → Addr} (T : Txt K mg C) : ∃ (C : Nat → Addr) (st : Stmt) (df : Df K mg "law" st ["_law_script"]), ∀ base : Heap, FnOk P w K mg base (L2.CX P w) 7 df.f df.fd ["_law_script"] (spF K C 1 m_law) := ⟨C, _, T.d_law, fun base => k_all T⟩
end L01
open PySem PySem.W PyProof.Rows in
set_option maxRecDepth 100000 in
set_option maxHeartbeats 0 in
theorem PySem.Challenge.cw_whosetomorrow_k01_whole_words_told_from_holds : PySem.Challenge.rw_whosetomorrow_k01_whole_words_told_from.Holds := by
  w_on; o_law; k_head; (case hw => w_witness2)
  k_fill
  refine Rf.walk_end (l := PySem.Challenge.rw_whosetomorrow_k01_whole_words_told_from) (k := 7) (F := L01.m_law) rfl rfl rfl ⟨rfl, by decide, by decide⟩ (fun w h Y => PySem.W.kIn_of Y) ?F L01.law_true
  case F =>
    intro w mg h KX G
    refine' L01.end_mk (L01.txt_mk KX G ?zb_all ?zb_bool ?zb_int ?zb_isinstance ?zb_len ?zb_range ?zb_repr ?zb_str ?zb_tuple ?xa1 ?xq1 ?xk1 ?xb1 ?xt1 ?xi1 ?xs1_1 ?gc_LETTERS ?gc_MOST_STEP ?gc_UNKNOWN ?gl_UNKNOWN ?gc_SINGLE_WORDS ?gl_SINGLE_WORDS ?gs_SINGLE_WORDS ?gc_STEP_WORDS ?gl_STEP_WORDS ?gc_WEEKDAY_WORDS ?gl_WEEKDAY_WORDS ?gc_INNER_WORDS ?gl_INNER_WORDS ?a20 ?l20 ?c20 ?k20 ?a21 ?l21 ?c21 ?k21 ?a22 ?l22 ?c22 ?k22 ?a23 ?l23 ?c23 ?k23 ?a24 ?l24 ?c24 ?k24 ?a26 ?l26 ?c26 ?k26 ?a27 ?l27 ?c27 ?k27 ?a11 ?l11 ?c11 ?k11 ?a12 ?l12 ?c12 ?k12 ?a13 ?l13 ?c13 ?k13 ?a14 ?l14 ?c14 ?k14 ?a15 ?l15 ?c15 ?k15 ?a16 ?l16 ?c16 ?k16 ?a18 ?l18 ?c18 ?k18 ?a17 ?l17 ?c17 ?k17 ?a30 ?l30 ?c30 ?k30 ?a25 ?l25 ?c25 ?k25 ?a28 ?l28 ?c28 ?k28 ?a31 ?l31 ?c31 ?k31 ?a29 ?l29 ?c29 ?k29 ?a32 ?l32 ?c32 ?k32 ?a33 ?l33 ?c33 ?k33)
    (case zb_all => k_is)
    (case zb_bool => k_is)
    (case zb_int => k_is)
    (case zb_isinstance => k_is)
    (case zb_len => k_is)
    (case zb_range => k_is)
    (case zb_repr => k_is)
    (case zb_str => k_is)
    (case zb_tuple => k_is)
    (case xa1 => k_is)
    (case xq1 => k_exc)
    (case xk1 => k_is)
    (case xb1 => k_is)
    (case xt1 => k_is)
    (case xi1 => k_is)
    (case xs1_1 => (first | rfl | k_is))
    (case gc_LETTERS => k_is)
    (case gc_MOST_STEP => k_is)
    (case gc_UNKNOWN => k_is)
    (case gl_UNKNOWN => k_is)
    (case gc_SINGLE_WORDS => k_is)
    (case gl_SINGLE_WORDS => k_is)
    (case gs_SINGLE_WORDS => (first | rfl | decide))
    (case gc_STEP_WORDS => k_is)
    (case gl_STEP_WORDS => k_is)
    (case gc_WEEKDAY_WORDS => k_is)
    (case gl_WEEKDAY_WORDS => k_is)
    (case gc_INNER_WORDS => k_is)
    (case gl_INNER_WORDS => k_is)
    (case a20 => k_is)
    (case l20 => k_is)
    (case c20 => k_is)
    (case k20 => k_is)
    (case a21 => k_is)
    (case l21 => k_is)
    (case c21 => k_is)
    (case k21 => k_is)
    (case a22 => k_is)
    (case l22 => k_is)
    (case c22 => k_is)
    (case k22 => k_is)
    (case a23 => k_is)
    (case l23 => k_is)
    (case c23 => k_is)
    (case k23 => k_is)
    (case a24 => k_is)
    (case l24 => k_is)
    (case c24 => k_is)
    (case k24 => k_is)
    (case a26 => k_is)
    (case l26 => k_is)
    (case c26 => k_is)
    (case k26 => k_is)
    (case a27 => k_is)
    (case l27 => k_is)
    (case c27 => k_is)
    (case k27 => k_is)
    (case a11 => k_is)
    (case l11 => k_is)
    (case c11 => k_is)
    (case k11 => k_is)
    (case a12 => k_is)
    (case l12 => k_is)
    (case c12 => k_is)
    (case k12 => k_is)
    (case a13 => k_is)
    (case l13 => k_is)
    (case c13 => k_is)
    (case k13 => k_is)
    (case a14 => k_is)
    (case l14 => k_is)
    (case c14 => k_is)
    (case k14 => k_is)
    (case a15 => k_is)
    (case l15 => k_is)
    (case c15 => k_is)
    (case k15 => k_is)
    (case a16 => k_is)
    (case l16 => k_is)
    (case c16 => k_is)
    (case k16 => k_is)
    (case a18 => k_is)
    (case l18 => k_is)
    (case c18 => k_is)
    (case k18 => k_is)
    (case a17 => k_is)
    (case l17 => k_is)
    (case c17 => k_is)
    (case k17 => k_is)
    (case a30 => k_is)
    (case l30 => k_is)
    (case c30 => k_is)
    (case k30 => k_is)
    (case a25 => k_is)
    (case l25 => k_is)
    (case c25 => k_is)
    (case k25 => k_is)
    (case a28 => k_is)
    (case l28 => k_is)
    (case c28 => k_is)
    (case k28 => k_is)
    (case a31 => k_is)
    (case l31 => k_is)
    (case c31 => k_is)
    (case k31 => k_is)
    (case a29 => k_is)
    (case l29 => k_is)
    (case c29 => k_is)
    (case k29 => k_is)
    (case a32 => k_is)
    (case l32 => k_is)
    (case c32 => k_is)
    (case k32 => k_is)
    (case a33 => k_is)
    (case l33 => k_is)
    (case c33 => k_is)
    (case k33 => k_is)
