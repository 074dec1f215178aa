import PyProof.Rows.All
import Wide.All
import OpenK.AllK
import Wide.FinOn
import HandS.ForExc
import HandS.ForMost
import HandS.IsInst
import HandS.TupAny
import HandS.Wide
import HandS.Flow
import HandS.Deep
import HandS.Text
import HandS.TupLe
import KE.DatumOrd
import HandS.Walk
import HandS.ExcOwn
import HandS.TryOnly
import HandS.WordsExc
import HandS.ExcInit
import HandS.ExcField
import HandS.ExcIs
import KE.KExcIs
import HandS.OwnEq
import HandS.More
import KE.GoesMore
import KE.GoesEnum
import KE.KTab
import PyProof.StrOps2
import PyProof.CallFns
import HandS.TryMany
import HandS.ExcCtx
import HandS.Defaults
import HandS.CallSlots
import KE.KExcSuper
import KE.KSuper
import HandS.Rev
import HandS.TupMul
import HandS.HotCalls
import PySem.Challenge.RW_whosetomorrow_k20_whole_sevens_are_even
set_option Elab.async false
set_option linter.all false
set_option maxRecDepth 100000
/-! Rf: Python's values as plain data; frozen and owned objects; readings by denotations -/
namespace Rf
open PySem L2

/-- a value as plain data -/
inductive D where
  | non | bl (b : Bool) | int (i : Int) | str (x : Str) | tup (ds : List D) | lst (ds : List D) | scr (ds : List D)
  | ins (c : Nat) (fs : List (Str × D)) | dic (ks : List (Key × D))
/-- what an owned object holds -/
inductive M where
  | lst (ds : List D) | ins (c : Nat) (fs : List (Str × D)) | dic (ks : List (Key × D))
def M.toD : M → D
  | .lst ds => .lst ds
  | .ins c fs => .ins c fs
  | .dic ks => .dic ks
inductive DV where
  | sh (d : D) | ow (m : M)
abbrev ENV := List (Option DV)
structure EX where
  c : Nat
  fs : List (Str × D)
inductive R (α : Type) where
  | ok (a : α) (ρ : ENV) | exc (e : EX) (ρ : ENV) | bot
def R.bind {α β : Type} (r : R α) (f : α → ENV → R β) : R β := match r with
  | .ok a ρ => f a ρ
  | .exc e ρ => .exc e ρ
  | .bot => .bot
def R.of {α : Type} (o : Option α) (ρ : ENV) : R α := match o with
  | some a => .ok a ρ
  | none => .bot

mutual
inductive Rp (K : PySem.W.Frag) (C : Nat → Addr) (G : Hp) : V → D → Prop
  | non : Rp K C G .non .non
  | bl (b : Bool) : Rp K C G (.bl b) (.bl b)
  | int (i : Int) : Rp K C G (.int i) (.int i)
  | str (x : Str) (h : x.length ≤ sizeLine) : Rp K C G (.str x) (.str x)
  | tup {a : Addr} {xs : List V} {ds : List D} (h : SqT K G a xs) (r : RpL K C G xs ds) : Rp K C G (.ref a) (.tup ds)
  | lst {a : Addr} {xs : List V} {ds : List D} (h : G a = some (.lst xs)) (r : RpL K C G xs ds) : Rp K C G (.ref a) (.lst ds)
  | scr {a : Addr} {xs : List V} {ds : List D} (h : SqL K G a xs) (r : RpL K C G xs ds) : Rp K C G (.ref a) (.scr ds)
  | ins {a dx : Addr} {c : Nat} {fl : List (Str × V)} {fs : List (Str × D)} (h : G a = some (.ins (C c) dx fl)) (r : RpF K C G fl fs) : Rp K C G (.ref a) (.ins c fs)
  | dic {a : Addr} {kv : List (Key × V)} {ks : List (Key × D)} (h : G a = some (.dK kv)) (r : RpK K C G kv ks) : Rp K C G (.ref a) (.dic ks)
inductive RpL (K : PySem.W.Frag) (C : Nat → Addr) (G : Hp) : List V → List D → Prop
  | nil : RpL K C G [] []
  | cons {v : V} {d : D} {vs : List V} {ds : List D} (h : Rp K C G v d) (r : RpL K C G vs ds) : RpL K C G (v :: vs) (d :: ds)
inductive RpF (K : PySem.W.Frag) (C : Nat → Addr) (G : Hp) : List (Str × V) → List (Str × D) → Prop
  | nil : RpF K C G [] []
  | cons {n : Str} {v : V} {d : D} {vs : List (Str × V)} {ds : List (Str × D)} (h : Rp K C G v d) (r : RpF K C G vs ds) : RpF K C G ((n, v) :: vs) ((n, d) :: ds)
inductive RpK (K : PySem.W.Frag) (C : Nat → Addr) (G : Hp) : List (Key × V) → List (Key × D) → Prop
  | nil : RpK K C G [] []
  | cons {n : Key} {v : V} {d : D} {vs : List (Key × V)} {ds : List (Key × D)} (h : Rp K C G v d) (r : RpK K C G vs ds) : RpK K C G ((n, v) :: vs) ((n, d) :: ds)
end

theorem same_seqT {K : PySem.W.Frag} {H H' : Hp} {a : Addr} {xs : List V} (e : Same H H') (h : SqT K H a xs) : SqT K H' a xs := by
  rcases h with (h | ⟨o, h⟩) | h
  · exact .inl (.inl (e _ _ h))
  · exact .inl (.inr ⟨o, e _ _ h⟩)
  · exact .inr h

mutual
theorem Rp.mono {K : PySem.W.Frag} {C : Nat → Addr} {G G' : Hp} (s : Same G G') {v : V} {d : D} : Rp K C G v d → Rp K C G' v d
  | .non => .non
  | .bl b => .bl b
  | .int i => .int i
  | .str x h => .str x h
  | .tup h r => .tup (same_seqT s h) (r.mono s)
  | .lst h r => .lst (s _ _ h) (r.mono s)
  | .scr h r => .scr (Same.seq s h) (r.mono s)
  | .ins h r => .ins (s _ _ h) (r.mono s)
  | .dic h r => .dic (s _ _ h) (r.mono s)
theorem RpL.mono {K : PySem.W.Frag} {C : Nat → Addr} {G G' : Hp} (s : Same G G') {v : List V} {d : List D} : RpL K C G v d → RpL K C G' v d
  | .nil => .nil
  | .cons h r => .cons (h.mono s) (r.mono s)
theorem RpF.mono {K : PySem.W.Frag} {C : Nat → Addr} {G G' : Hp} (s : Same G G') {v : List (Str × V)} {d : List (Str × D)} : RpF K C G v d → RpF K C G' v d
  | .nil => .nil
  | .cons h r => .cons (h.mono s) (r.mono s)
theorem RpK.mono {K : PySem.W.Frag} {C : Nat → Addr} {G G' : Hp} (s : Same G G') {v : List (Key × V)} {d : List (Key × D)} : RpK K C G v d → RpK K C G' v d
  | .nil => .nil
  | .cons h r => .cons (h.mono s) (r.mono s)
end

theorem RpL.length {K : PySem.W.Frag} {C : Nat → Addr} {G : Hp} : ∀ {v : List V} {d : List D}, RpL K C G v d → v.length = d.length
  | _, _, .nil => rfl
  | _, _, .cons _ r => congrArg (· + 1) r.length
theorem RpL.append {K : PySem.W.Frag} {C : Nat → Addr} {G : Hp} : ∀ {v w : List V} {d e : List D}, RpL K C G v d → RpL K C G w e → RpL K C G (v ++ w) (d ++ e)
  | _, _, _, _, .nil, s => s
  | _, _, _, _, .cons h r, s => .cons h (r.append s)
theorem RpL.get {K : PySem.W.Frag} {C : Nat → Addr} {G : Hp} : ∀ {v : List V} {d : List D} {i : Nat} {x : D}, RpL K C G v d → d[i]? = some x → ∃ y, v[i]? = some y ∧ Rp K C G y x
  | _, _, i, _, .nil, e => by simp at e
  | _, _, 0, _, .cons h _, e => by simp at e; subst e; exact ⟨_, rfl, h⟩
  | _, _, i + 1, x, .cons _ r, e => by
    obtain ⟨u, h1, h2⟩ := RpL.get (i := i) (x := x) r (by simpa using e)
    exact ⟨u, by simpa using h1, h2⟩
theorem RpL.getV {K : PySem.W.Frag} {C : Nat → Addr} {G : Hp} : ∀ {v : List V} {d : List D} {i : Nat} {y : V}, RpL K C G v d → v[i]? = some y → ∃ x, d[i]? = some x ∧ Rp K C G y x
  | _, _, i, _, .nil, e => by simp at e
  | _, _, 0, _, .cons h _, e => by simp at e; subst e; exact ⟨_, rfl, h⟩
  | _, _, i + 1, y, .cons _ r, e => by
    obtain ⟨u, h1, h2⟩ := RpL.getV (i := i) (y := y) r (by simpa using e)
    exact ⟨u, by simpa using h1, h2⟩
theorem RpL.set {K : PySem.W.Frag} {C : Nat → Addr} {G : Hp} {x : V} {y : D} (q : Rp K C G x y) : ∀ {v : List V} {d : List D} (i : Nat), RpL K C G v d → RpL K C G (v.set i x) (d.set i y)
  | _, _, _, .nil => .nil
  | _, _, 0, .cons _ r => .cons q r
  | _, _, i + 1, .cons h r => .cons h (RpL.set q i r)
theorem RpL.take {K : PySem.W.Frag} {C : Nat → Addr} {G : Hp} : ∀ {v : List V} {d : List D} (n : Nat), RpL K C G v d → RpL K C G (v.take n) (d.take n)
  | _, _, 0, _ => by simp; exact .nil
  | _, _, _ + 1, .nil => .nil
  | _, _, n + 1, .cons h r => .cons h (RpL.take n r)
theorem RpL.drop {K : PySem.W.Frag} {C : Nat → Addr} {G : Hp} : ∀ {v : List V} {d : List D} (n : Nat), RpL K C G v d → RpL K C G (v.drop n) (d.drop n)
  | _, _, 0, r => r
  | _, _, _ + 1, .nil => .nil
  | _, _, n + 1, .cons _ r => RpL.drop n r

/-- what a frozen or owned object of that content is -/
def HoldsM (K : PySem.W.Frag) (C : Nat → Addr) (G : Hp) (o : HO) : M → Prop
  | .lst ds => ∃ xs, o = .lst xs ∧ RpL K C G xs ds
  | .ins c fs => ∃ dx fl, o = .ins (C c) dx fl ∧ RpF K C G fl fs
  | .dic ks => ∃ kv, o = .dK kv ∧ RpK K C G kv ks
theorem HoldsM.mono {K : PySem.W.Frag} {C : Nat → Addr} {G G' : Hp} (s : Same G G') {o : HO} {m : M} (h : HoldsM K C G o m) : HoldsM K C G' o m := by
  cases m with
  | lst ds => obtain ⟨xs, e, r⟩ := h; exact ⟨xs, e, r.mono s⟩
  | ins c fs => obtain ⟨dx, fl, e, r⟩ := h; exact ⟨dx, fl, e, r.mono s⟩
  | dic ks => obtain ⟨kv, e, r⟩ := h; exact ⟨kv, e, r.mono s⟩
/-- the owned object at p -/
structure Own (K : PySem.W.Frag) (C : Nat → Addr) (B G H : Hp) (p : Addr) (m : M) : Prop where
  nb : B p = none
  ng : G p = none
  at_ : ∃ o, H p = some o ∧ HoldsM K C G o m
/-- the def's own data: the classes' places, what is wished of an exception, the protected slots and their places -/
structure Cc where
  C : Nat → Addr
  W : WX
  pr : List Nat
  ad : Nat → Addr
  kb : Hp
structure Rl (K : PySem.W.Frag) (cc : Cc) (B : Hp) (ρ : ENV) (σ : St) (G H : Hp) : Prop where
  bk : Same B H
  gk : Same G H
  ln : σ.length = ρ.length
  sh : ∀ (i : Nat) (d : D), ρ[i]? = some (some (.sh d)) → ∃ v, σ[i]? = some (some v) ∧ Rp K cc.C G v d
  ow : ∀ (i : Nat) (m : M), ρ[i]? = some (some (.ow m)) → ∃ p, σ[i]? = some (some (.ref p)) ∧ Own K cc.C B G H p m
  df : ∀ (i j : Nat) (m m' : M) (p : Addr), ρ[i]? = some (some (.ow m)) → ρ[j]? = some (some (.ow m')) → σ[i]? = some (some (.ref p)) → σ[j]? = some (some (.ref p)) → i = j
  pa : ∀ (i : Nat), i ∈ cc.pr → σ[i]? = some (some (.ref (cc.ad i)))
  kg : Same cc.kb G
/-- what is frozen grows, outside B -/
structure Ext (B G G' : Hp) : Prop where
  gg : Same G G'
  nb : ∀ a o, G' a = some o → G a = some o ∨ B a = none
theorem Ext.refl (B G : Hp) : Ext B G G := ⟨Same.refl G, fun _ _ h => .inl h⟩
theorem Ext.trans {B G G1 G2 : Hp} (a : Ext B G G1) (b : Ext B G1 G2) : Ext B G G2 := ⟨a.gg.trans b.gg, fun c o h => by
  rcases b.nb c o h with h | h
  · exact a.nb c o h
  · exact .inr h⟩
/-- new objects alone, frozen or not -/
structure Grow (G H G' H' : Hp) : Prop where
  gg : Same G G'
  hh : Same H H'
  gh : Same G' H'
  nw : ∀ a o, G' a = some o → G a = some o ∨ H a = none
theorem Grow.refl {G H : Hp} (s : Same G H) : Grow G H G H := ⟨Same.refl G, Same.refl H, s, fun _ _ h => .inl h⟩
theorem Grow.trans {G H G1 H1 G2 H2 : Hp} (a : Grow G H G1 H1) (b : Grow G1 H1 G2 H2) : Grow G H G2 H2 := ⟨a.gg.trans b.gg, a.hh.trans b.hh, b.gh, fun c o h => by
  rcases b.nw c o h with h | h
  · exact a.nw c o h
  · exact .inr (a.hh.free h)⟩
theorem same_upd {H : Hp} {p : Addr} {o : HO} (h : H p = none) : Same H (upd H p o) := fun b u e => by rw [upd_ne (ne_of_none e h)]; exact e
theorem same_upd2 {G H : Hp} {p : Addr} {o : HO} (s : Same G H) : Same (upd G p o) (upd H p o) := fun b u e => by
  by_cases q : b = p
  · subst q; rw [upd_same] at e ⊢; exact e
  · rw [upd_ne q] at e ⊢; exact s _ _ e
/-- a new object that is frozen at once -/
theorem Grow.new {G H : Hp} {p : Addr} {o : HO} (s : Same G H) (h : H p = none) : Grow G H (upd G p o) (upd H p o) :=
  ⟨same_upd (s.free h), same_upd h, same_upd2 s, fun a u e => by
    by_cases q : a = p
    · subst q; exact .inr h
    · rw [upd_ne q] at e; exact .inl e⟩
/-- a new object that is not frozen -/
theorem Grow.newO {G H : Hp} {p : Addr} {o : HO} (s : Same G H) (h : H p = none) : Grow G H G (upd H p o) :=
  ⟨Same.refl G, same_upd h, s.trans (same_upd h), fun a u e => .inl e⟩
section
variable {K : PySem.W.Frag} {cc : Cc} {B : Hp} {ρ : ENV} {σ : St} {G H G' H' : Hp}
theorem Own.grow {p : Addr} {m : M} (o : Own K cc.C B G H p m) (g : Grow G H G' H') : Own K cc.C B G' H' p m := by
  obtain ⟨x, hx, hm⟩ := o.at_
  refine ⟨o.nb, ?_, x, g.hh _ _ hx, hm.mono g.gg⟩
  cases q : G' p with
  | none => rfl
  | some u =>
    rcases g.nw p u q with h | h
    · rw [o.ng] at h; cases h
    · rw [hx] at h; cases h
theorem Rl.grow (r : Rl K cc B ρ σ G H) (g : Grow G H G' H') : Rl K cc B ρ σ G' H' where
  bk := r.bk.trans g.hh
  gk := g.gh
  ln := r.ln
  sh := fun i d e => let ⟨v, h, p⟩ := r.sh i d e; ⟨v, h, p.mono g.gg⟩
  ow := fun i m e => let ⟨p, h, o⟩ := r.ow i m e; ⟨p, h, o.grow g⟩
  df := r.df
  pa := r.pa
  kg := r.kg.trans g.gg
theorem Grow.ext (g : Grow G H G' H') (bk : Same B H) : Ext B G G' := ⟨g.gg, fun a o e => by
  rcases g.nw a o e with h | h
  · exact .inl h
  · exact .inr (bk.free h)⟩
end

/-- an exception -/
def ERp (K : PySem.W.Frag) (C : Nat → Addr) (G : Hp) (e : EX) (cl : Value) (dd : Option Addr) : Prop :=
  cl = .ref (C e.c) ∧ ((e.fs = [] ∧ dd = none) ∨ ∃ dx fl, dd = some dx ∧ G dx = some (.xd fl) ∧ RpF K C G fl e.fs)

/-- behind an expression -/
def Post {α β : Type} (K : PySem.W.Frag) (cc : Cc) (Vr : Hp → β → α → Prop) (B G : Hp) (σ : St) (Q : β → Hp → Prop) (r : R α) : Prop := match r with
  | .ok d ρ' => ∀ v G' H', Ext B G G' → Rl K cc B ρ' σ G' H' → Vr G' v d → Q v H'
  | .exc e ρ' => ∀ cl dd G' H', Ext B G G' → Rl K cc B ρ' σ G' H' → ERp K cc.C G' e cl dd → cc.W cl dd σ H'
  | .bot => False
theorem Post.bind {α β γ δ : Type} {K : PySem.W.Frag} {cc : Cc} {V1 : Hp → β → α → Prop} {V2 : Hp → δ → γ → Prop} {B G : Hp} {σ : St} {Q : δ → Hp → Prop} {Q' : β → Hp → Prop} {r : R α} {f : α → ENV → R γ}
    (h : Post K cc V2 B G σ Q (r.bind f))
    (k : ∀ d ρ1 G1 H1 x, Ext B G G1 → Rl K cc B ρ1 σ G1 H1 → V1 G1 x d → Post K cc V2 B G1 σ Q (f d ρ1) → Q' x H1) : Post K cc V1 B G σ Q' r := by
  cases r with
  | ok d ρ1 =>
    intro v G1 H1 e1 R1 p1
    refine k d ρ1 G1 H1 v e1 R1 p1 ?_
    have h : Post K cc V2 B G σ Q (f d ρ1) := h
    revert h
    cases f d ρ1 with
    | ok c ρ2 => exact fun h v G' H' e R' p => h v G' H' (e1.trans e) R' p
    | exc c ρ2 => exact fun h cl dd G' H' e R' p => h cl dd G' H' (e1.trans e) R' p
    | bot => exact id
  | exc e ρ1 => exact h
  | bot => exact h
theorem Post.mono {α β : Type} {K : PySem.W.Frag} {cc : Cc} {V1 : Hp → β → α → Prop} {B G : Hp} {σ : St} {Q Q' : β → Hp → Prop} {r : R α}
    (h : Post K cc V1 B G σ Q r) (k : ∀ v H, Q v H → Q' v H) : Post K cc V1 B G σ Q' r := by
  cases r with
  | ok d ρ1 => exact fun v G1 H1 e1 R1 p1 => k _ _ (h v G1 H1 e1 R1 p1)
  | exc e ρ1 => exact h
  | bot => exact h
/-- the end: the value is there -/
theorem Post.fin {α β : Type} {K : PySem.W.Frag} {cc : Cc} {V1 : Hp → β → α → Prop} {B G : Hp} {σ : St} {Q : β → Hp → Prop} {d : α} {ρ1 : ENV} {G1 H1 G2 H2 : Hp} {v : β}
    (h : Post K cc V1 B G σ Q (.ok d ρ1)) (R1 : Rl K cc B ρ1 σ G1 H1) (e : Ext B G G1) (g : Grow G1 H1 G2 H2) (p : V1 G2 v d) : Q v H2 :=
  h v G2 H2 (e.trans (g.ext R1.bk)) (R1.grow g) p

def rE (K : PySem.W.Frag) (cc : Cc) (den : ENV → R D) : TE := fun σ H Q => ∃ B ρ G, Rl K cc B ρ σ G H ∧ Post K cc (Rp K cc.C) B G σ Q (den ρ)
def rT (K : PySem.W.Frag) (cc : Cc) (den : ENV → R Bool) : TT := fun σ H Q => ∃ B ρ G, Rl K cc B ρ σ G H ∧ Post K cc (fun _ b c => b = c) B G σ Q (den ρ)
def rA (K : PySem.W.Frag) (cc : Cc) (den : ENV → R (List D)) : TA := fun σ H Q => ∃ B ρ G, Rl K cc B ρ σ G H ∧ Post K cc (RpL K cc.C) B G σ Q (den ρ)
theorem PE.imp {X : Cx} {e : Expr} {t t' : TE} (h : PE X e t) (k : ∀ σ H Q, t' σ H Q → t σ H Q) : PE X e t' := ⟨fun pins s σ H Q I q => h.run pins s σ H Q I (k _ _ _ q)⟩
theorem PT.imp {X : Cx} {e : Expr} {t t' : TT} (h : PT X e t) (k : ∀ σ H Q, t' σ H Q → t σ H Q) : PT X e t' := ⟨fun pins s σ H Q I q => h.run pins s σ H Q I (k _ _ _ q)⟩
theorem PW.imp {X : Cx} {e : Expr} {t t' : TT} (h : PW X e t) (k : ∀ σ H Q, t' σ H Q → t σ H Q) : PW X e t' := ⟨fun wh pins s σ H Q I q => h.run wh pins s σ H Q I (k _ _ _ q)⟩
theorem PA.imp {X : Cx} {e : List Expr} {t t' : TA} (h : PA X e t) (k : ∀ σ H Q, t' σ H Q → t σ H Q) : PA X e t' := ⟨fun pos pins s σ H Q I q => h.run pos pins s σ H Q I (k _ _ _ q)⟩
theorem PS.imp {X : Cx} {e : Stmt} {t t' : TS} (h : PS X e t) (k : ∀ Dn σ H, t' Dn σ H → t Dn σ H) : PS X e t' := ⟨fun pins s σ H Dn I q => h.run pins s σ H Dn I (k _ _ _ q)⟩
theorem PSs.imp {X : Cx} {e : List Stmt} {t t' : TS} (h : PSs X e t) (k : ∀ Dn σ H, t' Dn σ H → t Dn σ H) : PSs X e t' := ⟨fun pins s σ H Dn I q => h.run pins s σ H Dn I (k _ _ _ q)⟩
def DE (X : Cx) (cc : Cc) (e : Expr) (den : ENV → R D) : Prop := PE X e (rE X.K cc den)
def DT (X : Cx) (cc : Cc) (e : Expr) (den : ENV → R Bool) : Prop := PT X e (rT X.K cc den)
def DW (X : Cx) (cc : Cc) (e : Expr) (den : ENV → R Bool) : Prop := PW X e (rT X.K cc den)
def DA (X : Cx) (cc : Cc) (e : List Expr) (den : ENV → R (List D)) : Prop := PA X e (rA X.K cc den)
end Rf
set_option Elab.async false
set_option linter.all false
set_option maxRecDepth 100000
/-! Rf: expressions -/
namespace Rf
open PySem L2
/-! ### names, constants -/
def dVar (i : Nat) : ENV → R D := fun ρ => match ρ[i]? with
  | some (some (.sh d)) => .ok d ρ
  | some (some (.ow m)) => .ok m.toD (ρ.set i (some (.sh m.toD)))
  | _ => .bot
def dC (d : D) : ENV → R D := fun ρ => .ok d ρ
theorem HoldsM.rp {K : PySem.W.Frag} {C : Nat → Addr} {G : Hp} {p : Addr} {o : HO} {m : M} (e : G p = some o) (h : HoldsM K C G o m) : Rp K C G (.ref p) m.toD := by
  cases m with
  | lst ds => obtain ⟨xs, rfl, r⟩ := h; exact .lst e r
  | ins c fs => obtain ⟨dx, fl, rfl, r⟩ := h; exact .ins e r
  | dic ks => obtain ⟨kv, rfl, r⟩ := h; exact .dic e r
/-- an owned slot is frozen -/
theorem Rl.freeze {K : PySem.W.Frag} {cc : Cc} {B : Hp} {ρ : ENV} {σ : St} {G H : Hp} {i : Nat} {m : M} (r : Rl K cc B ρ σ G H) (e : ρ[i]? = some (some (.ow m))) :
    ∃ p G', σ[i]? = some (some (.ref p)) ∧ Ext B G G' ∧ Rl K cc B (ρ.set i (some (.sh m.toD))) σ G' H ∧ Rp K cc.C G' (.ref p) m.toD := by
  obtain ⟨p, hp, o⟩ := r.ow i m e
  obtain ⟨x, hx, hm⟩ := o.at_
  have sG : Same G (upd G p x) := same_upd o.ng
  have rp : Rp K cc.C (upd G p x) (.ref p) m.toD := HoldsM.rp upd_same (hm.mono sG)
  have il : i < ρ.length := (List.getElem?_eq_some_iff.mp e).1
  refine ⟨p, upd G p x, hp, ⟨sG, fun a u q => ?_⟩, ⟨r.bk, fun b u q => ?_, by rw [List.length_set]; exact r.ln, fun j d q => ?_, fun j m' q => ?_, fun j k m1 m2 p' q1 q2 => ?_, r.pa, r.kg.trans sG⟩, rp⟩
  · by_cases h : a = p
    · subst h; exact .inr o.nb
    · rw [upd_ne h] at q; exact .inl q
  · by_cases h : b = p
    · subst h; rw [upd_same] at q; cases q; exact hx
    · rw [upd_ne h] at q; exact r.gk b u q
  · by_cases h : j = i
    · subst h
      rw [List.getElem?_set_self il] at q; cases q
      exact ⟨_, hp, rp⟩
    · rw [List.getElem?_set_ne (Ne.symm h)] at q
      obtain ⟨v, h1, h2⟩ := r.sh j d q
      exact ⟨v, h1, h2.mono sG⟩
  · by_cases h : j = i
    · subst h
      rw [List.getElem?_set_self il] at q; cases q
    · rw [List.getElem?_set_ne (Ne.symm h)] at q
      obtain ⟨p', h1, o'⟩ := r.ow j m' q
      have ne : p' ≠ p := fun z => by subst z; exact h (r.df j i m' m p' q e h1 hp)
      obtain ⟨x', hx', hm'⟩ := o'.at_
      exact ⟨p', h1, o'.nb, by rw [upd_ne ne]; exact o'.ng, x', hx', hm'.mono sG⟩
  · have g1 : ρ[j]? = some (some (.ow m1)) := by
      by_cases h : j = i
      · subst h; rw [List.getElem?_set_self il] at q1; cases q1
      · rw [List.getElem?_set_ne (Ne.symm h)] at q1; exact q1
    have g2 : ρ[k]? = some (some (.ow m2)) := by
      by_cases h : k = i
      · subst h; rw [List.getElem?_set_self il] at q2; cases q2
      · rw [List.getElem?_set_ne (Ne.symm h)] at q2; exact q2
    exact r.df j k m1 m2 p' g1 g2
section
variable {X : Cx} {cc : Cc} {a b c e : Expr} {da db dc : ENV → R D} {pos : Pos}
theorem de_var (i : Nat) {x : Str} (hN : X.N[i]? = some x := by rfl) (hv : Vis X.env.scope x := by first | exact Or.inl rfl | exact Or.inr (Or.inl rfl) | exact Or.inr (Or.inr rfl)) (hd : (x == ("__debug__" : Str)) = false := by decide)
    (hcd : (x == ("__classdict__" : Str)) = false := by decide) : DE X cc (.Name x pos) (dVar i) := by
  refine PE.imp (pe_var hN hv hd hcd) fun σ H Q h => ?_
  obtain ⟨B, ρ, G, R1, h⟩ := h
  unfold dVar at h
  split at h
  · rename_i d e
    obtain ⟨v, h1, h2⟩ := R1.sh i d e
    exact ⟨v, h1, h v G H (Ext.refl B G) R1 h2⟩
  · rename_i m e
    obtain ⟨p, G', h1, h2, h3, h4⟩ := R1.freeze e
    exact ⟨_, h1, h _ G' H h2 h3 h4⟩
  · exact h.elim
/-- a constant -/
theorem de_k {v : V} {d : D} (h : PE X e (tC v)) (hr : ∀ G, Rp X.K cc.C G v d) : DE X cc e (dC d) := PE.imp h fun σ H Q ⟨B, ρ, G, R1, h⟩ => h v G H (Ext.refl B G) R1 (hr G)
theorem de_int {i : Int} {j : Nat} : DE X cc (.Constant (.int i) j pos) (dC (.int i)) := de_k pe_int fun _ => .int i
theorem de_bl {i : Bool} {j : Nat} : DE X cc (.Constant (.bool i) j pos) (dC (.bl i)) := de_k pe_bl fun _ => .bl i
theorem de_non {j : Nat} : DE X cc (.Constant .none j pos) (dC .non) := de_k pe_non fun _ => .non
theorem de_str {x : Str} {j : Nat} (h : x.length ≤ sizeLine := by decide +kernel) : DE X cc (.Constant (.str x) j pos) (dC (.str x)) := de_k pe_str fun _ => .str x h

/-! ### operations by values -/
def dOp (f : D → D → Option D) (da db : ENV → R D) : ENV → R D := fun ρ => (da ρ).bind fun x ρ1 => (db ρ1).bind fun y ρ2 => R.of (f x y) ρ2
def dUn (f : D → Option D) (da : ENV → R D) : ENV → R D := fun ρ => (da ρ).bind fun x ρ1 => R.of (f x) ρ1
/-- the rule r does f -/
def V2 (K : PySem.W.Frag) (C : Nat → Addr) (f : D → D → Option D) (r : R2) : Prop :=
  ∀ {G H : Hp} {x y : V} {dx dy d : D} {Q : VK}, Same G H → Rp K C G x dx → Rp K C G y dy → f dx dy = some d → (∀ v G' H', Grow G H G' H' → Rp K C G' v d → Q v H') → r x y H Q
def V1 (K : PySem.W.Frag) (C : Nat → Addr) (f : D → Option D) (r : V → Hp → VK → Prop) : Prop :=
  ∀ {G H : Hp} {x : V} {dx d : D} {Q : VK}, Same G H → Rp K C G x dx → f dx = some d → (∀ v G' H', Grow G H G' H' → Rp K C G' v d → Q v H') → r x H Q
theorem V2.or {K : PySem.W.Frag} {C : Nat → Addr} {f g : D → D → Option D} {r r' : R2} (h : V2 K C f r) (h' : V2 K C g r') : V2 K C (fun x y => (f x y).orElse fun _ => g x y) (fun x y H Q => r x y H Q ∨ r' x y H Q) := by
  intro G H x y dx dy d Q s px py e k
  cases hf : f dx dy with
  | some z => simp only [hf, Option.orElse_some, Option.some.injEq] at e; subst e; exact .inl (h s px py hf k)
  | none => simp only [hf, Option.orElse_none] at e; exact .inr (h' s px py e k)
theorem V2.imp {K : PySem.W.Frag} {C : Nat → Addr} {f g : D → D → Option D} {r : R2} (h : V2 K C f r) (hg : ∀ x y d, g x y = some d → f x y = some d) : V2 K C g r :=
  fun s px py e k => h s px py (hg _ _ _ e) k
theorem op_core {r : R2} {f : D → D → Option D} (hv : V2 X.K cc.C f r) : ∀ σ H Q, rE X.K cc (dOp f da db) σ H Q → tOp r (rE X.K cc da) (rE X.K cc db) σ H Q := by
  intro σ H Q ⟨B, ρ, G, R0, h⟩
  refine ⟨B, ρ, G, R0, h.bind fun d1 ρ1 G1 H1 x e1 R1 p1 h1 => ⟨B, ρ1, G1, R1, h1.bind fun d2 ρ2 G2 H2 y e2 R2 p2 h2 => ?_⟩⟩
  cases hf : f d1 d2 with
  | none => rw [hf] at h2; exact h2.elim
  | some d =>
    rw [hf] at h2
    exact hv R2.gk (p1.mono e2.gg) p2 hf fun v G' H' g p => Post.fin h2 R2 (Ext.refl _ _) g p
theorem de_op {op : Operator} {r : R2} {f : D → D → Option D} (ho : OpR X (binaryOp op) r) (hv : V2 X.K cc.C f r) (ha : DE X cc a da) (hb : DE X cc b db) : DE X cc (.BinOp a op b pos) (dOp f da db) :=
  PE.imp (pe_op ho ha hb) (op_core hv)
theorem de_cmp {op : CmpOp} {r : R2} {f : D → D → Option D} (ho : OpR X (compareOp op) r) (hv : V2 X.K cc.C f r) (hm : behindInMarks op b = false) (ha : DE X cc a da) (hb : DE X cc b db) : DE X cc (.Compare a [op] [b] pos) (dOp f da db) :=
  PE.imp (pe_cmpR ho ha hb hm) (op_core hv)
theorem de_un {op : UnaryOp} {r : V → Hp → VK → Prop} {f : D → Option D} (ho : UnR X (unaryOp op) r) (hv : V1 X.K cc.C f r) (ha : DE X cc a da) : DE X cc (.UnaryOp op a pos) (dUn f da) := by
  refine PE.imp (pe_un ho ha) fun σ H Q ⟨B, ρ, G, R0, h⟩ => ⟨B, ρ, G, R0, h.bind fun d1 ρ1 G1 H1 x e1 R1 p1 h1 => ?_⟩
  cases hf : f d1 with
  | none => rw [hf] at h1; exact h1.elim
  | some d =>
    rw [hf] at h1
    exact hv R1.gk p1 hf fun v G' H' g p => Post.fin h1 R1 (Ext.refl _ _) g p
/-- a value that is a truth, as a test -/
def asT (r : R D) : R Bool := r.bind fun d ρ => match d with
  | .bl b => .ok b ρ
  | _ => .bot
def dT (den : ENV → R D) : ENV → R Bool := fun ρ => asT (den ρ)
theorem test_core {t : TE} {den : ENV → R D} (k : ∀ σ H Q, rE X.K cc den σ H Q → t σ H Q) : ∀ σ H Q, rT X.K cc (dT den) σ H Q → tTest t σ H Q := by
  intro σ H Q ⟨B, ρ, G, R0, h⟩
  refine k _ _ _ ⟨B, ρ, G, R0, Post.bind (V2 := fun _ b c => b = c) h fun d1 ρ1 G1 H1 x e1 R1 p1 h1 => ?_⟩
  cases p1 with
  | bl b => exact ⟨b, rfl, h1 b G1 H1 (Ext.refl _ _) R1 rfl⟩
  | _ => exact h1.elim
theorem dt_cmp {op : CmpOp} {r : R2} {f : D → D → Option D} (ho : OpR X (compareOp op) r) (hv : V2 X.K cc.C f r) (hm : behindInMarks op b = false) (ha : DE X cc a da) (hb : DE X cc b db) : DT X cc (.Compare a [op] [b] pos) (dT (dOp f da db)) :=
  PT.imp (pt_cmpR ho ha hb hm) (test_core (op_core hv))

/-! ### truth, and, or, not -/
def tru : D → Option Bool
  | .non => some false
  | .bl b => some b
  | .int i => some (i != 0)
  | .str x => some ((x.length : Int) != 0)
  | .tup ds => some (!ds.isEmpty)
  | .lst ds => some (!ds.isEmpty)
  | .scr ds => some (!ds.isEmpty)
  | .dic ks => some (!ks.isEmpty)
  | .ins _ _ => none
theorem RpL.empty {K : PySem.W.Frag} {C : Nat → Addr} {G : Hp} {v : List V} {d : List D} (r : RpL K C G v d) : v.isEmpty = d.isEmpty := by cases r <;> rfl
theorem RpK.empty {K : PySem.W.Frag} {C : Nat → Addr} {G : Hp} {v : List (Key × V)} {d : List (Key × D)} (r : RpK K C G v d) : v.isEmpty = d.isEmpty := by cases r <;> rfl
theorem tru_of {K : PySem.W.Frag} {C : Nat → Addr} {G H : Hp} {v : V} {d : D} {k : Bool} (s : Same G H) (p : Rp K C G v d) (e : tru d = some k) : TruV K v H k := by
  cases p with
  | non => cases e; rfl
  | bl b => cases e; rfl
  | int i => cases e; rfl
  | str x h => cases e; exact ⟨h, rfl⟩
  | tup h r => cases e; exact .inr (.inl ⟨_, same_seqT s h, by rw [r.empty]⟩)
  | lst h r => cases e; exact .inl ⟨_, .inl (.inl (s _ _ h)), by rw [r.empty]⟩
  | scr h r => cases e; exact .inl ⟨_, Same.seq s h, by rw [r.empty]⟩
  | ins h r => cases e
  | dic h r => cases e; exact .inr (.inr ⟨_, s _ _ h, by rw [r.empty]⟩)
def dTru (den : ENV → R D) : ENV → R Bool := fun ρ => (den ρ).bind fun d ρ1 => R.of (tru d) ρ1
theorem dt_tru (ha : DE X cc a da) (he : ∀ whole, isTrue a X.env whole = (do let v ← whole; standAt a.pos; holding [v] (truthy v)) := by intro _; rfl) : DT X cc a (dTru da) := by
  refine PT.imp (pt_truth ha he) fun σ H Q ⟨B, ρ, G, R0, h⟩ => ⟨B, ρ, G, R0, Post.bind (V2 := fun _ b c => b = c) h fun d1 ρ1 G1 H1 x e1 R1 p1 h1 => ?_⟩
  cases hf : tru d1 with
  | none => rw [hf] at h1; exact h1.elim
  | some k =>
    rw [hf] at h1
    exact ⟨k, tru_of R1.gk p1 hf, h1 k G1 H1 (Ext.refl _ _) R1 rfl⟩
def dAnd (da db : ENV → R Bool) : ENV → R Bool := fun ρ => (da ρ).bind fun x ρ1 => if x = true then db ρ1 else .ok false ρ1
def dOr (da db : ENV → R Bool) : ENV → R Bool := fun ρ => (da ρ).bind fun x ρ1 => if x = true then .ok true ρ1 else db ρ1
def dNot (da : ENV → R Bool) : ENV → R Bool := fun ρ => (da ρ).bind fun x ρ1 => .ok (!x) ρ1
variable {ta tb : ENV → R Bool} {rest : List Expr}
theorem dw_and1 (ha : DT X cc a ta) : DW X cc (.BoolOp .And [a] pos) ta := pw_and1 ha
theorem dw_or1 (ha : DT X cc a ta) : DW X cc (.BoolOp .Or [a] pos) ta := pw_or1 ha
theorem dw_and (ha : DT X cc a ta) (hb : DW X cc (.BoolOp .And (b :: rest) pos) tb) : DW X cc (.BoolOp .And (a :: b :: rest) pos) (dAnd ta tb) := by
  refine PW.imp (pw_and ha hb) fun σ H Q ⟨B, ρ, G, R0, h⟩ => ⟨B, ρ, G, R0, Post.bind (V2 := fun _ b c => b = c) h fun d1 ρ1 G1 H1 x e1 R1 p1 h1 => ?_⟩
  subst p1
  cases x with
  | true => exact iteT ⟨B, ρ1, G1, R1, h1⟩
  | false => exact iteF (h1 false G1 H1 (Ext.refl _ _) R1 rfl)
theorem dw_or (ha : DT X cc a ta) (hb : DW X cc (.BoolOp .Or (b :: rest) pos) tb) : DW X cc (.BoolOp .Or (a :: b :: rest) pos) (dOr ta tb) := by
  refine PW.imp (pw_or ha hb) fun σ H Q ⟨B, ρ, G, R0, h⟩ => ⟨B, ρ, G, R0, Post.bind (V2 := fun _ b c => b = c) h fun d1 ρ1 G1 H1 x e1 R1 p1 h1 => ?_⟩
  subst p1
  cases x with
  | true => exact iteT (h1 true G1 H1 (Ext.refl _ _) R1 rfl)
  | false => exact iteF ⟨B, ρ1, G1, R1, h1⟩
theorem dt_w (h : DW X cc a ta) : DT X cc a ta := PW.pt h
theorem dt_not (ha : DT X cc a ta) : DT X cc (.UnaryOp .Not a pos) (dNot ta) := by
  refine PT.imp (pt_not ha) fun σ H Q ⟨B, ρ, G, R0, h⟩ => ⟨B, ρ, G, R0, Post.bind (V2 := fun _ b c => b = c) h fun d1 ρ1 G1 H1 x e1 R1 p1 h1 => ?_⟩
  subst p1
  exact h1 (!x) G1 H1 (Ext.refl _ _) R1 rfl
/-- .. as values -/
def dAndV (da db : ENV → R D) : ENV → R D := fun ρ => (da ρ).bind fun x ρ1 => match tru x with
  | some true => db ρ1
  | some false => .ok x ρ1
  | none => .bot
def dOrV (da db : ENV → R D) : ENV → R D := fun ρ => (da ρ).bind fun x ρ1 => match tru x with
  | some true => .ok x ρ1
  | some false => db ρ1
  | none => .bot
def dNotV (da : ENV → R D) : ENV → R D := fun ρ => (da ρ).bind fun x ρ1 => R.of ((tru x).map fun k => .bl (!k)) ρ1
theorem de_one {op : BoolOp} (h : DE X cc a da) : DE X cc (.BoolOp op [a] pos) da := pe_one h
theorem de_and (ha : DE X cc a da) (hb : DE X cc (.BoolOp .And (b :: rest) pos) db) : DE X cc (.BoolOp .And (a :: b :: rest) pos) (dAndV da db) := by
  refine PE.imp (pe_andT ha hb) fun σ H Q ⟨B, ρ, G, R0, h⟩ => ⟨B, ρ, G, R0, h.bind fun d1 ρ1 G1 H1 x e1 R1 p1 h1 => ?_⟩
  cases hf : tru d1 with
  | none => simp only [hf] at h1; exact h1.elim
  | some k =>
    simp only [hf] at h1
    refine ⟨k, tru_of R1.gk p1 hf, ?_⟩
    cases k with
    | true => exact iteT ⟨B, ρ1, G1, R1, h1⟩
    | false => exact iteF (h1 x G1 H1 (Ext.refl _ _) R1 p1)
theorem de_or (ha : DE X cc a da) (hb : DE X cc (.BoolOp .Or (b :: rest) pos) db) : DE X cc (.BoolOp .Or (a :: b :: rest) pos) (dOrV da db) := by
  refine PE.imp (pe_orT ha hb) fun σ H Q ⟨B, ρ, G, R0, h⟩ => ⟨B, ρ, G, R0, h.bind fun d1 ρ1 G1 H1 x e1 R1 p1 h1 => ?_⟩
  cases hf : tru d1 with
  | none => simp only [hf] at h1; exact h1.elim
  | some k =>
    simp only [hf] at h1
    refine ⟨k, tru_of R1.gk p1 hf, ?_⟩
    cases k with
    | true => exact iteT (h1 x G1 H1 (Ext.refl _ _) R1 p1)
    | false => exact iteF ⟨B, ρ1, G1, R1, h1⟩
theorem de_not (ha : DE X cc a da) : DE X cc (.UnaryOp .Not a pos) (dNotV da) := by
  refine PE.imp (pe_notT ha) fun σ H Q ⟨B, ρ, G, R0, h⟩ => ⟨B, ρ, G, R0, h.bind fun d1 ρ1 G1 H1 x e1 R1 p1 h1 => ?_⟩
  cases hf : tru d1 with
  | none => simp only [hf, Option.map_none] at h1; exact h1.elim
  | some k =>
    simp only [hf, Option.map_some] at h1
    exact ⟨k, tru_of R1.gk p1 hf, h1 (.bl (!k)) G1 H1 (Ext.refl _ _) R1 (.bl _)⟩
def dIf (t : ENV → R Bool) (da db : ENV → R D) : ENV → R D := fun ρ => (t ρ).bind fun x ρ1 => if x = true then da ρ1 else db ρ1
theorem de_if (hc : DT X cc c ta) (ha : DE X cc a da) (hb : DE X cc b db) : DE X cc (.IfExp c a b pos) (dIf ta da db) := by
  refine PE.imp (pe_ifExp hc ha hb) fun σ H Q ⟨B, ρ, G, R0, h⟩ => ⟨B, ρ, G, R0, h.bind fun d1 ρ1 G1 H1 x e1 R1 p1 h1 => ?_⟩
  subst p1
  cases x with
  | true => exact iteT ⟨B, ρ1, G1, R1, h1⟩
  | false => exact iteF ⟨B, ρ1, G1, R1, h1⟩

/-! ### displays -/
def dNil : ENV → R (List D) := fun ρ => .ok [] ρ
def dCons (da : ENV → R D) (dr : ENV → R (List D)) : ENV → R (List D) := fun ρ => (da ρ).bind fun x ρ1 => (dr ρ1).bind fun xs ρ2 => .ok (x :: xs) ρ2
variable {dr : ENV → R (List D)} {es : List Expr}
theorem da_nil : DA X cc [] dNil := PA.imp pa_nil fun σ H Q ⟨B, ρ, G, R0, h⟩ => h [] G H (Ext.refl _ _) R0 .nil
theorem da_cons (ha : DE X cc e da) (hr : DA X cc es dr) (hs : starEach (e :: es) X.env = (false, eval e X.env) :: starEach es X.env := by rfl) : DA X cc (e :: es) (dCons da dr) := by
  refine PA.imp (pa_cons ha hr hs) fun σ H Q ⟨B, ρ, G, R0, h⟩ => ⟨B, ρ, G, R0, h.bind fun d1 ρ1 G1 H1 x e1 R1 p1 h1 => ⟨B, ρ1, G1, R1, h1.bind fun d2 ρ2 G2 H2 y e2 R2 p2 h2 => ?_⟩⟩
  exact h2 (x :: y) G2 H2 (Ext.refl _ _) R2 (.cons (p1.mono e2.gg) p2)
def dTup (dr : ENV → R (List D)) : ENV → R D := fun ρ => (dr ρ).bind fun xs ρ1 => if xs.length ≤ sizeLine then .ok (.tup xs) ρ1 else .bot
def dLst (dr : ENV → R (List D)) : ENV → R D := fun ρ => (dr ρ).bind fun xs ρ1 => if xs.length ≤ sizeLine then .ok (.lst xs) ρ1 else .bot
theorem ite_post {α β : Type} {K : PySem.W.Frag} {Vr : Hp → β → α → Prop} {B G : Hp} {σ : St} {Q : β → Hp → Prop} {p : Prop} [Decidable p] {r : R α} (h : Post K cc Vr B G σ Q (if p then r else .bot)) : p ∧ Post K cc Vr B G σ Q r := by
  by_cases q : p
  · rw [if_pos q] at h; exact ⟨q, h⟩
  · rw [if_neg q] at h; exact h.elim
theorem de_tuple {x1 : Nat} (h : DA X cc es dr) : DE X cc (.Tuple es x1 pos) (dTup dr) := by
  refine PE.imp (pe_tup h) fun σ H Q ⟨B, ρ, G, R0, h⟩ => ⟨B, ρ, G, R0, h.bind fun ds ρ1 G1 H1 xs e1 R1 p1 h1 => ?_⟩
  obtain ⟨hz, h1⟩ := ite_post h1
  refine ⟨by rw [p1.length]; exact hz, fun p hp => ?_⟩
  have g := Grow.new (o := .tup xs) R1.gk hp
  exact Post.fin h1 R1 (Ext.refl _ _) g (.tup (.inl (.inl upd_same)) (p1.mono g.gg))
theorem de_list (h : DA X cc es dr) : DE X cc (.List es pos) (dLst dr) := by
  refine PE.imp (pe_lst h) fun σ H Q ⟨B, ρ, G, R0, h⟩ => ⟨B, ρ, G, R0, h.bind fun ds ρ1 G1 H1 xs e1 R1 p1 h1 => ?_⟩
  obtain ⟨hz, h1⟩ := ite_post h1
  refine ⟨by rw [p1.length]; exact hz, fun p hp => ?_⟩
  have g := Grow.new (o := .lst xs) R1.gk hp
  exact Post.fin h1 R1 (Ext.refl _ _) g (.lst upd_same (p1.mono g.gg))
end
end Rf
set_option Elab.async false
set_option linter.all false
set_option maxRecDepth 100000
/-! Rf: operations on values -/
namespace Rf
open PySem L2
/-! ### data of the library -/
mutual
def D.toPy : D → PyData
  | .non => .none
  | .bl b => .bool b
  | .int i => .int i
  | .str x => .str x
  | .tup ds => .tuple (toPyL ds)
  | .lst ds => .list (toPyL ds)
  | .scr ds => .list (toPyL ds)
  | .ins _ _ => .dict []
  | .dic _ => .dict []
def toPyL : List D → List PyData
  | [] => []
  | d :: ds => d.toPy :: toPyL ds
end
mutual
theorem Rp.dp {K : PySem.W.Frag} {C : Nat → Addr} {G H : Hp} (s : Same G H) {v : V} {d : D} : Rp K C G v d → d.toPy.canLay0 = true → Dp K H v d.toPy
  | .non, _ => .non
  | .bl b, _ => .bl b
  | .int i, _ => .int i
  | .str x _, _ => .str x
  | .tup h r, c => .tup (same_seqT s h) (r.dp s (by simpa [D.toPy, PyData.canLay0] using c))
  | .lst h r, c => .lst (.inl (.inl (s _ _ h))) (r.dp s (by simpa [D.toPy, PyData.canLay0] using c))
  | .scr h r, c => .lst (Same.seq s h) (r.dp s (by simpa [D.toPy, PyData.canLay0] using c))
  | .ins _ _, c => by simp [D.toPy, PyData.canLay0] at c
  | .dic _ _, c => by simp [D.toPy, PyData.canLay0] at c
theorem RpL.dp {K : PySem.W.Frag} {C : Nat → Addr} {G H : Hp} (s : Same G H) {v : List V} {d : List D} : RpL K C G v d → PyData.canLayAll0 (toPyL d) = true → DpAll K H v (toPyL d)
  | .nil, _ => .nil
  | .cons h r, c => by
    have c' := Bool.and_eq_true_iff.mp (show (PyData.canLay0 _ && PyData.canLayAll0 _) = true by simpa [toPyL, PyData.canLayAll0] using c)
    exact .cons (h.dp s c'.1) (r.dp s c'.2)
end
def vEq (neg : Bool) (x y : D) : Option D := if SeqAt.shaped x.toPy = true ∧ SeqAt.shaped y.toPy = true then some (.bl (if neg then !PyData.eqv x.toPy y.toPy else PyData.eqv x.toPy y.toPy)) else none
section
variable {K : PySem.W.Frag} {C : Nat → Addr}
theorem Grow.here {G H : Hp} {Q : VK} {d : D} {v : V} (s : Same G H) (k : ∀ v G' H', Grow G H G' H' → Rp K C G' v d → Q v H') (p : Rp K C G v d) : Q v H := k v G H (Grow.refl s) p
theorem v2_eq : V2 K C (vEq false) (rEqD K) := by
  intro G H x y dx dy d Q s px py e k
  unfold vEq at e
  split at e
  · rename_i h
    cases e
    exact ⟨_, _, px.dp s (SeqAt.canLay_of_shaped h.1), py.dp s (SeqAt.canLay_of_shaped h.2), h.1, h.2, Grow.here s k (.bl _)⟩
  · cases e
theorem v2_ne : V2 K C (vEq true) (rNeD K) := by
  intro G H x y dx dy d Q s px py e k
  unfold vEq at e
  split at e
  · rename_i h
    cases e
    exact ⟨_, _, px.dp s (SeqAt.canLay_of_shaped h.1), py.dp s (SeqAt.canLay_of_shaped h.2), h.1, h.2, Grow.here s k (.bl _)⟩
  · cases e
/-- ints -/
def vI (f : Int → Int → Int) : D → D → Option D
  | .int i, .int j => some (.int (f i j))
  | _, _ => none
def vIc (c : Int → Int → Bool) (f : Int → Int → Int) : D → D → Option D
  | .int i, .int j => if c i j = true then some (.int (f i j)) else none
  | _, _ => none
def vB (f : Int → Int → Bool) : D → D → Option D
  | .int i, .int j => some (.bl (f i j))
  | _, _ => none
theorem v2_I {f : Int → Int → Int} : V2 K C (vI f) (rI0 fun i j => .int (f i j)) := by
  intro G H x y dx dy d Q s px py e k
  cases px with
  | int i =>
    cases py with
    | int j => cases e; exact ⟨i, j, rfl, rfl, Grow.here s k (.int _)⟩
    | _ => cases e
  | _ => cases e
theorem v2_Ic {c : Int → Int → Bool} {P : Int → Int → Prop} {f : Int → Int → Int} (hc : ∀ i j, c i j = true → P i j) : V2 K C (vIc c f) (rI P fun i j => .int (f i j)) := by
  intro G H x y dx dy d Q s px py e k
  cases px with
  | int i =>
    cases py with
    | int j =>
      dsimp only [vIc] at e
      split at e
      · rename_i h; cases e; exact ⟨i, j, rfl, rfl, hc i j h, Grow.here s k (.int _)⟩
      · cases e
    | _ => cases e
  | _ => cases e
theorem v2_B {f : Int → Int → Bool} : V2 K C (vB f) (rI0 fun i j => .bl (f i j)) := by
  intro G H x y dx dy d Q s px py e k
  cases px with
  | int i =>
    cases py with
    | int j => cases e; exact ⟨i, j, rfl, rfl, Grow.here s k (.bl _)⟩
    | _ => cases e
  | _ => cases e
/-- + -/
def vAddS : D → D → Option D
  | .str a, .str b => if a.length + b.length ≤ sizeLine then some (.str (a ++ b)) else none
  | _, _ => none
def vAddT : D → D → Option D
  | .tup a, .tup b => if a.length + b.length ≤ sizeLine then some (.tup (a ++ b)) else none
  | _, _ => none
def vAddL : D → D → Option D
  | .lst a, .lst b => if a.length + b.length ≤ sizeLine then some (.lst (a ++ b)) else none
  | _, _ => none
theorem v2_addS : V2 K C vAddS (fun x y H Q => ∃ i j, x = .str i ∧ y = .str j ∧ i.length + j.length ≤ sizeLine ∧ Q (.str (i ++ j)) H) := by
  intro G H x y dx dy d Q s px py e k
  cases px with
  | str i h1 =>
    cases py with
    | str j h2 =>
      dsimp only [vAddS] at e
      split at e
      · rename_i h; cases e; exact ⟨i, j, rfl, rfl, h, Grow.here s k (.str _ (by rw [Str.length_append]; exact h))⟩
      · cases e
    | _ => cases e
  | _ => cases e
theorem v2_addT : V2 K C vAddT (rCatA K) := by
  intro G H x y dx dy d Q s px py e k
  cases px with
  | @tup a xs ds h1 r1 =>
    cases py with
    | @tup b ys es h2 r2 =>
      dsimp only [vAddT] at e
      split at e
      · rename_i h
        cases e
        refine ⟨a, b, xs, ys, rfl, rfl, same_seqT s h1, same_seqT s h2, by rw [r1.length, r2.length]; exact h, fun q => ?_, fun q1 q2 => ?_, fun q1 q2 p hp => ?_⟩
        · subst q; cases r1; exact Grow.here s k (.tup h2 r2)
        · subst q2; cases r2; rw [List.append_nil] at k; exact Grow.here s k (.tup h1 r1)
        · have g := Grow.new (o := .tup (xs ++ ys)) s hp
          exact k _ _ _ g (.tup (.inl (.inl upd_same)) ((r1.mono g.gg).append (r2.mono g.gg)))
      · cases e
    | _ => cases e
  | _ => cases e
theorem v2_addL : V2 K C vAddL rCat := by
  intro G H x y dx dy d Q s px py e k
  cases px with
  | @lst a xs ds h1 r1 =>
    cases py with
    | @lst b ys es h2 r2 =>
      dsimp only [vAddL] at e
      split at e
      · rename_i h
        cases e
        refine ⟨a, b, xs, ys, rfl, rfl, s _ _ h1, s _ _ h2, by rw [r1.length, r2.length]; exact h, fun p hp => ?_⟩
        have g := Grow.new (o := .lst (xs ++ ys)) s hp
        exact k _ _ _ g (.lst upd_same ((r1.mono g.gg).append (r2.mono g.gg)))
      · cases e
    | _ => cases e
  | _ => cases e
def vAdd (x y : D) : Option D := match x with
  | .int _ => vI (fun i j => i + j) x y
  | .str _ => vAddS x y
  | .tup _ => vAddT x y
  | .lst _ => vAddL x y
  | _ => none
def rAddA (K : PySem.W.Frag) : R2 := fun x y H Q => rI0 (fun i j => V.int (i + j)) x y H Q ∨ (∃ i j, x = .str i ∧ y = .str j ∧ i.length + j.length ≤ sizeLine ∧ Q (.str (i ++ j)) H) ∨ rCatA K x y H Q ∨ rCat x y H Q
theorem v2_add : V2 K C vAdd (rAddA K) := by
  intro G H x y dx dy d Q s px py e k
  cases dx with
  | int i => exact .inl (v2_I s px py e k)
  | str i => exact .inr (.inl (v2_addS s px py e k))
  | tup i => exact .inr (.inr (.inl (v2_addT s px py e k)))
  | lst i => exact .inr (.inr (.inr (v2_addL s px py e k)))
  | _ => cases e
/-- x * k -/
def cMul (i j : Int) : Bool := decide (i.natAbs < 2 ^ 64) || decide (j.natAbs < 2 ^ 64) || decide (i.natAbs.log2 + j.natAbs.log2 < 1000000)
def cDiv (_ j : Int) : Bool := decide (0 < j) && decide (j.natAbs.log2 < 9000)
def cMod (_ j : Int) : Bool := decide (0 < j)
def cPow (i j : Int) : Bool := decide (0 ≤ j) && decide (j ≤ 1000000) && decide (i.natAbs < 2 ^ 64)
end
section
variable {X : Cx}
theorem op_addA : OpR X (binaryOp .Add) (rAddA X.K) := op_add.or (op_add_str.or (op_catA.or op_cat))
def PMul (i j : Int) : Prop := CMul i j ∨ CMulW i j
theorem op_mulA : OpR X (binaryOp .Mult) (rI PMul fun i j => .int (i * j)) := by
  intro pins s σ H x y v u Q I rx ry ⟨i, j, e1, e2, hc, q⟩
  rcases hc with h | h
  · exact op_mul pins s σ H x y v u Q I rx ry ⟨i, j, e1, e2, h, q⟩
  · exact op_mulW pins s σ H x y v u Q I rx ry ⟨i, j, e1, e2, h, q⟩
theorem cMul_ok (i j : Int) (h : cMul i j = true) : PMul i j := by
  unfold cMul at h
  simp only [Bool.or_eq_true, decide_eq_true_eq] at h
  rcases h with (h | h) | h
  · exact .inl (.inl (by omega))
  · exact .inl (.inr (by omega))
  · exact .inr h
theorem cDiv_ok (i j : Int) (h : cDiv i j = true) : CDivW i j := by
  unfold cDiv at h
  simp only [Bool.and_eq_true, decide_eq_true_eq] at h
  exact h
theorem cMod_ok (i j : Int) (h : cMod i j = true) : 0 < j := of_decide_eq_true h
theorem cPow_ok (i j : Int) (h : cPow i j = true) : CPow i j := by
  unfold cPow at h
  simp only [Bool.and_eq_true, decide_eq_true_eq] at h
  exact ⟨h.1.1, h.1.2, h.2⟩
end
section
variable {X : Cx} {cc : Cc} {a b e : Expr} {da db : ENV → R D} {pos : Pos}
abbrev dAdd := dOp vAdd
abbrev dSub := dOp (vI fun i j => i - j)
abbrev dMul := dOp (vIc cMul fun i j => i * j)
abbrev dDiv := dOp (vIc cDiv fun i j => i / j)
abbrev dMod := dOp (vIc cMod fun i j => i % j)
abbrev dPow := dOp (vIc cPow fun i j => i ^ j.toNat)
theorem de_add (ha : DE X cc a da) (hb : DE X cc b db) : DE X cc (.BinOp a .Add b pos) (dAdd da db) := de_op op_addA v2_add ha hb
theorem de_sub (ha : DE X cc a da) (hb : DE X cc b db) : DE X cc (.BinOp a .Sub b pos) (dSub da db) := de_op op_sub v2_I ha hb
theorem de_mul (ha : DE X cc a da) (hb : DE X cc b db) : DE X cc (.BinOp a .Mult b pos) (dMul da db) := de_op op_mulA (v2_Ic cMul_ok) ha hb
theorem de_div (ha : DE X cc a da) (hb : DE X cc b db) : DE X cc (.BinOp a .FloorDiv b pos) (dDiv da db) := de_op op_fdivW (v2_Ic cDiv_ok) ha hb
theorem de_mod (ha : DE X cc a da) (hb : DE X cc b db) : DE X cc (.BinOp a .Mod b pos) (dMod da db) := de_op op_mod (v2_Ic cMod_ok) ha hb
theorem de_pow (ha : DE X cc a da) (hb : DE X cc b db) : DE X cc (.BinOp a .Pow b pos) (dPow da db) := de_op op_pow (v2_Ic cPow_ok) ha hb
def vNeg : D → Option D
  | .int i => some (.int (-i))
  | _ => none
abbrev dNeg := dUn vNeg
theorem v1_neg {K : PySem.W.Frag} {C : Nat → Addr} : V1 K C vNeg (rU fun i => .int (-i)) := by
  intro G H x dx d Q s px e k
  cases px with
  | int i => cases e; exact ⟨i, rfl, Grow.here s k (.int _)⟩
  | _ => cases e
theorem de_neg (ha : DE X cc a da) : DE X cc (.UnaryOp .USub a pos) (dNeg da) := de_un un_neg v1_neg ha

/-! ### comparisons: by a kind -/
/-- texts are compared as they are -/
def vEqS (neg : Bool) (x y : D) : Option D := match x, y with
  | .str a, .str b => some (.bl (if neg then !decide (a = b) else decide (a = b)))
  | x, y => vEq neg x y
theorem dec_strV (a b : Str) : decide (V.str a = V.str b) = decide (a = b) := by
  by_cases h : a = b
  · subst h; simp
  · simp [h]
theorem v2_eqS {K : PySem.W.Frag} {C : Nat → Addr} : V2 K C (vEqS false) (fun x y H Q => rEq x y H Q ∨ rEqD K x y H Q) := by
  intro G H x y dx dy d Q s px py e k
  cases px with
  | str a ha =>
    cases py with
    | str b hb =>
      have e : some (D.bl (decide (a = b))) = some d := e
      cases e
      exact .inl ⟨rfl, by rw [dec_strV]; exact Grow.here s k (.bl _)⟩
    | non => exact .inr (v2_eq s (.str a ha) .non e k)
    | bl b => exact .inr (v2_eq s (.str a ha) (.bl b) e k)
    | int b => exact .inr (v2_eq s (.str a ha) (.int b) e k)
    | tup h r => exact .inr (v2_eq s (.str a ha) (.tup h r) e k)
    | lst h r => exact .inr (v2_eq s (.str a ha) (.lst h r) e k)
    | scr h r => exact .inr (v2_eq s (.str a ha) (.scr h r) e k)
    | dic h r => exact .inr (v2_eq s (.str a ha) (.dic h r) e k)
    | ins h r => exact .inr (v2_eq s (.str a ha) (.ins h r) e k)
  | non => exact .inr (v2_eq s .non py e k)
  | bl b => exact .inr (v2_eq s (.bl b) py e k)
  | int b => exact .inr (v2_eq s (.int b) py e k)
  | tup h r => exact .inr (v2_eq s (.tup h r) py e k)
  | lst h r => exact .inr (v2_eq s (.lst h r) py e k)
  | scr h r => exact .inr (v2_eq s (.scr h r) py e k)
  | dic h r => exact .inr (v2_eq s (.dic h r) py e k)
  | ins h r => exact .inr (v2_eq s (.ins h r) py e k)
theorem v2_neS {K : PySem.W.Frag} {C : Nat → Addr} : V2 K C (vEqS true) (fun x y H Q => rNe x y H Q ∨ rNeD K x y H Q) := by
  intro G H x y dx dy d Q s px py e k
  cases px with
  | str a ha =>
    cases py with
    | str b hb =>
      have e : some (D.bl (!decide (a = b))) = some d := e
      cases e
      exact .inl ⟨rfl, by rw [dec_strV]; exact Grow.here s k (.bl _)⟩
    | non => exact .inr (v2_ne s (.str a ha) .non e k)
    | bl b => exact .inr (v2_ne s (.str a ha) (.bl b) e k)
    | int b => exact .inr (v2_ne s (.str a ha) (.int b) e k)
    | tup h r => exact .inr (v2_ne s (.str a ha) (.tup h r) e k)
    | lst h r => exact .inr (v2_ne s (.str a ha) (.lst h r) e k)
    | scr h r => exact .inr (v2_ne s (.str a ha) (.scr h r) e k)
    | dic h r => exact .inr (v2_ne s (.str a ha) (.dic h r) e k)
    | ins h r => exact .inr (v2_ne s (.str a ha) (.ins h r) e k)
  | non => exact .inr (v2_ne s .non py e k)
  | bl b => exact .inr (v2_ne s (.bl b) py e k)
  | int b => exact .inr (v2_ne s (.int b) py e k)
  | tup h r => exact .inr (v2_ne s (.tup h r) py e k)
  | lst h r => exact .inr (v2_ne s (.lst h r) py e k)
  | scr h r => exact .inr (v2_ne s (.scr h r) py e k)
  | dic h r => exact .inr (v2_ne s (.dic h r) py e k)
  | ins h r => exact .inr (v2_ne s (.ins h r) py e k)
inductive CK where
  | lt | le | gt | ge | eq | ne | isN | notN | in_ | notIn | isB | notB
/-- x is True, x is False, of truths -/
def vIsB (neg : Bool) (x y : D) : Option D := match x, y with
  | .bl a, .bl b => some (.bl (if neg then !decide (a = b) else decide (a = b)))
  | _, _ => none
def vIs (neg : Bool) (x y : D) : Option D := match y with
  | .non => some (.bl (match x with | .non => !neg | _ => neg))
  | _ => none
/-- in a list, in a tuple, a text in a text -/
def vIn (neg : Bool) (x y : D) : Option D :=
  let fin (ds : List D) : Option D := if SeqAt.shaped x.toPy = true ∧ PyData.canLayAll0 (toPyL ds) = true then some (.bl (if neg then !((toPyL ds).any fun z => PyData.eqv z x.toPy) else (toPyL ds).any fun z => PyData.eqv z x.toPy)) else none
  match y with
  | .lst ds => fin ds
  | .scr ds => fin ds
  | .tup ds => fin ds
  | .str z => match x with
    | .str c => some (.bl (if neg then !(!(Builtin.Str.occurrences z c 0 z.length 1).isEmpty) else !(Builtin.Str.occurrences z c 0 z.length 1).isEmpty))
    | _ => none
  | _ => none
def rInA (K : PySem.W.Frag) (neg : Bool) : R2 := fun x y H Q => (∃ d e ds, Dp K H x d ∧ Dp K H y e ∧ (e = .list ds ∨ e = .tuple ds) ∧ SeqAt.shaped d = true ∧ PyData.canLayAll0 ds = true ∧ Q (.bl (if neg then !(ds.any fun z => PyData.eqv z d) else ds.any fun z => PyData.eqv z d)) H) ∨
  ∃ i j, x = .str i ∧ y = .str j ∧ Q (.bl (if neg then !(!(Builtin.Str.occurrences j i 0 j.length 1).isEmpty) else !(Builtin.Str.occurrences j i 0 j.length 1).isEmpty)) H
theorem op_inA (hu : X.A.units + 65 < cLine) : OpR X (compareOp .In) (rInA X.K false) := by
  intro pins s σ H x y v u Q I rx ry h
  rcases h with ⟨d, e, ds, hd, he, hk, sd, se, q⟩ | ⟨i, j, e1, e2, q⟩
  · obtain ⟨as, r1⟩ := Dp.reads I d x v hd rx
    obtain ⟨bs, r2⟩ := Dp.reads I e y u he ry
    rcases hk with rfl | rfl
    · exact SeqAt.in_list_reads r2 r1 se (SeqAt.canLay_of_shaped sd) (PyProof.Rows.room_in_shaped sd hu) ⟨.bl _, H, I, rfl, q⟩
    · exact SeqAt.in_tuple_reads r2 r1 se (SeqAt.canLay_of_shaped sd) (PyProof.Rows.room_in_shaped sd hu) ⟨.bl _, H, I, rfl, q⟩
  · exact op_in_str pins s σ H x y v u Q I rx ry ⟨i, j, e1, e2, q⟩
theorem op_notInA (hu : X.A.units + 65 < cLine) : OpR X (compareOp .NotIn) (rInA X.K true) := by
  intro pins s σ H x y v u Q I rx ry h
  rcases h with ⟨d, e, ds, hd, he, hk, sd, se, q⟩ | ⟨i, j, e1, e2, q⟩
  · obtain ⟨as, r1⟩ := Dp.reads I d x v hd rx
    obtain ⟨bs, r2⟩ := Dp.reads I e y u he ry
    rcases hk with rfl | rfl
    · exact SeqAt.notIn_list_reads r2 r1 se (SeqAt.canLay_of_shaped sd) (PyProof.Rows.room_in_shaped sd hu) ⟨.bl _, H, I, rfl, q⟩
    · exact SeqAt.notIn_tuple_reads r2 r1 se (SeqAt.canLay_of_shaped sd) (PyProof.Rows.room_in_shaped sd hu) ⟨.bl _, H, I, rfl, q⟩
  · exact L2.op_notIn_str pins s σ H x y v u Q I rx ry ⟨i, j, e1, e2, q⟩
theorem v2_in {K : PySem.W.Frag} {C : Nat → Addr} {neg : Bool} : V2 K C (vIn neg) (rInA K neg) := by
  intro G H x y dx dy d Q s px py e k
  have go : ∀ (ds : List D) (w : PyData), (w = .list (toPyL ds) ∨ w = .tuple (toPyL ds)) → (PyData.canLayAll0 (toPyL ds) = true → Dp K H y w) →
      (if SeqAt.shaped dx.toPy = true ∧ PyData.canLayAll0 (toPyL ds) = true then some (D.bl (if neg then !((toPyL ds).any fun z => PyData.eqv z dx.toPy) else (toPyL ds).any fun z => PyData.eqv z dx.toPy)) else none) = some d → rInA K neg x y H Q := by
    intro ds w hw hd e
    split at e
    · rename_i h
      cases e
      exact .inl ⟨_, w, _, px.dp s (SeqAt.canLay_of_shaped h.1), hd h.2, hw, h.1, h.2, Grow.here s k (.bl _)⟩
    · cases e
  cases py with
  | @lst a xs ds h r => exact go ds _ (.inl rfl) (fun c => .lst (.inl (.inl (s _ _ h))) (r.dp s c)) e
  | @scr a xs ds h r => exact go ds _ (.inl rfl) (fun c => .lst (Same.seq s h) (r.dp s c)) e
  | @tup a xs ds h r => exact go ds _ (.inr rfl) (fun c => .tup (same_seqT s h) (r.dp s c)) e
  | str z hz =>
    cases px with
    | str c hc => cases e; exact .inr ⟨c, z, rfl, rfl, Grow.here s k (.bl _)⟩
    | _ => cases e
  | _ => cases e
theorem v2_is {K : PySem.W.Frag} {C : Nat → Addr} : V2 K C (vIs false) (fun x y H Q => y = .non ∧ Q (.bl (decide (x = .non))) H) := by
  intro G H x y dx dy d Q s px py e k
  cases py with
  | non =>
    cases e
    refine ⟨rfl, ?_⟩
    cases px with
    | non => exact Grow.here s k (.bl _)
    | _ => exact Grow.here s k (.bl _)
  | _ => cases e
theorem v2_isNot {K : PySem.W.Frag} {C : Nat → Addr} : V2 K C (vIs true) (fun x y H Q => y = .non ∧ Q (.bl (!decide (x = .non))) H) := by
  intro G H x y dx dy d Q s px py e k
  cases py with
  | non =>
    cases e
    refine ⟨rfl, ?_⟩
    cases px with
    | non => exact Grow.here s k (.bl _)
    | _ => exact Grow.here s k (.bl _)
  | _ => cases e
theorem v2_isB {K : PySem.W.Frag} {C : Nat → Addr} : V2 K C (vIsB false) (fun x y H Q => ∃ a b, x = .bl a ∧ y = .bl b ∧ Q (.bl (decide (a = b))) H) := by
  intro G H x y dx dy d Q s px py e k
  cases px with
  | bl a =>
    cases py with
    | bl b => cases e; exact ⟨a, b, rfl, rfl, Grow.here s k (.bl _)⟩
    | _ => cases e
  | _ => cases e
theorem v2_notB {K : PySem.W.Frag} {C : Nat → Addr} : V2 K C (vIsB true) (fun x y H Q => ∃ a b, x = .bl a ∧ y = .bl b ∧ Q (.bl (!decide (a = b))) H) := by
  intro G H x y dx dy d Q s px py e k
  cases px with
  | bl a =>
    cases py with
    | bl b => cases e; exact ⟨a, b, rfl, rfl, Grow.here s k (.bl _)⟩
    | _ => cases e
  | _ => cases e
def CK.op : CK → CmpOp
  | .lt => .Lt | .le => .LtE | .gt => .Gt | .ge => .GtE | .eq => .Eq | .ne => .NotEq | .isN => .Is | .notN => .IsNot | .in_ => .In | .notIn => .NotIn | .isB => .Is | .notB => .IsNot
def CK.f : CK → D → D → Option D
  | .lt => vB fun i j => decide (i < j)
  | .le => vB fun i j => decide (i ≤ j)
  | .gt => vB fun i j => decide (j < i)
  | .ge => vB fun i j => decide (j ≤ i)
  | .eq => vEqS false | .ne => vEqS true | .isN => vIs false | .notN => vIs true | .in_ => vIn false | .notIn => vIn true | .isB => vIsB false | .notB => vIsB true
def CK.r (K : PySem.W.Frag) : CK → R2
  | .lt => rI0 fun i j => .bl (decide (i < j))
  | .le => rI0 fun i j => .bl (decide (i ≤ j))
  | .gt => rI0 fun i j => .bl (decide (j < i))
  | .ge => rI0 fun i j => .bl (decide (j ≤ i))
  | .eq => fun x y H Q => rEq x y H Q ∨ rEqD K x y H Q
  | .ne => fun x y H Q => rNe x y H Q ∨ rNeD K x y H Q
  | .isN => fun x y H Q => y = .non ∧ Q (.bl (decide (x = .non))) H
  | .notN => fun x y H Q => y = .non ∧ Q (.bl (!decide (x = .non))) H
  | .in_ => rInA K false | .notIn => rInA K true
  | .isB => fun x y H Q => ∃ a b, x = .bl a ∧ y = .bl b ∧ Q (.bl (decide (a = b))) H
  | .notB => fun x y H Q => ∃ a b, x = .bl a ∧ y = .bl b ∧ Q (.bl (!decide (a = b))) H
theorem CK.ok (k : CK) (hu : X.A.units + 65 < cLine) : OpR X (compareOp k.op) (k.r X.K) := by
  cases k with
  | lt => exact op_lt
  | le => exact op_le
  | gt => exact op_gt
  | ge => exact op_ge
  | eq => exact op_eq.or (op_eqD (by omega))
  | ne => exact op_ne.or (op_neD (by omega))
  | isN => exact op_isN
  | notN => exact op_notN
  | in_ => exact op_inA hu
  | notIn => exact op_notInA hu
  | isB => exact op_is_bl
  | notB => exact op_isnot_bl
theorem CK.v (k : CK) {K : PySem.W.Frag} {C : Nat → Addr} : V2 K C k.f (k.r K) := by
  cases k with
  | lt => exact v2_B
  | le => exact v2_B
  | gt => exact v2_B
  | ge => exact v2_B
  | eq => exact v2_eqS
  | ne => exact v2_neS
  | isN => exact v2_is
  | notN => exact v2_isNot
  | in_ => exact v2_in
  | notIn => exact v2_in
  | isB => exact v2_isB
  | notB => exact v2_notB
abbrev dCmp (k : CK) := dOp k.f
theorem de_c (k : CK) (hu : X.A.units + 65 < cLine) (ha : DE X cc a da) (hb : DE X cc b db) (hm : behindInMarks k.op b = false := by rfl) : DE X cc (.Compare a [k.op] [b] pos) (dCmp k da db) := de_cmp (k.ok hu) k.v hm ha hb
theorem dt_c (k : CK) (hu : X.A.units + 65 < cLine) (ha : DE X cc a da) (hb : DE X cc b db) (hm : behindInMarks k.op b = false := by rfl) : DT X cc (.Compare a [k.op] [b] pos) (dT (dCmp k da db)) := dt_cmp (k.ok hu) k.v hm ha hb
/-- a k1 b k2 c -/
def dChain (f g : D → D → Option D) (da db dc : ENV → R D) : ENV → R D := fun ρ => (da ρ).bind fun x ρ1 => (db ρ1).bind fun y ρ2 => match f x y with
  | some (.bl true) => (dc ρ2).bind fun z ρ3 => R.of (g y z) ρ3
  | some (.bl false) => .ok (.bl false) ρ2
  | _ => .bot
variable {c : Expr} {dc : ENV → R D}
theorem chain_core {f g : D → D → Option D} {r r' : R2} (h1 : V2 X.K cc.C f r) (h2 : V2 X.K cc.C g r') : ∀ σ H Q, rE X.K cc (dChain f g da db dc) σ H Q → tChain r r' (rE X.K cc da) (rE X.K cc db) (rE X.K cc dc) σ H Q := by
  intro σ H Q ⟨B, ρ, G, R0, h⟩
  refine ⟨B, ρ, G, R0, h.bind fun d1 ρ1 G1 H1 x e1 R1 p1 q1 => ⟨B, ρ1, G1, R1, q1.bind fun d2 ρ2 G2 H2 y e2 R2 p2 q2 => ?_⟩⟩
  cases hf : f d1 d2 with
  | none => simp only [hf] at q2; exact q2.elim
  | some d =>
    cases d with
    | bl k =>
      refine h1 R2.gk (p1.mono e2.gg) p2 hf fun v G' H' gr p => ?_
      cases p
      refine ⟨k, rfl, ?_⟩
      have R3 := R2.grow gr
      cases k with
      | false =>
        simp only [hf] at q2
        exact iteF (Post.fin q2 R2 (Ext.refl _ _) gr (.bl false))
      | true =>
        simp only [hf] at q2
        refine iteT ⟨B, ρ2, G', R3, ?_⟩
        have q3 : Post X.K cc (Rp X.K cc.C) B G' σ Q ((dc ρ2).bind fun z ρ3 => R.of (g d2 z) ρ3) := by
          revert q2
          cases ((dc ρ2).bind fun z ρ3 => R.of (g d2 z) ρ3) with
          | ok a ρ => exact fun q v G' H' e R p => q v G' H' ((gr.ext R2.bk).trans e) R p
          | exc a ρ => exact fun q cl dd G' H' e R p => q cl dd G' H' ((gr.ext R2.bk).trans e) R p
          | bot => exact id
        refine q3.bind fun d3 ρ3 G3 H3 z e3 R3' p3 q3 => ?_
        cases hg : g d2 d3 with
        | none => rw [hg] at q3; exact q3.elim
        | some d =>
          rw [hg] at q3
          exact h2 R3'.gk (p2.mono (gr.gg.trans e3.gg)) p3 hg fun v G' H' g p => Post.fin q3 R3' (Ext.refl _ _) g p
    | _ => simp only [hf] at q2; exact q2.elim
theorem de_chain (k k' : CK) (hu : X.A.units + 65 < cLine) (ha : DE X cc a da) (hb : DE X cc b db) (hc : DE X cc c dc) (hm : lastMarks [k.op, k'.op] [b, c] = false := by with_unfolding_all rfl) : DE X cc (.Compare a [k.op, k'.op] [b, c] pos) (dChain k.f k'.f da db dc) :=
  PE.imp (pe_chain (k.ok hu) (k'.ok hu) ha hb hc hm) (chain_core k.v k'.v)
theorem dt_chain (k k' : CK) (hu : X.A.units + 65 < cLine) (ha : DE X cc a da) (hb : DE X cc b db) (hc : DE X cc c dc) (hm : lastMarks [k.op, k'.op] [b, c] = false := by with_unfolding_all rfl) : DT X cc (.Compare a [k.op, k'.op] [b, c] pos) (dT (dChain k.f k'.f da db dc)) :=
  PT.imp (pt_chain (k.ok hu) (k'.ok hu) ha hb hc hm) (test_core (chain_core k.v k'.v))

/-! ### items, slices -/
def vIx : D → D → Option D
  | .tup ds, .int i => atI ds i
  | .tup ds, .bl b => atI ds (if b then 1 else 0)
  | .lst ds, .int i => atI ds i
  | .scr ds, .int i => atI ds i
  | .str z, .int i => (atI z.cps.toList i).map fun c => .str ⟨#[c]⟩
  | _, _ => none
theorem RpL.atI {K : PySem.W.Frag} {C : Nat → Addr} {G : Hp} {v : List V} {d : List D} {i : Int} {x : D} (r : RpL K C G v d) (e : L2.atI d i = some x) : ∃ y, L2.atI v i = some y ∧ Rp K C G y x := by
  unfold L2.atI at e ⊢
  rw [r.length]
  cases h : ixN d.length i with
  | none => rw [h] at e; cases e
  | some j => rw [h] at e; exact r.get e
theorem sign_len (c : Nat) : (⟨#[c]⟩ : Str).length ≤ sizeLine := by rw [sizeLine_eq]; show 1 ≤ _; decide
def vIxI : D → D → Option D
  | .tup ds, .int i => atI ds i
  | .lst ds, .int i => atI ds i
  | .scr ds, .int i => atI ds i
  | .str z, .int i => (atI z.cps.toList i).map fun c => .str ⟨#[c]⟩
  | _, _ => none
theorem v2_ix {K : PySem.W.Frag} {C : Nat → Addr} : V2 K C vIxI (rIx K) := by
  intro G H x y dx dy d Q s px py e k
  cases py with
  | int i =>
    cases px with
    | tup h r =>
      obtain ⟨z, h1, h2⟩ := r.atI (show L2.atI _ i = some d from e)
      exact .inr (.inl ⟨_, _, i, z, rfl, rfl, same_seqT s h, h1, Grow.here s k h2⟩)
    | lst h r =>
      obtain ⟨z, h1, h2⟩ := r.atI (show L2.atI _ i = some d from e)
      exact .inl ⟨_, _, i, z, rfl, rfl, .inl (.inl (s _ _ h)), h1, Grow.here s k h2⟩
    | scr h r =>
      obtain ⟨z, h1, h2⟩ := r.atI (show L2.atI _ i = some d from e)
      exact .inl ⟨_, _, i, z, rfl, rfl, Same.seq s h, h1, Grow.here s k h2⟩
    | str z hz =>
      have e : (L2.atI z.cps.toList i).map (fun c => D.str ⟨#[c]⟩) = some d := e
      cases hc : L2.atI z.cps.toList i with
      | none => rw [hc] at e; cases e
      | some c =>
        rw [hc] at e; cases e
        exact .inr (.inr ⟨z, i, c, rfl, rfl, hz, hc, Grow.here s k (.str _ (sign_len c))⟩)
    | _ => cases e
  | _ => cases px <;> cases e
abbrev dIx := dOp vIxI
theorem de_ix (ha : DE X cc a da) (hb : DE X cc b db) (hs : PlainIx b := by intro _ _; rfl) : DE X cc (.Subscript a b pos) (dIx da db) := PE.imp (pe_ix ix_seq ha hb hs) (op_core v2_ix)
end
end Rf
set_option Elab.async false
set_option linter.all false
set_option maxRecDepth 100000
/-! Rf: slices, built-ins, walks, comprehensions, fresh objects -/
namespace Rf
open PySem L2
section
variable {X : Cx} {cc : Cc} {a b c e : Expr} {da db dc : ENV → R D} {pos : Pos} {es : List Expr} {dr : ENV → R (List D)}
/-! ### slices -/
def dNoPart : ENV → R (Option Int) := fun ρ => .ok none ρ
def dPart (da : ENV → R D) : ENV → R (Option Int) := fun ρ => (da ρ).bind fun x ρ1 => match x with
  | .int i => .ok (some i) ρ1
  | _ => .bot
def rO (K : PySem.W.Frag) (cc : Cc) (den : ENV → R (Option Int)) : TO := fun σ H Q => ∃ B ρ G, Rl K cc B ρ σ G H ∧ Post K cc (fun _ b c => b = c) B G σ Q (den ρ)
def DO (X : Cx) (cc : Cc) (e : Option Expr) (den : ENV → R (Option Int)) : Prop := PO X e (rO X.K cc den)
theorem PO.imp {e : Option Expr} {t t' : TO} (h : PO X e t) (k : ∀ σ H Q, t' σ H Q → t σ H Q) : PO X e t' := ⟨fun pins s σ H Q I q => h.run pins s σ H Q I (k _ _ _ q)⟩
theorem do_none : DO X cc none dNoPart := PO.imp po_none fun σ H Q ⟨B, ρ, G, R0, h⟩ => h none G H (Ext.refl _ _) R0 rfl
theorem do_some (ha : DE X cc a da) : DO X cc (some a) (dPart da) := by
  refine PO.imp (po_some ha) fun σ H Q ⟨B, ρ, G, R0, h⟩ => ⟨B, ρ, G, R0, Post.bind (V2 := fun _ b c => b = c) h fun d1 ρ1 G1 H1 x e1 R1 p1 h1 => ?_⟩
  cases p1 with
  | int i => exact ⟨i, rfl, h1 (some i) G1 H1 (Ext.refl _ _) R1 rfl⟩
  | _ => exact h1.elim
def cutD (xs : List D) (lo hi : Option Int) : List D := (xs.drop (HT.sIx xs.length 0 lo)).take (HT.sIx xs.length xs.length hi - HT.sIx xs.length 0 lo)
def vSl (x : D) (lo hi : Option Int) : Option D := match x with
  | .tup ds => some (.tup (cutD ds lo hi))
  | .lst ds => some (.lst (cutD ds lo hi))
  | .str z => some (.str (cutS z lo hi))
  | _ => none
def rSlA2 (K : PySem.W.Frag) : V → Option Int → Option Int → Hp → VK → Prop := fun x lo hi H Q => rSlA K x lo hi H Q ∨ rSlL K x lo hi H Q ∨ rSlS x lo hi H Q
theorem RpL.cut {K : PySem.W.Frag} {C : Nat → Addr} {G : Hp} {v : List V} {d : List D} (r : RpL K C G v d) (lo hi : Option Int) : RpL K C G (cutV v lo hi) (cutD d lo hi) := by
  unfold cutV cutD
  rw [r.length]
  exact (r.drop _).take _
theorem cutD_whole (ds : List D) (lo hi : Option Int) (h : HT.sIx ds.length 0 lo = 0 ∧ HT.sIx ds.length ds.length hi = ds.length) : cutD ds lo hi = ds := by
  unfold cutD
  rw [h.1, h.2]
  simp
def dSl (da : ENV → R D) (dl dh : ENV → R (Option Int)) : ENV → R D := fun ρ => (da ρ).bind fun x ρ1 => (dl ρ1).bind fun l ρ2 => (dh ρ2).bind fun h ρ3 => R.of (vSl x l h) ρ3
theorem de_sl {lo hi : Option Expr} {dl dh : ENV → R (Option Int)} {p2 : Pos} (ha : DE X cc a da) (hl : DO X cc lo dl) (hh : DO X cc hi dh) : DE X cc (.Subscript a (.Slice lo hi none p2) pos) (dSl da dl dh) := by
  refine PE.imp (pe_slice (sl_tupA.or (sl_list.or sl_str)) ha hl hh) fun σ H Q ⟨B, ρ, G, R0, h⟩ => ⟨B, ρ, G, R0, h.bind fun d1 ρ1 G1 H1 x e1 R1 p1 h1 => ⟨B, ρ1, G1, R1, Post.bind (V1 := fun _ b c => b = c) h1 fun l ρ2 G2 H2 l' e2 R2 p2 h2 =>
    ⟨B, ρ2, G2, R2, Post.bind (V1 := fun _ b c => b = c) h2 fun u ρ3 G3 H3 u' e3 R3 p3 h3 => ?_⟩⟩⟩
  subst p2 p3
  have p1 := p1.mono (e2.gg.trans e3.gg)
  cases p1 with
  | @tup a xs ds h r =>
    refine .inl ⟨a, xs, rfl, same_seqT R3.gk h, fun q => ?_, fun q p hp => ?_⟩
    · refine Post.fin h3 R3 (Ext.refl _ _) (Grow.refl R3.gk) ?_
      rw [cutD_whole ds _ _ (by rw [← r.length]; exact q)]
      exact .tup h r
    · have g := Grow.new (o := .tup (cutV xs l' u')) R3.gk hp
      exact Post.fin h3 R3 (Ext.refl _ _) g (.tup (.inl (.inl upd_same)) ((r.cut _ _).mono g.gg))
  | @lst a xs ds h r =>
    refine .inr (.inl ⟨a, xs, rfl, .inl (.inl (R3.gk _ _ h)), fun p hp => ?_⟩)
    have g := Grow.new (o := .lst (cutV xs l' u')) R3.gk hp
    exact Post.fin h3 R3 (Ext.refl _ _) g (.lst upd_same ((r.cut _ _).mono g.gg))
  | str z hz => exact .inr (.inr ⟨z, rfl, hz, Post.fin h3 R3 (Ext.refl _ _) (Grow.refl R3.gk) (.str _ (Nat.le_trans (cutS_length z _ _) hz))⟩)
  | _ => exact h3.elim

/-! ### built-ins by values -/
def dB (f : List D → Option D) (dr : ENV → R (List D)) : ENV → R D := fun ρ => (dr ρ).bind fun xs ρ1 => R.of (f xs) ρ1
def VB (K : PySem.W.Frag) (C : Nat → Addr) (f : List D → Option D) (r : List V → Hp → VK → Prop) : Prop :=
  ∀ {G H : Hp} {xs : List V} {ds : List D} {d : D} {Q : VK}, Same G H → RpL K C G xs ds → f ds = some d → (∀ v G' H', Grow G H G' H' → Rp K C G' v d → Q v H') → r xs H Q
theorem cb_core {r : List V → Hp → VK → Prop} {f : List D → Option D} (hv : VB X.K cc.C f r) : ∀ σ H Q, rE X.K cc (dB f dr) σ H Q → tCB r (rA X.K cc dr) σ H Q := by
  intro σ H Q ⟨B, ρ, G, R0, h⟩
  refine ⟨B, ρ, G, R0, h.bind fun d1 ρ1 G1 H1 x e1 R1 p1 h1 => ?_⟩
  cases hf : f d1 with
  | none => rw [hf] at h1; exact h1.elim
  | some d =>
    rw [hf] at h1
    exact hv R1.gk p1 hf fun v G' H' g p => Post.fin h1 R1 (Ext.refl _ _) g p
theorem de_B {id : String} {x : Str} {p : Pos} {r : List V → Hp → VK → Prop} {f : List D → Option D} (hc : CallR X (.builtin id) r) (hf : VB X.K cc.C f r) (hg : Gl X x) (hm : X.mg x = none) (hv : bootBuiltins x = some (.builtin id)) (ha : DA X cc (e :: es) dr)
    (hn : x ≠ "__name__" := by decide) (hdb : (x == ("__debug__" : Str)) = false := by decide) (he : starEach (e :: es) X.env = (false, eval e X.env) :: starEach es X.env := by rfl) (hpl : (backTo pos (starEach es X.env)).any (·.1) = false := by rfl) :
    DE X cc (.Call (.Name x p) (e :: es) [] pos) (dB f dr) := PE.imp (pe_callB hc hg hm hv ha hn hdb he hpl) (cb_core hf)
theorem de_T {T : String} {x : Str} {p : Pos} {r : List V → Hp → VK → Prop} {f : List D → Option D} (hc : CallR X (.type T) r) (hf : VB X.K cc.C f r) (hg : Gl X x) (hm : X.mg x = none) (hv : bootBuiltins x = some (.type T)) (ha : DA X cc (e :: es) dr)
    (hn : x ≠ "__name__" := by decide) (hdb : (x == ("__debug__" : Str)) = false := by decide) (he : starEach (e :: es) X.env = (false, eval e X.env) :: starEach es X.env := by rfl) (hpl : (backTo pos (starEach es X.env)).any (·.1) = false := by rfl) :
    DE X cc (.Call (.Name x p) (e :: es) [] pos) (dB f dr) := PE.imp (pe_callTy hc hg hm hv ha hn hdb he hpl) (cb_core hf)
variable {K : PySem.W.Frag} {C : Nat → Addr}
def fLen : List D → Option D
  | [.str z] => some (.int z.length)
  | [.tup ds] => some (.int ds.length)
  | [.lst ds] => some (.int ds.length)
  | [.scr ds] => some (.int ds.length)
  | _ => none
def rLen (K : PySem.W.Frag) : List V → Hp → VK → Prop := fun xs H Q => (∃ p ys, xs = [.ref p] ∧ (SqL K H p ys ∨ SqT K H p ys) ∧ Q (.int ys.length) H) ∨ ∃ z, xs = [.str z] ∧ z.length ≤ sizeLine ∧ Q (.int z.length) H
theorem vb_len : VB K C fLen (rLen K) := by
  intro G H xs ds d Q s r e k
  cases r with
  | nil => cases e
  | cons h t =>
    cases t with
    | cons _ _ => cases h <;> cases e
    | nil =>
      cases h with
      | str z hz => cases e; exact .inr ⟨z, rfl, hz, Grow.here s k (.int _)⟩
      | tup h r => cases e; exact .inl ⟨_, _, rfl, .inr (same_seqT s h), by rw [r.length]; exact Grow.here s k (.int _)⟩
      | lst h r => cases e; exact .inl ⟨_, _, rfl, .inl (.inl (.inl (s _ _ h))), by rw [r.length]; exact Grow.here s k (.int _)⟩
      | scr h r => cases e; exact .inl ⟨_, _, rfl, .inl (Same.seq s h), by rw [r.length]; exact Grow.here s k (.int _)⟩
      | _ => cases e
def fInt : List D → Option D
  | [.int i] => some (.int i)
  | [.bl b] => some (.int (if b then 1 else 0))
  | _ => none
theorem vb_int : VB K C fInt (fun xs H Q => (∃ i, xs = [.int i] ∧ Q (.int i) H) ∨ ∃ k, xs = [.bl k] ∧ Q (.int (if k then 1 else 0)) H) := by
  intro G H xs ds d Q s r e k
  cases r with
  | nil => cases e
  | cons h t =>
    cases t with
    | cons _ _ => cases h <;> cases e
    | nil =>
      cases h with
      | int i => cases e; exact .inl ⟨i, rfl, Grow.here s k (.int _)⟩
      | bl i => cases e; exact .inr ⟨i, rfl, Grow.here s k (.int _)⟩
      | _ => cases e
def fAbs : List D → Option D
  | [.int i] => some (.int (if i < 0 then -i else i))
  | _ => none
theorem vb_abs : VB K C fAbs (fun xs H Q => ∃ i, xs = [.int i] ∧ Q (.int (if i < 0 then -i else i)) H) := by
  intro G H xs ds d Q s r e k
  cases r with
  | nil => cases e
  | cons h t =>
    cases t with
    | cons _ _ => cases h <;> cases e
    | nil =>
      cases h with
      | int i => cases e; exact ⟨i, rfl, Grow.here s k (.int _)⟩
      | _ => cases e
def fTuple : List D → Option D
  | [.lst ds] => some (.tup ds)
  | [.scr ds] => some (.tup ds)
  | [.tup ds] => some (.tup ds)
  | _ => none
theorem vb_tuple : VB K C fTuple (fun xs H Q => ∃ p ys, xs = [.ref p] ∧ ((SqL K H p ys ∧ ∀ l, H l = none → Q (.ref l) (upd H l (.tup ys))) ∨ (SqT K H p ys ∧ Q (.ref p) H))) := by
  intro G H xs ds d Q s r e k
  have go : ∀ {p : Addr} {ys : List V} {es : List D}, SqL K H p ys → RpL K C G ys es → d = .tup es → ∃ q zs, [V.ref p] = [V.ref q] ∧ ((SqL K H q zs ∧ ∀ l, H l = none → Q (.ref l) (upd H l (.tup zs))) ∨ (SqT K H q zs ∧ Q (.ref q) H)) := by
    intro p ys es h r e
    subst e
    refine ⟨p, ys, rfl, .inl ⟨h, fun l hl => ?_⟩⟩
    have g := Grow.new (o := .tup ys) s hl
    exact k _ _ _ g (.tup (.inl (.inl upd_same)) (r.mono g.gg))
  cases r with
  | nil => cases e
  | cons h t =>
    cases t with
    | cons _ _ => cases h <;> cases e
    | nil =>
      cases h with
      | lst h r => cases e; exact go (.inl (.inl (s _ _ h))) r rfl
      | scr h r => cases e; exact go (Same.seq s h) r rfl
      | tup h r => cases e; exact ⟨_, _, rfl, .inr ⟨same_seqT s h, Grow.here s k (.tup h r)⟩⟩
      | _ => cases e
def fList : List D → Option D
  | [.lst ds] => some (.lst ds)
  | [.scr ds] => some (.lst ds)
  | [.tup ds] => some (.lst ds)
  | _ => none
theorem vb_list : VB K C fList (fun xs H Q => ∃ p ys, xs = [.ref p] ∧ (SqL K H p ys ∨ SqT K H p ys) ∧ ∀ l, H l = none → Q (.ref l) (upd H l (.lst ys))) := by
  intro G H xs ds d Q s r e k
  have go : ∀ {p : Addr} {ys : List V} {es : List D}, (SqL K H p ys ∨ SqT K H p ys) → RpL K C G ys es → d = .lst es → ∃ q zs, [V.ref p] = [V.ref q] ∧ (SqL K H q zs ∨ SqT K H q zs) ∧ ∀ l, H l = none → Q (.ref l) (upd H l (.lst zs)) := by
    intro p ys es h r e
    subst e
    refine ⟨p, ys, rfl, h, fun l hl => ?_⟩
    have g := Grow.new (o := .lst ys) s hl
    exact k _ _ _ g (.lst upd_same (r.mono g.gg))
  cases r with
  | nil => cases e
  | cons h t =>
    cases t with
    | cons _ _ => cases h <;> cases e
    | nil =>
      cases h with
      | lst h r => cases e; exact go (.inl (.inl (.inl (s _ _ h)))) r rfl
      | scr h r => cases e; exact go (.inl (Same.seq s h)) r rfl
      | tup h r => cases e; exact go (.inr (same_seqT s h)) r rfl
      | _ => cases e
/-- the truths of a list -/
def bools : List D → Option (List Bool)
  | [] => some []
  | .bl b :: r => (bools r).map (b :: ·)
  | _ => none
theorem RpL.bools {G : Hp} : ∀ {vs : List V} {ds : List D} {bs : List Bool}, RpL K C G vs ds → Rf.bools ds = some bs → vs = bs.map V.bl
  | _, _, bs, .nil, e => by cases e; rfl
  | _, _, bs, .cons (d := d) h r, e => by
    cases h with
    | bl b =>
      unfold Rf.bools at e
      rename_i ds
      cases h2 : Rf.bools ds with
      | none => rw [h2] at e; cases e
      | some cs => rw [h2] at e; cases e; rw [r.bools h2]; rfl
    | _ => cases e
def fAll : List D → Option D
  | [.lst ds] => (bools ds).map fun bs => .bl (bs.all id)
  | _ => none
def fAny : List D → Option D
  | [.lst ds] => (bools ds).map fun bs => .bl (bs.any id)
  | _ => none
theorem vb_all : VB K C fAll (rAll K) := by
  intro G H xs ds d Q s r e k
  cases r with
  | nil => cases e
  | cons h t =>
    cases t with
    | cons _ _ => cases h <;> cases e
    | nil =>
      cases h with
      | @lst a xs ds h r =>
        have e : (bools ds).map (fun bs => D.bl (bs.all id)) = some d := e
        cases hb : bools ds with
        | none => rw [hb] at e; cases e
        | some bs => rw [hb] at e; cases e; exact ⟨a, bs, rfl, by rw [← r.bools hb]; exact .inl (.inl (s _ _ h)), Grow.here s k (.bl _)⟩
      | _ => cases e
theorem vb_any : VB K C fAny (rAny K) := by
  intro G H xs ds d Q s r e k
  cases r with
  | nil => cases e
  | cons h t =>
    cases t with
    | cons _ _ => cases h <;> cases e
    | nil =>
      cases h with
      | @lst a xs ds h r =>
        have e : (bools ds).map (fun bs => D.bl (bs.any id)) = some d := e
        cases hb : bools ds with
        | none => rw [hb] at e; cases e
        | some bs => rw [hb] at e; cases e; exact ⟨a, bs, rfl, by rw [← r.bools hb]; exact .inl (.inl (s _ _ h)), Grow.here s k (.bl _)⟩
      | _ => cases e
/-- the ints of a list -/
def intsOf : List D → Option (List Int)
  | [] => some []
  | .int b :: r => (intsOf r).map (b :: ·)
  | _ => none
theorem RpL.intsV {G : Hp} : ∀ {vs : List V} {ds : List D} {bs : List Int}, RpL K C G vs ds → Rf.intsOf ds = some bs → vs = bs.map V.int
  | _, _, bs, .nil, e => by cases e; rfl
  | _, _, bs, .cons (d := d) h r, e => by
    cases h with
    | int b =>
      unfold Rf.intsOf at e
      rename_i ds
      cases h2 : Rf.intsOf ds with
      | none => rw [h2] at e; cases e
      | some cs => rw [h2] at e; cases e; rw [r.intsV h2]; rfl
    | _ => cases e
def fSum : List D → Option D
  | [.lst ds] => (intsOf ds).map fun bs => .int bs.sum
  | [.scr ds] => (intsOf ds).map fun bs => .int bs.sum
  | _ => none
theorem vb_sum : VB K C fSum (rSum K) := by
  intro G H xs ds d Q s r e k
  have go : ∀ {a : Addr} {ys : List V} {es : List D}, SqL K H a ys → RpL K C G ys es → (intsOf es).map (fun bs => D.int bs.sum) = some d → rSum K [.ref a] H Q := by
    intro a ys es h r e
    cases hb : intsOf es with
    | none => rw [hb] at e; cases e
    | some bs => rw [hb] at e; cases e; exact ⟨a, bs, rfl, by rw [← r.intsV hb]; exact h, Grow.here s k (.int _)⟩
  cases r with
  | nil => cases e
  | cons h t =>
    cases t with
    | cons _ _ => cases h <;> cases e
    | nil =>
      cases h with
      | lst h r => exact go (.inl (.inl (s _ _ h))) r e
      | scr h r => exact go (Same.seq s h) r e
      | _ => cases e
def maxI : Int → List Int → Int
  | m, [] => m
  | m, x :: r => maxI (if x > m then x else m) r
def minI : Int → List Int → Int
  | m, [] => m
  | m, x :: r => minI (if x < m then x else m) r
theorem maxI_mem : ∀ (r : List Int) (m : Int), maxI m r ∈ m :: r ∧ ∀ y ∈ m :: r, y ≤ maxI m r
  | [], m => ⟨List.mem_cons_self, fun y h => by simp at h; subst h; exact Int.le_refl _⟩
  | x :: r, m => by
    obtain ⟨h1, h2⟩ := maxI_mem r (if x > m then x else m)
    refine ⟨?_, fun y hy => ?_⟩
    · show maxI (if x > m then x else m) r ∈ _
      rcases List.mem_cons.mp h1 with h | h
      · rw [h]; split <;> simp
      · exact List.mem_cons_of_mem _ (List.mem_cons_of_mem _ h)
    · have h3 := h2 (if x > m then x else m) List.mem_cons_self
      show y ≤ maxI (if x > m then x else m) r
      rcases List.mem_cons.mp hy with h | h
      · subst h; refine Int.le_trans ?_ h3; split <;> omega
      · rcases List.mem_cons.mp h with h | h
        · subst h; refine Int.le_trans ?_ h3; split <;> omega
        · exact h2 y (List.mem_cons_of_mem _ h)
theorem minI_mem : ∀ (r : List Int) (m : Int), minI m r ∈ m :: r ∧ ∀ y ∈ m :: r, minI m r ≤ y
  | [], m => ⟨List.mem_cons_self, fun y h => by simp at h; subst h; exact Int.le_refl _⟩
  | x :: r, m => by
    obtain ⟨h1, h2⟩ := minI_mem r (if x < m then x else m)
    refine ⟨?_, fun y hy => ?_⟩
    · show minI (if x < m then x else m) r ∈ _
      rcases List.mem_cons.mp h1 with h | h
      · rw [h]; split <;> simp
      · exact List.mem_cons_of_mem _ (List.mem_cons_of_mem _ h)
    · have h3 := h2 (if x < m then x else m) List.mem_cons_self
      show minI (if x < m then x else m) r ≤ y
      rcases List.mem_cons.mp hy with h | h
      · subst h; refine Int.le_trans h3 ?_; split <;> omega
      · rcases List.mem_cons.mp h with h | h
        · subst h; refine Int.le_trans h3 ?_; split <;> omega
        · exact h2 y (List.mem_cons_of_mem _ h)
def maxOf : List Int → Option D
  | [] => none
  | m :: r => some (.int (maxI m r))
def minOf : List Int → Option D
  | [] => none
  | m :: r => some (.int (minI m r))
def fMax : List D → Option D
  | [.int i, .int j] => some (.int (if j > i then j else i))
  | [.lst ds] => (intsOf ds).bind maxOf
  | [.tup ds] => (intsOf ds).bind maxOf
  | _ => none
def fMin : List D → Option D
  | [.int i, .int j] => some (.int (if j < i then j else i))
  | [.lst ds] => (intsOf ds).bind minOf
  | [.tup ds] => (intsOf ds).bind minOf
  | _ => none
def rMinS (K : PySem.W.Frag) : List V → Hp → VK → Prop := fun vs H Q => (∃ i j, vs = [.int i, .int j] ∧ Q (.int (if j < i then j else i)) H) ∨ ∃ (a : Addr) (n : Int) (ns : List Int), vs = [V.ref a] ∧ (SqL K H a ((n :: ns).map V.int) ∨ SqT K H a ((n :: ns).map V.int)) ∧ Q (.int (minI n ns)) H
def rMaxS (K : PySem.W.Frag) : List V → Hp → VK → Prop := fun vs H Q => (∃ i j, vs = [.int i, .int j] ∧ Q (.int (if j > i then j else i)) H) ∨ ∃ (a : Addr) (n : Int) (ns : List Int), vs = [V.ref a] ∧ (SqL K H a ((n :: ns).map V.int) ∨ SqT K H a ((n :: ns).map V.int)) ∧ Q (.int (maxI n ns)) H
theorem minOf_eq : ∀ (r : List Int) (m : Int), PySem.W.minOf m r = minI m r
  | [], m => rfl
  | x :: r, m => by
    have h := minOf_eq r (if x < m then x else m)
    show PySem.W.minOf (if (decide (x < m)) = true then x else m) r = _
    simp only [decide_eq_true_eq]
    exact h
theorem maxOf_eq : ∀ (r : List Int) (m : Int), PySem.W.maxOf m r = maxI m r
  | [], m => rfl
  | x :: r, m => by
    have h := maxOf_eq r (if x > m then x else m)
    show PySem.W.maxOf (if (decide (m < x)) = true then x else m) r = _
    simp only [decide_eq_true_eq]
    exact h
theorem holds_ints {h : Heap} : ∀ {ns : List Int} {us : List Value}, Vals (ns.map V.int) us → PySem.W.HoldAll h us ns
  | [], us, r => by cases r; exact ⟨[], .nil⟩
  | n :: ns, us, r => by
    cases r with
    | cons p q =>
      obtain ⟨t, rfl⟩ := p
      obtain ⟨as, z⟩ := holds_ints q
      exact ⟨_, .cons (.int n t) z⟩
theorem holds_int {h : Heap} {v : Value} {n : Int} (x : PySem.W.Holds h v n) : RelV (.int n) v := by
  obtain ⟨as, r⟩ := x
  cases (show Reads h v (.int n) as from r) with
  | int i t => exact ⟨t, rfl⟩
theorem cr_minS (hc : X.calm = true) (hu : X.A.units + 65 < cLine) : CallR X (.builtin "min") (rMinS X.K) := by
  intro pins s σ H xs us Q I r h
  rcases h with h | ⟨a, n, ns, rfl, h | h, q⟩
  · exact call_min2 hc pins s σ H xs us Q I r h
  · cases (Vals.ref1 r)
    obtain ⟨its, rv, hl, _⟩ := I.list h
    refine PySem.W.min_list_datum (I.ok.hd hc) hl.isList (x := n) (xs := ns) (by simpa using holds_ints rv) (by show X.A.units + 1 + 0 < _; omega) fun i v h' tk hi hv hk => ?_
    exact ⟨.int (minI n ns), H, I.kept hk, by rw [← minOf_eq]; exact holds_int hv, q⟩
  · cases (Vals.ref1 r)
    obtain ⟨its, rv, hl, _⟩ := I.tuple h
    refine PySem.W.min_tuple_datum (I.ok.hd hc) (show s.heap.IsTuple a its.toArray from hl) (x := n) (xs := ns) (by simpa using holds_ints rv) (by show X.A.units + 1 + 0 < _; omega) fun i v h' tk hi hv hk => ?_
    exact ⟨.int (minI n ns), H, I.kept hk, by rw [← minOf_eq]; exact holds_int hv, q⟩
theorem cr_maxS (hc : X.calm = true) (hu : X.A.units + 65 < cLine) : CallR X (.builtin "max") (rMaxS X.K) := by
  intro pins s σ H xs us Q I r h
  rcases h with h | ⟨a, n, ns, rfl, h | h, q⟩
  · exact call_max2 hc pins s σ H xs us Q I r h
  · cases (Vals.ref1 r)
    obtain ⟨its, rv, hl, _⟩ := I.list h
    refine PySem.W.max_list_datum (I.ok.hd hc) hl.isList (x := n) (xs := ns) (by simpa using holds_ints rv) (by show X.A.units + 1 + 0 < _; omega) fun i v h' tk hi hv hk => ?_
    exact ⟨.int (maxI n ns), H, I.kept hk, by rw [← maxOf_eq]; exact holds_int hv, q⟩
  · cases (Vals.ref1 r)
    obtain ⟨its, rv, hl, _⟩ := I.tuple h
    refine PySem.W.max_tuple_datum (I.ok.hd hc) (show s.heap.IsTuple a its.toArray from hl) (x := n) (xs := ns) (by simpa using holds_ints rv) (by show X.A.units + 1 + 0 < _; omega) fun i v h' tk hi hv hk => ?_
    exact ⟨.int (maxI n ns), H, I.kept hk, by rw [← maxOf_eq]; exact holds_int hv, q⟩
theorem vb_min : VB K C fMin (rMinS K) := by
  intro G H xs ds d Q s r e k
  have go : ∀ {a : Addr} {ys : List V} {es : List D}, (SqL K H a ys ∨ SqT K H a ys) → RpL K C G ys es → (intsOf es).bind minOf = some d → rMinS K [.ref a] H Q := by
    intro a ys es h r e
    cases hb : intsOf es with
    | none => rw [hb] at e; cases e
    | some bs =>
      rw [hb] at e
      cases bs with
      | nil => cases e
      | cons n ns => cases e; exact .inr ⟨a, n, ns, rfl, by rw [← r.intsV hb]; exact h, Grow.here s k (.int _)⟩
  cases r with
  | nil => cases e
  | cons h t =>
    cases t with
    | nil =>
      cases h with
      | lst h r => exact go (.inl (.inl (.inl (s _ _ h)))) r e
      | tup h r => exact go (.inr (same_seqT s h)) r e
      | _ => cases e
    | cons h2 t2 =>
      cases t2 with
      | cons _ _ => cases h <;> cases h2 <;> cases e
      | nil =>
        cases h with
        | int i =>
          cases h2 with
          | int j => cases e; exact .inl ⟨i, j, rfl, Grow.here s k (.int _)⟩
          | _ => cases e
        | _ => cases h2 <;> cases e
theorem vb_max : VB K C fMax (rMaxS K) := by
  intro G H xs ds d Q s r e k
  have go : ∀ {a : Addr} {ys : List V} {es : List D}, (SqL K H a ys ∨ SqT K H a ys) → RpL K C G ys es → (intsOf es).bind maxOf = some d → rMaxS K [.ref a] H Q := by
    intro a ys es h r e
    cases hb : intsOf es with
    | none => rw [hb] at e; cases e
    | some bs =>
      rw [hb] at e
      cases bs with
      | nil => cases e
      | cons n ns => cases e; exact .inr ⟨a, n, ns, rfl, by rw [← r.intsV hb]; exact h, Grow.here s k (.int _)⟩
  cases r with
  | nil => cases e
  | cons h t =>
    cases t with
    | nil =>
      cases h with
      | lst h r => exact go (.inl (.inl (.inl (s _ _ h)))) r e
      | tup h r => exact go (.inr (same_seqT s h)) r e
      | _ => cases e
    | cons h2 t2 =>
      cases t2 with
      | cons _ _ => cases h <;> cases h2 <;> cases e
      | nil =>
        cases h with
        | int i =>
          cases h2 with
          | int j => cases e; exact .inl ⟨i, j, rfl, Grow.here s k (.int _)⟩
          | _ => cases e
        | _ => cases h2 <;> cases e
/-- the lengths -/
theorem cr_lenS : CallR X (.builtin "len") (rLen X.K) := by
  intro pins s σ H xs us Q I r h
  rcases h with ⟨p, ys, e, hs, q⟩ | ⟨z, e, hz, q⟩
  · exact call_len_seq pins s σ H xs us Q I r ⟨p, ys, e, hs, q⟩
  · exact call_len_str pins s σ H xs us Q I r ⟨z, e, hz, q⟩
/-! ### isinstance -/
def isTy (T : String) : D → Option Bool
  | .non => kitB "NoneType" T
  | .bl _ => kitB "bool" T
  | .int _ => kitB "int" T
  | .str _ => kitB "str" T
  | .tup _ => kitB "tuple" T
  | .lst _ => kitB "list" T
  | .scr _ => kitB "list" T
  | .dic _ => kitB "dict" T
  | .ins _ _ => none
theorem sqT_ty {K : PySem.W.Frag} {H : Hp} {a : Addr} {xs : List V} (h : SqT K H a xs) : TyX K H (.ref a) (.type "tuple") := by
  rcases h with (h | ⟨o, h⟩) | ⟨o, its, n, h, c, _⟩
  · exact .base (.tup h)
  · exact .fTuple h
  · exact .kTuple h c
theorem sqL_ty {K : PySem.W.Frag} {H : Hp} {a : Addr} {xs : List V} (h : SqL K H a xs) : TyX K H (.ref a) (.type "list") := by
  rcases h with (h | ⟨o, h⟩) | ⟨o, its, n, h, c, _⟩
  · exact .base (.lst h)
  · exact .base (.frz h)
  · exact .kList h c
theorem isTy_ok {T : String} {G H : Hp} {v : V} {d : D} {b : Bool} (s : Same G H) (p : Rp K C G v d) (e : isTy T d = some b) : ∃ t, TyX K H v t ∧ PySem.W.kitOne K t (.type T) = some b := by
  cases p with
  | non => exact ⟨_, .base .non, kit_ty e⟩
  | bl b => exact ⟨_, .base (.bl b), kit_ty e⟩
  | int b => exact ⟨_, .base (.int b), kit_ty e⟩
  | str b _ => exact ⟨_, .base (.str b), kit_ty e⟩
  | tup h r => exact ⟨_, sqT_ty (same_seqT s h), kit_ty e⟩
  | lst h r => exact ⟨_, .base (.lst (s _ _ h)), kit_ty e⟩
  | scr h r => exact ⟨_, sqL_ty (Same.seq s h), kit_ty e⟩
  | dic h r => exact ⟨_, .base (.dK (s _ _ h)), kit_ty e⟩
  | ins h r => cases e
def dIs (f : D → Option Bool) (da : ENV → R D) : ENV → R D := dUn (fun d => (f d).map D.bl) da
/-- isinstance(a, T), T one class -/
theorem de_isA {x y : Str} {p p2 : Pos} {f : D → Option Bool} {cv : V} {cu : Value} (hf : ∀ {G H : Hp} {v : V} {d : D} {b : Bool}, Same G H → Rp X.K cc.C G v d → f d = some b → ∃ t, TyX X.K H v t ∧ PySem.W.kitOne X.K t cu = some b)
    (hc : PE X (.Name y p2) (tC cv)) (hk : ClsV cv cu) (hg : Gl X x) (hm : X.mg x = none) (hv : bootBuiltins x = some (.builtin "isinstance")) (ha : DE X cc a da)
    (hn : x ≠ "__name__" := by decide) (hdb : (x == ("__debug__" : Str)) = false := by decide) (he : starEach [a, .Name y p2] X.env = (false, eval a X.env) :: starEach [.Name y p2] X.env := by rfl)
    (hpl : (backTo pos (starEach [.Name y p2] X.env)).any (·.1) = false := by rfl) (hs2 : starEach [.Name y p2] X.env = (false, eval (.Name y p2) X.env) :: starEach [] X.env := by rfl) : DE X cc (.Call (.Name x p) [a, .Name y p2] [] pos) (dIs f da) := by
  refine PE.imp (pe_callB call_isi hg hm hv (pa_cons ha (pa_cons hc pa_nil hs2) he) hn hdb he hpl) fun σ H Q ⟨B, ρ, G, R0, h⟩ => ⟨B, ρ, G, R0, h.bind fun d1 ρ1 G1 H1 v e1 R1 p1 h1 => ?_⟩
  cases hb : f d1 with
  | none => simp only [hb, Option.map_none] at h1; exact h1.elim
  | some b =>
    simp only [hb, Option.map_some] at h1
    obtain ⟨t, ht, hko⟩ := hf R1.gk p1 hb
    exact ⟨v, cv, t, cu, b, rfl, hk, ht, hko, Post.fin h1 R1 (Ext.refl _ _) (Grow.refl R1.gk) (.bl b)⟩
theorem de_isT {T : String} {x y : Str} {p p2 : Pos} (hg : Gl X x) (hm : X.mg x = none) (hv : bootBuiltins x = some (.builtin "isinstance")) (hgy : Gl X y) (hmy : X.mg y = none) (hvy : bootBuiltins y = some (.type T)) (ha : DE X cc a da)
    (hn : x ≠ "__name__" := by decide) (hdb : (x == ("__debug__" : Str)) = false := by decide) (hn2 : y ≠ "__name__" := by decide) (hdb2 : (y == ("__debug__" : Str)) = false := by decide) (he : starEach [a, .Name y p2] X.env = (false, eval a X.env) :: starEach [.Name y p2] X.env := by rfl)
    (hpl : (backTo pos (starEach [.Name y p2] X.env)).any (·.1) = false := by rfl) (hs2 : starEach [.Name y p2] X.env = (false, eval (.Name y p2) X.env) :: starEach [] X.env := by rfl) : DE X cc (.Call (.Name x p) [a, .Name y p2] [] pos) (dIs (isTy T) da) :=
  de_isA (cv := .ty T) (cu := .type T) (fun s p e => isTy_ok s p e) (pe_bltn hgy hmy hvy rfl hn2 hdb2) (.ty T) hg hm hv ha hn hdb he hpl hs2
end
end Rf
set_option Elab.async false
set_option linter.all false
set_option maxRecDepth 100000
/-! Rf: fresh objects, targets, walks, comprehensions -/
namespace Rf
open PySem PySem.Spec L2
/-! ### fresh objects -/
def PostF (K : PySem.W.Frag) (cc : Cc) (B G : Hp) (σ : St) (Q : V → Hp → Prop) (r : R M) : Prop := match r with
  | .ok m ρ' => ∀ p G' H', Ext B G G' → Rl K cc B ρ' σ G' H' → Own K cc.C B G' H' p m → (∀ (i : Nat) (m' : M), ρ'[i]? = some (some (.ow m')) → σ[i]? ≠ some (some (.ref p))) → Q (.ref p) H'
  | .exc e ρ' => ∀ cl dd G' H', Ext B G G' → Rl K cc B ρ' σ G' H' → ERp K cc.C G' e cl dd → cc.W cl dd σ H'
  | .bot => False
theorem PostF.bind {α β : Type} {K : PySem.W.Frag} {cc : Cc} {V1 : Hp → β → α → Prop} {B G : Hp} {σ : St} {Q : V → Hp → Prop} {Q' : β → Hp → Prop} {r : R α} {f : α → ENV → R M}
    (h : PostF K cc B G σ Q (r.bind f))
    (k : ∀ d ρ1 G1 H1 x, Ext B G G1 → Rl K cc B ρ1 σ G1 H1 → V1 G1 x d → PostF K cc B G1 σ Q (f d ρ1) → Q' x H1) : Post K cc V1 B G σ Q' r := by
  cases r with
  | ok d ρ1 =>
    intro v G1 H1 e1 R1 p1
    refine k d ρ1 G1 H1 v e1 R1 p1 ?_
    have h : PostF K cc B G σ Q (f d ρ1) := h
    revert h
    cases f d ρ1 with
    | ok c ρ2 => exact fun h v G' H' e R' p => h v G' H' (e1.trans e) R' p
    | exc c ρ2 => exact fun h cl dd G' H' e R' p => h cl dd G' H' (e1.trans e) R' p
    | bot => exact id
  | exc e ρ1 => exact h
  | bot => exact h
theorem Rl.notAt {K : PySem.W.Frag} {cc : Cc} {B : Hp} {ρ : ENV} {σ : St} {G H : Hp} {p : Addr} (r : Rl K cc B ρ σ G H) (h : H p = none) (i : Nat) (m : M) (e : ρ[i]? = some (some (.ow m))) : σ[i]? ≠ some (some (.ref p)) := fun z => by
  obtain ⟨q, hq, o⟩ := r.ow i m e
  rw [z] at hq; cases hq
  obtain ⟨x, hx, _⟩ := o.at_
  rw [h] at hx; cases hx
/-- the new object is there -/
theorem PostF.fin {K : PySem.W.Frag} {cc : Cc} {B G : Hp} {σ : St} {Q : V → Hp → Prop} {m : M} {ρ1 : ENV} {G1 H1 : Hp} {p : Addr} {o : HO}
    (h : PostF K cc B G σ Q (.ok m ρ1)) (R1 : Rl K cc B ρ1 σ G1 H1) (e : Ext B G G1) (hp : H1 p = none) (hm : HoldsM K cc.C G1 o m) : Q (.ref p) (upd H1 p o) := by
  have g := Grow.newO (o := o) R1.gk hp
  exact h p G1 _ e (R1.grow g) ⟨R1.bk.free hp, R1.gk.free hp, o, upd_same, hm⟩ fun i m' q => R1.notAt hp i m' q
def rF (K : PySem.W.Frag) (cc : Cc) (den : ENV → R M) : TE := fun σ H Q => ∃ B ρ G, Rl K cc B ρ σ G H ∧ PostF K cc B G σ Q (den ρ)
def DF (X : Cx) (cc : Cc) (e : Expr) (den : ENV → R M) : Prop := PE X e (rF X.K cc den)
/-- frozen at once -/
def frz (r : R M) : R D := r.bind fun m ρ => .ok m.toD ρ
section
variable {X : Cx} {cc : Cc} {a b c e : Expr} {da db dc : ENV → R D} {pos : Pos} {es : List Expr} {dr : ENV → R (List D)} {fa fb : ENV → R M}
theorem de_of (h : DF X cc e fa) : DE X cc e (fun ρ => frz (fa ρ)) := by
  refine PE.imp h fun σ H Q ⟨B, ρ, G, R0, h⟩ => ⟨B, ρ, G, R0, ?_⟩
  dsimp only [frz] at h
  cases hf : fa ρ with
  | ok m ρ1 =>
    rw [hf] at h
    intro p G1 H1 e1 R1 o nf
    obtain ⟨x, hx, hm⟩ := o.at_
    have sG : Same G1 (upd G1 p x) := same_upd o.ng
    refine h (.ref p) (upd G1 p x) H1 (e1.trans ⟨sG, fun a u q => ?_⟩) ⟨R1.bk, fun b u q => ?_, R1.ln, fun i d q => ?_, fun i m' q => ?_, R1.df, R1.pa, R1.kg.trans sG⟩ (HoldsM.rp upd_same (hm.mono sG))
    · by_cases z : a = p
      · subst z; exact .inr o.nb
      · rw [upd_ne z] at q; exact .inl q
    · by_cases z : b = p
      · subst z; rw [upd_same] at q; cases q; exact hx
      · rw [upd_ne z] at q; exact R1.gk b u q
    · obtain ⟨v, h1, h2⟩ := R1.sh i d q
      exact ⟨v, h1, h2.mono sG⟩
    · obtain ⟨q', h1, o'⟩ := R1.ow i m' q
      have ne : q' ≠ p := fun z => by subst z; exact nf i m' q h1
      obtain ⟨y, hy, hm'⟩ := o'.at_
      exact ⟨q', h1, o'.nb, by rw [upd_ne ne]; exact o'.ng, y, hy, hm'.mono sG⟩
  | exc x ρ1 => rw [hf] at h; exact h
  | bot => rw [hf] at h; exact h.elim
def ite_postF {K : PySem.W.Frag} {B G : Hp} {σ : St} {Q : V → Hp → Prop} {p : Prop} [Decidable p] {r : R M} (h : PostF K cc B G σ Q (if p then r else .bot)) : p ∧ PostF K cc B G σ Q r := by
  by_cases q : p
  · rw [if_pos q] at h; exact ⟨q, h⟩
  · rw [if_neg q] at h; exact h.elim
def fLst (dr : ENV → R (List D)) : ENV → R M := fun ρ => (dr ρ).bind fun xs ρ1 => if xs.length ≤ sizeLine then .ok (.lst xs) ρ1 else .bot
theorem df_list (h : DA X cc es dr) : DF X cc (.List es pos) (fLst dr) := by
  refine PE.imp (pe_lst h) fun σ H Q ⟨B, ρ, G, R0, h⟩ => ⟨B, ρ, G, R0, h.bind fun ds ρ1 G1 H1 xs e1 R1 p1 h1 => ?_⟩
  obtain ⟨hz, h1⟩ := ite_postF h1
  exact ⟨by rw [p1.length]; exact hz, fun p hp => h1.fin R1 (Ext.refl _ _) hp ⟨xs, rfl, p1⟩⟩
/-- list(x), as a fresh one -/
def fListF (dr : ENV → R D) : ENV → R M := fun ρ => (dr ρ).bind fun x ρ1 => match x with
  | .lst ds => .ok (.lst ds) ρ1
  | .scr ds => .ok (.lst ds) ρ1
  | .tup ds => .ok (.lst ds) ρ1
  | _ => .bot
theorem df_listOf {x : Str} {p : Pos} (hg : Gl X x) (hm : X.mg x = none) (hv : bootBuiltins x = some (.type "list")) (ha : DE X cc e da)
    (hn : x ≠ "__name__" := by decide) (hdb : (x == ("__debug__" : Str)) = false := by decide) (he : starEach [e] X.env = (false, eval e X.env) :: starEach [] X.env := by rfl) (hpl : (backTo pos (starEach [] X.env)).any (·.1) = false := by rfl) :
    DF X cc (.Call (.Name x p) [e] [] pos) (fListF da) := by
  refine PE.imp (pe_callTy call_list_of hg hm hv (pa_cons ha pa_nil he) hn hdb he hpl) fun σ H Q ⟨B, ρ, G, R0, h⟩ => ⟨B, ρ, G, R0, h.bind fun d1 ρ1 G1 H1 x e1 R1 p1 h1 => ?_⟩
  cases p1 with
  | lst h r => exact ⟨_, _, rfl, .inl (.inl (.inl (R1.gk _ _ h))), fun l hl => h1.fin R1 (Ext.refl _ _) hl ⟨_, rfl, r⟩⟩
  | scr h r => exact ⟨_, _, rfl, .inl (Same.seq R1.gk h), fun l hl => h1.fin R1 (Ext.refl _ _) hl ⟨_, rfl, r⟩⟩
  | tup h r => exact ⟨_, _, rfl, .inr (same_seqT R1.gk h), fun l hl => h1.fin R1 (Ext.refl _ _) hl ⟨_, rfl, r⟩⟩
  | _ => exact h1.elim
/-- a + b of lists, as a fresh one -/
def fAddL (da db : ENV → R D) : ENV → R M := fun ρ => (da ρ).bind fun x ρ1 => (db ρ1).bind fun y ρ2 => match x, y with
  | .lst a, .lst b => if a.length + b.length ≤ sizeLine then .ok (.lst (a ++ b)) ρ2 else .bot
  | _, _ => .bot
theorem df_add (ha : DE X cc a da) (hb : DE X cc b db) : DF X cc (.BinOp a .Add b pos) (fAddL da db) := by
  refine PE.imp (pe_op op_cat ha hb) fun σ H Q ⟨B, ρ, G, R0, h⟩ => ⟨B, ρ, G, R0, h.bind fun d1 ρ1 G1 H1 x e1 R1 p1 h1 => ⟨B, ρ1, G1, R1, h1.bind fun d2 ρ2 G2 H2 y e2 R2 p2 h2 => ?_⟩⟩
  have p1 := p1.mono e2.gg
  cases p1 with
  | lst h r =>
    cases p2 with
    | lst h' r' =>
      obtain ⟨hz, h2⟩ := ite_postF h2
      exact ⟨_, _, _, _, rfl, rfl, R2.gk _ _ h, R2.gk _ _ h', by rw [r.length, r'.length]; exact hz, fun p hp => h2.fin R2 (Ext.refl _ _) hp ⟨_, rfl, r.append r'⟩⟩
    | _ => exact h2.elim
  | _ => cases d2 <;> exact h2.elim
end

/-! ### targets -/
/-- other slots are as they were -/
def Oth (sl : List Nat) (σ σ' : St) : Prop := σ'.length = σ.length ∧ ∀ j, j ∉ sl → σ'[j]? = σ[j]?
def rG (K : PySem.W.Frag) (cc : Cc) (sl : List Nat) (gd : D → ENV → Option ENV) : TG := fun v σ H Q => ∃ B ρ G d ρ', Rl K cc B ρ σ G H ∧ Rp K cc.C G v d ∧ gd d ρ = some ρ' ∧ ∀ σ', Rl K cc B ρ' σ' G H → Oth sl σ σ' → Q σ' H
def rGs (K : PySem.W.Frag) (cc : Cc) (sl : List Nat) (gd : List D → ENV → Option ENV) : TGs := fun vs σ H Q => ∃ B ρ G ds ρ', Rl K cc B ρ σ G H ∧ RpL K cc.C G vs ds ∧ gd ds ρ = some ρ' ∧ ∀ σ', Rl K cc B ρ' σ' G H → Oth sl σ σ' → Q σ' H
def DG (X : Cx) (cc : Cc) (tg : Expr) (sl : List Nat) (gd : D → ENV → Option ENV) : Prop := PG X tg (rG X.K cc sl gd)
def DGs (X : Cx) (cc : Cc) (tgs : List Expr) (sl : List Nat) (gd : List D → ENV → Option ENV) : Prop := PGs X tgs (rGs X.K cc sl gd)
theorem PG.imp {X : Cx} {e : Expr} {t t' : TG} (h : PG X e t) (k : ∀ v σ H Q, t' v σ H Q → t v σ H Q) : PG X e t' := ⟨fun pins s σ H v u Q I r q => h.run pins s σ H v u Q I r (k _ _ _ _ q)⟩
theorem PGs.imp {X : Cx} {e : List Expr} {t t' : TGs} (h : PGs X e t) (k : ∀ v σ H Q, t' v σ H Q → t v σ H Q) : PGs X e t' := ⟨fun pins s σ H v u Q I r q => h.run pins s σ H v u Q I r (k _ _ _ _ q)⟩
def gSet (i : Nat) : D → ENV → Option ENV := fun d ρ => if i < ρ.length then some (ρ.set i (some (.sh d))) else none
theorem Rl.store {K : PySem.W.Frag} {cc : Cc} {B : Hp} {ρ : ENV} {σ : St} {G H : Hp} {i : Nat} {v : V} {d : D} (r : Rl K cc B ρ σ G H) (hi : i < ρ.length) (hp : i ∉ cc.pr) (p : Rp K cc.C G v d) : Rl K cc B (ρ.set i (some (.sh d))) (σ.set i (some v)) G H := by
  have hi' : i < σ.length := by rw [r.ln]; exact hi
  have old : ∀ (j : Nat) (m : M), (ρ.set i (some (.sh d)))[j]? = some (some (.ow m)) → j ≠ i ∧ ρ[j]? = some (some (.ow m)) := fun j m q => by
    by_cases h : j = i
    · subst h; rw [List.getElem?_set_self hi] at q; cases q
    · rw [List.getElem?_set_ne (Ne.symm h)] at q; exact ⟨h, q⟩
  refine ⟨r.bk, r.gk, by rw [List.length_set, List.length_set]; exact r.ln, fun j e q => ?_, fun j m q => ?_, fun j k m m' q q1 q2 q3 q4 => ?_, fun j hj => ?_, r.kg⟩
  · by_cases h : j = i
    · subst h
      rw [List.getElem?_set_self hi] at q; cases q
      exact ⟨v, by rw [List.getElem?_set_self hi'], p⟩
    · rw [List.getElem?_set_ne (Ne.symm h)] at q
      obtain ⟨v', h1, h2⟩ := r.sh j e q
      exact ⟨v', by rw [List.getElem?_set_ne (Ne.symm h)]; exact h1, h2⟩
  · obtain ⟨h, q⟩ := old j m q
    obtain ⟨p', h1, o⟩ := r.ow j m q
    exact ⟨p', by rw [List.getElem?_set_ne (Ne.symm h)]; exact h1, o⟩
  · obtain ⟨h, q1⟩ := old j m q1
    obtain ⟨h', q2⟩ := old k m' q2
    rw [List.getElem?_set_ne (Ne.symm h)] at q3
    rw [List.getElem?_set_ne (Ne.symm h')] at q4
    exact r.df j k m m' q q1 q2 q3 q4
  · have h : j ≠ i := fun z => by subst z; exact hp hj
    rw [List.getElem?_set_ne (Ne.symm h)]
    exact r.pa j hj
theorem Rl.storeO {K : PySem.W.Frag} {cc : Cc} {B : Hp} {ρ : ENV} {σ : St} {G H : Hp} {i : Nat} {p : Addr} {m : M} (r : Rl K cc B ρ σ G H) (hi : i < ρ.length) (hp : i ∉ cc.pr) (o : Own K cc.C B G H p m)
    (nf : ∀ (i : Nat) (m' : M), ρ[i]? = some (some (.ow m')) → σ[i]? ≠ some (some (.ref p))) : Rl K cc B (ρ.set i (some (.ow m))) (σ.set i (some (.ref p))) G H := by
  have hi' : i < σ.length := by rw [r.ln]; exact hi
  refine ⟨r.bk, r.gk, by rw [List.length_set, List.length_set]; exact r.ln, fun j e q => ?_, fun j m' q => ?_, fun j k m1 m2 q q1 q2 q3 q4 => ?_, fun j hj => ?_, r.kg⟩
  · by_cases h : j = i
    · subst h; rw [List.getElem?_set_self hi] at q; cases q
    · rw [List.getElem?_set_ne (Ne.symm h)] at q
      obtain ⟨v', h1, h2⟩ := r.sh j e q
      exact ⟨v', by rw [List.getElem?_set_ne (Ne.symm h)]; exact h1, h2⟩
  · by_cases h : j = i
    · subst h
      rw [List.getElem?_set_self hi] at q; cases q
      exact ⟨p, by rw [List.getElem?_set_self hi'], o⟩
    · rw [List.getElem?_set_ne (Ne.symm h)] at q
      obtain ⟨p', h1, o'⟩ := r.ow j m' q
      exact ⟨p', by rw [List.getElem?_set_ne (Ne.symm h)]; exact h1, o'⟩
  · by_cases h : j = i
    · by_cases h' : k = i
      · exact h.trans h'.symm
      · subst h
        rw [List.getElem?_set_self hi'] at q3; cases q3
        rw [List.getElem?_set_ne (Ne.symm h')] at q2 q4
        exact absurd q4 (nf k m2 q2)
    · rw [List.getElem?_set_ne (Ne.symm h)] at q1 q3
      by_cases h' : k = i
      · subst h'
        rw [List.getElem?_set_self hi'] at q4; cases q4
        exact absurd q3 (nf j m1 q1)
      · rw [List.getElem?_set_ne (Ne.symm h')] at q2 q4
        exact r.df j k m1 m2 q q1 q2 q3 q4
  · have h : j ≠ i := fun z => by subst z; exact hp hj
    rw [List.getElem?_set_ne (Ne.symm h)]
    exact r.pa j hj
section
variable {X : Cx} {cc : Cc} {pos : Pos}
theorem np {cc : Cc} {i : Nat} (h : cc.pr.contains i = false) : i ∉ cc.pr := fun z => by
  have := List.contains_iff_mem.mpr z
  rw [h] at this; cases this
theorem dg_name {i : Nat} {x : Str} (hN : X.N.Nodup) (hi : X.N[i]? = some x) (hx : Loc X.env.scope x) (hp : cc.pr.contains i = false) (hf : X.fn x = true ∨ X.env.scope.names.lookup x = some .local := by first | exact .inl rfl | exact .inr rfl | assumption) : DG X cc (.Name x pos) [i] (gSet i) := by
  refine PG.imp (pg_name hN hi hx hf) fun v σ H Q ⟨B, ρ, G, d, ρ', R0, p, e, k⟩ => ?_
  unfold gSet at e
  split at e
  · rename_i h; cases e; exact k _ (R0.store h (np hp) p) ⟨by rw [List.length_set], fun j hj => List.getElem?_set_ne (fun z => hj (by simp [z]))⟩
  · cases e
def gsNil : List D → ENV → Option ENV := fun ds ρ => match ds with
  | [] => some ρ
  | _ => none
def gsCons (g : D → ENV → Option ENV) (gs : List D → ENV → Option ENV) : List D → ENV → Option ENV := fun ds ρ => match ds with
  | d :: r => (g d ρ).bind fun ρ1 => gs r ρ1
  | _ => none
theorem dgs_nil : DGs X cc [] [] gsNil := PGs.imp pgs_nil fun v σ H Q ⟨B, ρ, G, d, ρ', R0, p, e, k⟩ => by
  cases p with
  | nil => cases e; exact ⟨rfl, k σ R0 ⟨rfl, fun _ _ => rfl⟩⟩
  | cons _ _ => cases e
theorem dgs_cons {e : Expr} {es : List Expr} {s1 s2 : List Nat} {g : D → ENV → Option ENV} {gs : List D → ENV → Option ENV} (h1 : DG X cc e s1 g) (h2 : DGs X cc es s2 gs)
    (hs : (assignEach (e :: es) X.env).map (·.2) = assign e X.env :: (assignEach es X.env).map (·.2) := by rfl) : DGs X cc (e :: es) (s1 ++ s2) (gsCons g gs) := PGs.imp (pgs_cons h1 h2 hs) fun v σ H Q ⟨B, ρ, G, d, ρ', R0, p, e, k⟩ => by
  cases p with
  | nil => cases e
  | @cons v d vs ds p r =>
    cases hg : g d ρ with
    | none => simp only [gsCons, hg, Option.bind_none] at e; cases e
    | some ρ1 =>
      simp only [gsCons, hg, Option.bind_some] at e
      exact ⟨_, _, rfl, B, ρ, G, d, ρ1, R0, p, hg, fun σ' R1 o1 => ⟨B, ρ1, G, ds, ρ', R1, r, e, fun σ'' R2 o2 => k σ'' R2 ⟨o2.1.trans o1.1, fun j hj => (o2.2 j fun z => hj (List.mem_append_right _ z)).trans (o1.2 j fun z => hj (List.mem_append_left _ z))⟩⟩⟩
/-- (a, b, ..) = a tuple or a list of that length -/
def gSeq (n : Nat) (gs : List D → ENV → Option ENV) : D → ENV → Option ENV := fun d ρ => match d with
  | .tup ds => if ds.length = n then gs ds ρ else none
  | .lst ds => if ds.length = n then gs ds ρ else none
  | _ => none
def tSq (K : PySem.W.Frag) (n : Nat) (t : TGs) : TG := fun v σ H Q => ∃ a xs, v = .ref a ∧ (SqT K H a xs ∨ SqL K H a xs) ∧ xs.length = n ∧ t xs σ H Q
theorem pg_sq {es : List Expr} {k : Nat} {t : TGs} {n : Nat} (hc : X.calm = true) (h : PGs X es t)
    (hn : (assignEach es X.env).length = n := by rfl) (hst : (assignEach es X.env).findIdx? (·.1) = none := by rfl) : PG X (.Tuple es k pos) (tSq X.K n t) := by
  refine ⟨fun pins s σ H v u Q I r ⟨a, xs, e1, hq, hl, hw⟩ => ?_⟩
  rcases hq with hq | hq
  · exact (pg_tup hc h hn hst).run pins s σ H v u Q I r ⟨a, xs, e1, hq, hl, hw⟩
  · exact (pg_lst hc h hn hst).run pins s σ H v u Q I r ⟨a, xs, e1, hq, hl, hw⟩
theorem dg_seq {es : List Expr} {k n : Nat} {sl : List Nat} {gs : List D → ENV → Option ENV} (hc : X.calm = true) (h : DGs X cc es sl gs) (hn : (assignEach es X.env).length = n := by rfl) (hst : (assignEach es X.env).findIdx? (·.1) = none := by rfl) : DG X cc (.Tuple es k pos) sl (gSeq n gs) := by
  refine PG.imp (pg_sq hc h hn hst) fun v σ H Q ⟨B, ρ, G, d, ρ', R0, p, e, k⟩ => ?_
  cases p with
  | tup h r =>
    dsimp only [gSeq] at e
    split at e
    · rename_i hl; exact ⟨_, _, rfl, .inl (same_seqT R0.gk h), by rw [r.length]; exact hl, B, ρ, G, _, ρ', R0, r, e, k⟩
    · cases e
  | lst h r =>
    dsimp only [gSeq] at e
    split at e
    · rename_i hl; exact ⟨_, _, rfl, .inr (.inl (.inl (R0.gk _ _ h))), by rw [r.length]; exact hl, B, ρ, G, _, ρ', R0, r, e, k⟩
    · cases e
  | _ => cases e
end

/-! ### walks -/
structure Wk (K : PySem.W.Frag) (C : Nat → Addr) (G : Hp) (J : It) (ds : List D) : Prop where
  ex : ∃ (g : Hp → Prop) (Y : Nat → Hp → V → Hp → Prop), Walk J ds.length g Y ∧ (∀ G2 H2, Same G G2 → Same G2 H2 → g H2) ∧
    ∀ (i : Nat) G2 H2 x H3, i < ds.length → Same G G2 → Same G2 H2 → Y i H2 x H3 → ∃ d G3, ds[i]? = some d ∧ Grow G2 H2 G3 H3 ∧ Rp K C G3 x d
def rI (K : PySem.W.Frag) (cc : Cc) (den : ENV → R (List D)) : TI := fun σ H Q => ∃ B ρ G, Rl K cc B ρ σ G H ∧ Post K cc (fun G' J ds => Wk K cc.C G' J ds) B G σ Q (den ρ)
def DI (X : Cx) (cc : Cc) (tg iter : Expr) (den : ENV → R (List D)) : Prop := PI X tg iter (rI X.K cc den)
theorem PI.imp {X : Cx} {tg e : Expr} {t t' : TI} (h : PI X tg e t) (k : ∀ σ H Q, t' σ H Q → t σ H Q) : PI X tg e t' := ⟨fun pins s σ H Q I q => h.run pins s σ H Q I (k _ _ _ q)⟩
/-- a text's signs -/
def signs (x : Str) : List D := x.cps.toList.map fun c => .str ⟨#[c]⟩
/-- the items of a list, a tuple or a text -/
def items : D → Option (List D)
  | .str x => some (signs x)
  | .lst ds => some ds
  | .scr ds => some ds
  | .tup ds => some ds
  | _ => none
def dItems (da : ENV → R D) : ENV → R (List D) := fun ρ => (da ρ).bind fun x ρ1 => R.of (items x) ρ1
def iSq (K : PySem.W.Frag) (tl : TE) : TI := fun σ H R => tl σ H fun x H1 => (∃ a, x = .ref a ∧ (((∃ xs, SqL K H1 a xs) ∧ R (Itl K a) H1) ∨ ((∃ xs, SqT K H1 a xs) ∧ R (Itt K a) H1))) ∨ ∃ z, x = .str z ∧ R (Its z) H1
section
variable {X : Cx} {cc : Cc} {tg a b e : Expr} {da db : ENV → R D} {pos : Pos}
theorem pi_sq {l : Expr} {tl : TE} (hl : PE X l tl) : PI X tg l (iSq X.K tl) := by
  refine ⟨fun pins s σ H R I h => ?_⟩
  refine thn (hl.run pins s σ H _ I h) fun v s1 ⟨x, H1, I1, r1, q1⟩ => ?_
  rcases q1 with ⟨a, e, q⟩ | ⟨z, e, q⟩
  rotate_left
  · subst e
    obtain ⟨t, rfl⟩ := r1
    by_cases ha : z.cps.all (· < 128) = true
    · exact wpAny_pyIter_ascii ha (pi_one (tk := s1.toks) I1 _ (turn_str _ z t "str_ascii_iterator" (.inl rfl)) ⟨_, Heap.get?_push_size _ rfl, rfl, rfl⟩ q)
    · exact wpAny_pyIter_wide (by simpa using ha) (pi_one (tk := s1.toks) I1 _ (turn_str _ z t "str_iterator" (.inr rfl)) ⟨_, Heap.get?_push_size _ rfl, rfl, rfl⟩ q)
  subst e
  cases r1
  rcases q with ⟨⟨xs, hq⟩, q⟩ | ⟨⟨xs, hq⟩, q⟩
  · obtain ⟨its, rv, p, hz⟩ := I1.list hq
    refine wpAny_pyIter_list p.isList ?_
    refine ⟨s1.heap.objs.size, [s1.heap.objs.size], _, _, H1, rfl, I1.kept (t' := s1.toks) fun b o e => Heap.get?_push_of_some _ e, turn_list a _, ⟨_, Heap.get?_push_size _ rfl, rfl, rfl⟩, fun b hb => ?_, q⟩
    have e : b = s1.heap.objs.size := by simpa using hb
    subst e
    exact I1.fpOk (Nat.le_refl _) (I1.hok.fresh (Nat.le_refl _))
  · obtain ⟨its, rv, p, hz⟩ := I1.tuple hq
    refine wpAny_pyIter_tuple (show s1.heap.IsTuple a its.toArray from p) ?_
    refine ⟨s1.heap.objs.size, [s1.heap.objs.size], _, _, H1, rfl, I1.kept (t' := s1.toks) fun b o e => Heap.get?_push_of_some _ e, turn_tuple a _, ⟨_, Heap.get?_push_size _ rfl, rfl, rfl⟩, fun b hb => ?_, q⟩
    have e : b = s1.heap.objs.size := by simpa using hb
    subst e
    exact I1.fpOk (Nat.le_refl _) (I1.hok.fresh (Nat.le_refl _))
theorem wk_list {K : PySem.W.Frag} {C : Nat → Addr} {G : Hp} {a : Addr} {xs : List V} {ds : List D} (h : SqL K G a xs) (r : RpL K C G xs ds) : Wk K C G (Itl K a) ds := by
  refine ⟨_, _, by rw [← r.length]; exact walk_list (xs := xs), fun G2 H2 s s2 => Same.seq s2 (Same.seq s h), fun i G2 H2 x H3 hi s s2 y => ?_⟩
  obtain ⟨rfl, y⟩ := y
  obtain ⟨d, hd, p⟩ := r.getV y
  exact ⟨d, G2, hd, Grow.refl s2, p.mono s⟩
theorem wk_tup {K : PySem.W.Frag} {C : Nat → Addr} {G : Hp} {a : Addr} {xs : List V} {ds : List D} (h : SqT K G a xs) (r : RpL K C G xs ds) : Wk K C G (Itt K a) ds := by
  refine ⟨_, _, by rw [← r.length]; exact walk_tup (xs := xs), fun G2 H2 s s2 => same_seqT s2 (same_seqT s h), fun i G2 H2 x H3 hi s s2 y => ?_⟩
  obtain ⟨rfl, y⟩ := y
  obtain ⟨d, hd, p⟩ := r.getV y
  exact ⟨d, G2, hd, Grow.refl s2, p.mono s⟩
theorem wk_str {K : PySem.W.Frag} {C : Nat → Addr} {G : Hp} {z : Str} : Wk K C G (Its z) (signs z) := by
  have hl : (signs z).length = z.cps.size := by simp [signs]
  refine ⟨_, _, by rw [hl]; exact walk_str, fun _ _ _ _ => trivial, fun i G2 H2 x H3 hi s s2 y => ?_⟩
  obtain ⟨rfl, c, hc, rfl⟩ := y
  exact ⟨.str ⟨#[c]⟩, G2, by simp [signs, hc], Grow.refl s2, .str _ (by show 1 ≤ sizeLine; rw [sizeLine_eq]; omega)⟩
theorem di_seq (ha : DE X cc a da) : DI X cc tg a (dItems da) := by
  refine PI.imp (pi_sq ha) fun σ H Q ⟨B, ρ, G, R0, h⟩ => ⟨B, ρ, G, R0, Post.bind (V2 := fun G' J ds => Wk X.K cc.C G' J ds) h fun d1 ρ1 G1 H1 x e1 R1 p1 h1 => ?_⟩
  cases p1 with
  | lst h r => exact .inl ⟨_, rfl, .inl ⟨⟨_, .inl (.inl (R1.gk _ _ h))⟩, h1 _ G1 H1 (Ext.refl _ _) R1 (wk_list (.inl (.inl h)) r)⟩⟩
  | scr h r => exact .inl ⟨_, rfl, .inl ⟨⟨_, Same.seq R1.gk h⟩, h1 _ G1 H1 (Ext.refl _ _) R1 (wk_list h r)⟩⟩
  | tup h r => exact .inl ⟨_, rfl, .inr ⟨⟨_, same_seqT R1.gk h⟩, h1 _ G1 H1 (Ext.refl _ _) R1 (wk_tup h r)⟩⟩
  | str z hz => exact .inr ⟨z, rfl, h1 _ G1 H1 (Ext.refl _ _) R1 wk_str⟩
  | _ => exact h1.elim
def rng (lo hi : Int) : List D := (List.range (hi - lo).toNat).map fun i => .int (lo + (i : Nat))
def rngOk (i : Int) : Bool := decide (-(2 ^ 62) ≤ i) && decide (i < 2 ^ 62)
def dRng1 (da : ENV → R D) : ENV → R (List D) := fun ρ => (da ρ).bind fun x ρ1 => match x with
  | .int j => if rngOk j = true then .ok (rng 0 j) ρ1 else .bot
  | _ => .bot
def dRng2 (da db : ENV → R D) : ENV → R (List D) := fun ρ => (da ρ).bind fun x ρ1 => (db ρ1).bind fun y ρ2 => match x, y with
  | .int i, .int j => if rngOk i = true ∧ rngOk j = true then .ok (rng i j) ρ2 else .bot
  | _, _ => .bot
theorem wk_range {K : PySem.W.Frag} {C : Nat → Addr} {G : Hp} (lo hi : Int) : Wk K C G (Itr lo (hi - lo).toNat) (rng lo hi) := by
  have hl : (rng lo hi).length = (hi - lo).toNat := by unfold rng; rw [List.length_map, List.length_range]
  refine ⟨_, _, by rw [hl]; exact walk_range, fun _ _ _ _ => trivial, fun i G2 H2 x H3 hi' s s2 y => ?_⟩
  obtain ⟨rfl, rfl⟩ := y
  rw [hl] at hi'
  exact ⟨.int (lo + (i : Nat)), G2, by unfold rng; rw [List.getElem?_map, List.getElem?_range hi']; rfl, Grow.refl s2, .int _⟩
theorem rngOk_of {i : Int} (h : rngOk i = true) : -(2 ^ 62) ≤ i ∧ i < 2 ^ 62 := by
  unfold rngOk at h
  simp only [Bool.and_eq_true, decide_eq_true_eq] at h
  exact h
theorem di_rng1 {p : Pos} (hg : Gl X "range") (hm : X.mg "range" = none) (ha : DE X cc a da) (hs : starEach [a] X.env = [(false, eval a X.env)] := by rfl) (hs2 : starEach [a] X.env = (false, eval a X.env) :: starEach [] X.env := by rfl) : DI X cc tg (.Call (.Name "range" p) [a] [] pos) (dRng1 da) := by
  refine PI.imp (pi_range1 hg hm (pa_cons ha pa_nil hs2) hs) fun σ H Q ⟨B, ρ, G, R0, h⟩ => ⟨B, ρ, G, R0, Post.bind (V2 := fun G' J ds => Wk X.K cc.C G' J ds) h fun d1 ρ1 G1 H1 x e1 R1 p1 h1 => ?_⟩
  cases p1 with
  | int j =>
    obtain ⟨hz, h1⟩ := ite_post h1
    obtain ⟨z1, z2⟩ := rngOk_of hz
    have w := wk_range (K := X.K) (C := cc.C) (G := G1) 0 j
    rw [Int.sub_zero] at w
    exact ⟨j, rfl, z1, z2, h1 _ G1 H1 (Ext.refl _ _) R1 w⟩
  | _ => exact h1.elim
theorem di_rng2 {p : Pos} (hg : Gl X "range") (hm : X.mg "range" = none) (ha : DE X cc a da) (hb : DE X cc b db) (hs : starEach [a, b] X.env = [(false, eval a X.env), (false, eval b X.env)] := by rfl) (hs2 : starEach [b] X.env = [(false, eval b X.env)] := by rfl)
    (hs3 : starEach [a, b] X.env = (false, eval a X.env) :: starEach [b] X.env := by rfl) (hs4 : starEach [b] X.env = (false, eval b X.env) :: starEach [] X.env := by rfl) : DI X cc tg (.Call (.Name "range" p) [a, b] [] pos) (dRng2 da db) := by
  refine PI.imp (pi_range2 hg hm (pa_cons ha (pa_cons hb pa_nil hs4) hs3) hs hs2) fun σ H Q ⟨B, ρ, G, R0, h⟩ => ⟨B, ρ, G, R0, Post.bind (V2 := fun G' J ds => Wk X.K cc.C G' J ds) h fun d1 ρ1 G1 H1 x e1 R1 p1 h1 => ⟨B, ρ1, G1, R1, Post.bind (V2 := fun G' J ds => Wk X.K cc.C G' J ds) h1 fun d2 ρ2 G2 H2 y e2 R2 p2 h2 => ?_⟩⟩
  cases p1 with
  | int i =>
    cases p2 with
    | int j =>
      obtain ⟨⟨hz, hz'⟩, h2⟩ := ite_post h2
      obtain ⟨z1, z2⟩ := rngOk_of hz
      obtain ⟨z3, z4⟩ := rngOk_of hz'
      exact ⟨i, j, rfl, ⟨z1, z2, z3, z4⟩, h2 _ G2 H2 (Ext.refl _ _) R2 (wk_range i j)⟩
    | _ => exact h2.elim
  | _ => cases d2 <;> exact h2.elim
end
end Rf
set_option Elab.async false
set_option linter.all false
set_option maxRecDepth 100000
/-! Rf: comprehensions -/
namespace Rf
open PySem PySem.Spec L2
def wipeE (ρ : ENV) : List Nat → ENV
  | [] => ρ
  | v :: vs => (wipeE ρ vs).set v none
/-- the block's own slots as they were outside -/
def back (ρ : ENV) : List Nat → ENV → ENV
  | [], ρ' => ρ'
  | v :: vs, ρ' => (back ρ vs ρ').set v (match ρ[v]? with | some (some (.sh d)) => some (.sh d) | _ => none)
def noOwn (ρ : ENV) (vs : List Nat) : Bool := vs.all fun v => match ρ[v]? with | some (some (.ow _)) => false | _ => true
def compL (g : D → ENV → Option ENV) (tt : ENV → R Bool) (te : ENV → R D) (vs : List Nat) : List D → List D → ENV → R (List D)
  | [], acc, ρ => .ok acc ρ
  | d :: ds, acc, ρ => match g d (wipeE ρ vs) with
    | none => .bot
    | some ρ1 => match tt ρ1 with
      | .ok true ρ2 => match te ρ2 with
        | .ok y ρ3 => if acc.length < sizeLine then compL g tt te vs ds (acc ++ [y]) ρ3 else .bot
        | _ => .bot
      | .ok false ρ2 => compL g tt te vs ds acc ρ2
      | _ => .bot
def fLc (di : ENV → R (List D)) (g : D → ENV → Option ENV) (tt : ENV → R Bool) (te : ENV → R D) (vs : List Nat) : ENV → R M := fun ρ => (di ρ).bind fun ds ρ1 => match noOwn ρ1 vs, compL g tt te vs ds [] ρ1 with
  | true, .ok acc ρ2 => .ok (.lst acc) (back ρ1 vs ρ2)
  | _, _ => .bot
theorem wipeE_length (ρ : ENV) : ∀ vs : List Nat, (wipeE ρ vs).length = ρ.length
  | [] => rfl
  | v :: vs => by unfold wipeE; rw [List.length_set, wipeE_length ρ vs]
theorem back_length (ρ ρ' : ENV) : ∀ vs : List Nat, (back ρ vs ρ').length = ρ'.length
  | [] => rfl
  | v :: vs => by unfold back; rw [List.length_set, back_length ρ ρ' vs]
theorem wipeE_some {ρ : ENV} {i : Nat} {x : DV} : ∀ {vs : List Nat}, (wipeE ρ vs)[i]? = some (some x) → ρ[i]? = some (some x) ∧ i ∉ vs
  | [], h => ⟨h, by simp⟩
  | v :: vs, h => by
    unfold wipeE at h
    by_cases hi : v = i
    · subst hi
      by_cases hv : v < (wipeE ρ vs).length
      · rw [List.getElem?_set_self hv] at h; cases h
      · rw [List.getElem?_eq_none (by simpa using hv)] at h; cases h
    · rw [List.getElem?_set_ne hi] at h
      obtain ⟨h1, h2⟩ := wipeE_some h
      exact ⟨h1, by simp only [List.mem_cons, not_or]; exact ⟨fun e => hi e.symm, h2⟩⟩
theorem wipe_keep {σ : St} {i : Nat} : ∀ {vs : List Nat}, i ∉ vs → (wipe σ vs)[i]? = σ[i]?
  | [], _ => rfl
  | v :: vs, h => by
    unfold wipe
    rw [List.getElem?_set_ne (fun e => h (by rw [e]; exact List.mem_cons_self)), wipe_keep fun z => h (List.mem_cons_of_mem _ z)]
/-- what back gives -/
theorem back_some {ρ ρ' : ENV} {i : Nat} {x : DV} : ∀ {vs : List Nat}, (back ρ vs ρ')[i]? = some (some x) → (ρ'[i]? = some (some x) ∧ i ∉ vs) ∨ ((∃ d, x = .sh d) ∧ ρ[i]? = some (some x))
  | [], h => .inl ⟨h, by simp⟩
  | v :: vs, h => by
    unfold back at h
    by_cases hi : v = i
    · subst hi
      by_cases hv : v < (back ρ vs ρ').length
      · rw [List.getElem?_set_self hv] at h
        have h := Option.some.inj h
        split at h
        · rename_i d e; cases h; exact .inr ⟨⟨d, rfl⟩, e⟩
        · cases h
      · rw [List.getElem?_eq_none (by simpa using hv)] at h; cases h
    · rw [List.getElem?_set_ne hi] at h
      rcases back_some h with ⟨h1, h2⟩ | h
      · exact .inl ⟨h1, by simp only [List.mem_cons, not_or]; exact ⟨fun e => hi e.symm, h2⟩⟩
      · exact .inr h
/-- within a block: nothing is raised, nothing is protected -/
def Cc.inner (cc : Cc) : Cc := { cc with W := fun _ _ _ _ => False, pr := [] }
theorem Rl.wiped {K : PySem.W.Frag} {cc : Cc} {B : Hp} {ρ : ENV} {σ : St} {G H : Hp} (r : Rl K cc B ρ σ G H) (vs : List Nat) : Rl K cc.inner B (wipeE ρ vs) (wipe σ vs) G H := by
  refine ⟨r.bk, r.gk, by rw [wipe_length, wipeE_length]; exact r.ln, fun i d e => ?_, fun i m e => ?_, fun i j m m' p e1 e2 e3 e4 => ?_, fun i h => absurd h (by simp [Cc.inner]), r.kg⟩
  · obtain ⟨h1, h2⟩ := wipeE_some e
    rw [wipe_keep h2]
    exact r.sh i d h1
  · obtain ⟨h1, h2⟩ := wipeE_some e
    rw [wipe_keep h2]
    exact r.ow i m h1
  · obtain ⟨h1, h2⟩ := wipeE_some e1
    obtain ⟨h3, h4⟩ := wipeE_some e2
    rw [wipe_keep h2] at e3
    rw [wipe_keep h4] at e4
    exact r.df i j m m' p h1 h3 e3 e4
theorem Cc.inner_inner (cc : Cc) : cc.inner.inner = cc.inner := rfl
/-- an object that the relation does not speak of is tracked and kept -/
theorem Rl.hold {K : PySem.W.Frag} {cc : Cc} {B : Hp} {ρ : ENV} {σ : St} {G H : Hp} {D : Addr} {o : HO} (r : Rl K cc B ρ σ G H) (h : H D = some o) (hn : ∀ (i : Nat) (m : M), ρ[i]? = some (some (.ow m)) → σ[i]? ≠ some (some (.ref D))) : Rl K cc (upd B D o) ρ σ G H := by
  refine ⟨fun b u e => ?_, r.gk, r.ln, r.sh, fun i m e => ?_, r.df, r.pa, r.kg⟩
  · by_cases q : b = D
    · subst q; rw [upd_same] at e; cases e; exact h
    · rw [upd_ne q] at e; exact r.bk b u e
  · obtain ⟨p, h1, o'⟩ := r.ow i m e
    have ne : p ≠ D := fun z => by subst z; exact hn i m e h1
    exact ⟨p, h1, by rw [upd_ne ne]; exact o'.nb, o'.ng, o'.at_⟩
theorem Ext.unhold {B G G' : Hp} {D : Addr} {o : HO} (e : Ext (upd B D o) G G') : Ext B G G' := ⟨e.gg, fun a u h => by
  rcases e.nb a u h with h | h
  · exact .inl h
  · by_cases q : a = D
    · subst q; rw [upd_same] at h; cases h
    · rw [upd_ne q] at h; exact .inr h⟩
/-- .. it is written -/
theorem Rl.rewrite {K : PySem.W.Frag} {cc : Cc} {B : Hp} {ρ : ENV} {σ : St} {G H : Hp} {D : Addr} {o o' : HO} (r : Rl K cc (upd B D o) ρ σ G H) (hg : G D = none) : Rl K cc (upd B D o') ρ σ G (upd H D o') := by
  refine ⟨fun b u e => ?_, fun b u e => ?_, r.ln, r.sh, fun i m e => ?_, r.df, r.pa, r.kg⟩
  · by_cases q : b = D
    · subst q; rw [upd_same] at e ⊢; exact e
    · rw [upd_ne q] at e ⊢; exact r.bk b u (by rw [upd_ne q]; exact e)
  · have q : b ≠ D := fun z => by subst z; rw [hg] at e; cases e
    rw [upd_ne q]; exact r.gk b u e
  · obtain ⟨p, h1, o⟩ := r.ow i m e
    have q : p ≠ D := fun z => by
      subst z
      have := o.nb
      rw [upd_same] at this; cases this
    obtain ⟨x, hx, hm⟩ := o.at_
    exact ⟨p, h1, by have := o.nb; rw [upd_ne q] at this ⊢; exact this, o.ng, x, by rw [upd_ne q]; exact hx, hm⟩
theorem Rl.unhold {K : PySem.W.Frag} {cc : Cc} {B : Hp} {ρ : ENV} {σ : St} {G H : Hp} {D : Addr} {o : HO} (r : Rl K cc (upd B D o) ρ σ G H) (hb : B D = none) : Rl K cc B ρ σ G H ∧ ∀ (i : Nat) (m : M), ρ[i]? = some (some (.ow m)) → σ[i]? ≠ some (some (.ref D)) := by
  have ne : ∀ (i : Nat) (m : M), ρ[i]? = some (some (.ow m)) → ∀ p, σ[i]? = some (some (.ref p)) → p ≠ D ∧ Own K cc.C (upd B D o) G H p m := fun i m e p hp => by
    obtain ⟨p', h1, o'⟩ := r.ow i m e
    rw [hp] at h1; cases h1
    refine ⟨fun z => ?_, o'⟩
    subst z
    have := o'.nb
    rw [upd_same] at this; cases this
  refine ⟨⟨fun b u e => r.bk b u ?_, r.gk, r.ln, r.sh, fun i m e => ?_, r.df, r.pa, r.kg⟩, fun i m e z => (ne i m e D z).1 rfl⟩
  · have q : b ≠ D := fun z => by subst z; rw [hb] at e; cases e
    rw [upd_ne q]; exact e
  · obtain ⟨p, h1, _⟩ := r.ow i m e
    obtain ⟨h2, o'⟩ := ne i m e p h1
    exact ⟨p, h1, by have := o'.nb; rw [upd_ne h2] at this; exact this, o'.ng, o'.at_⟩
section
variable {X : Cx} {cc : Cc}
def DTs (X : Cx) (cc : Cc) (ifs : List Expr) (den : ENV → R Bool) : Prop := PTs X ifs (rT X.K cc den)
theorem PTs.imp {ifs : List Expr} {t t' : TT} (h : PTs X ifs t) (k : ∀ σ H Q, t' σ H Q → t σ H Q) : PTs X ifs t' := ⟨fun pins s σ H Q I q => h.run pins s σ H Q I (k _ _ _ q)⟩
def dYes : ENV → R Bool := fun ρ => .ok true ρ
theorem dts_nil : DTs X cc [] dYes := PTs.imp pts_nil fun σ H Q ⟨B, ρ, G, R0, h⟩ => h true G H (Ext.refl _ _) R0 rfl
theorem dts_one {c : Expr} {t : ENV → R Bool} (h : DT X cc c t) : DTs X cc [c] t := pts_one h
theorem wipeE_keep {ρ : ENV} {i : Nat} : ∀ {vs : List Nat}, i ∉ vs → (wipeE ρ vs)[i]? = ρ[i]?
  | [], _ => rfl
  | v :: vs, h => by
    unfold wipeE
    rw [List.getElem?_set_ne (fun e => h (by rw [e]; exact List.mem_cons_self)), wipeE_keep fun z => h (List.mem_cons_of_mem _ z)]
theorem wipe_none {σ : St} {i : Nat} : ∀ {vs : List Nat}, i ∈ vs → i < σ.length → (wipe σ vs)[i]? = some none
  | [], h, _ => by cases h
  | v :: vs, h, hl => by
    unfold wipe
    by_cases e : v = i
    · subst e; rw [List.getElem?_set_self (by rw [wipe_length]; exact hl)]
    · rw [List.getElem?_set_ne e]
      rcases List.mem_cons.mp h with z | z
      · exact absurd z.symm e
      · exact wipe_none z hl
theorem wipe_oth {σ σ2 : St} {sl vs : List Nat} (o : Oth sl (wipe σ vs) σ2) (hs : ∀ i ∈ sl, i ∈ vs) : wipe σ2 vs = wipe σ vs := by
  have hl : σ2.length = σ.length := by rw [o.1, wipe_length]
  refine List.ext_getElem? fun i => ?_
  by_cases h : i ∈ vs
  · by_cases hi : i < σ.length
    · rw [wipe_none h (by rw [hl]; exact hi), wipe_none h hi]
    · rw [List.getElem?_eq_none (by rw [wipe_length]; omega), List.getElem?_eq_none (by rw [wipe_length]; omega)]
  · rw [wipe_keep h, o.2 i fun z => h (hs i z)]
theorem Rl.backed {K : PySem.W.Frag} {B : Hp} {ρ1 ρi : ENV} {σ : St} {G1 H1 Gi H : Hp} {vs : List Nat} (R1 : Rl K cc B ρ1 σ G1 H1) (R : Rl K cc.inner B (wipeE ρi vs) (wipe σ vs) Gi H) (s : Same G1 Gi) : Rl K cc B (back ρ1 vs ρi) σ Gi H := by
  have one : ∀ (i : Nat) (m : M), (back ρ1 vs ρi)[i]? = some (some (.ow m)) → (wipeE ρi vs)[i]? = some (some (.ow m)) ∧ (wipe σ vs)[i]? = σ[i]? := fun i m e => by
    rcases back_some e with ⟨h1, h2⟩ | ⟨⟨d, h⟩, _⟩
    · exact ⟨by rw [wipeE_keep h2]; exact h1, wipe_keep h2⟩
    · cases h
  refine ⟨R.bk, R.gk, ?_, fun i d e => ?_, fun i m e => ?_, fun i j m m' p e1 e2 e3 e4 => ?_, R1.pa, R.kg⟩
  · have h := R.ln
    rw [wipe_length, wipeE_length] at h
    rw [back_length]; exact h
  · rcases back_some e with ⟨h1, h2⟩ | ⟨_, h⟩
    · obtain ⟨v, q1, q2⟩ := R.sh i d (by rw [wipeE_keep h2]; exact h1)
      exact ⟨v, by rw [wipe_keep h2] at q1; exact q1, q2⟩
    · obtain ⟨v, q1, q2⟩ := R1.sh i d h
      exact ⟨v, q1, q2.mono s⟩
  · obtain ⟨h1, h2⟩ := one i m e
    obtain ⟨p, q1, q2⟩ := R.ow i m h1
    exact ⟨p, by rw [h2] at q1; exact q1, q2⟩
  · obtain ⟨h1, h2⟩ := one i m e1
    obtain ⟨h3, h4⟩ := one j m' e2
    exact R.df i j m m' p h1 h3 (by rw [h2]; exact e3) (by rw [h4]; exact e4)
theorem lc_ok {di : ENV → R (List D)} {g : D → ENV → Option ENV} {tt : ENV → R Bool} {te : ENV → R D} {vs sl : List Nat} (hsl : ∀ i ∈ sl, i ∈ vs) :
    ∀ σ H Q, rF X.K cc (fLc di g tt te vs) σ H Q → tLc (rI X.K cc di) (rG X.K cc.inner sl g) (rT X.K cc.inner tt) (rE X.K cc.inner te) vs σ H Q := by
  intro σ H Q ⟨B, ρ, G, R0, h⟩
  refine ⟨B, ρ, G, R0, h.bind fun ds ρ1 G1 H1 J e1 R1 w h1 => ?_⟩
  intro Da hD
  obtain ⟨gd, Y, wlk, hgd, hY⟩ := w.ex
  split at h1
  rotate_left
  · exact h1.elim
  rename_i acc0 ρ2 hno hcomp
  have bD : B Da = none := R1.bk.free hD
  have gD : G1 Da = none := R1.gk.free hD
  refine lc_it wlk (fun i H => ∃ ρi Gi acc av, Ext B G1 Gi ∧ Gi Da = none ∧ RpL X.K cc.C Gi av acc ∧ Rl X.K cc.inner (upd B Da (.lst av)) (wipeE ρi vs) (wipe σ vs) Gi H ∧
    compL g tt te vs (ds.drop i) acc ρi = .ok acc0 ρ2) ?_ ?_ ?_ ?_
  · have R1' := (R1.grow (Grow.newO (o := .lst []) R1.gk hD)).hold upd_same (R1.notAt hD)
    exact ⟨ρ1, G1, [], [], Ext.refl _ _, gD, .nil, R1'.wiped vs, hcomp⟩
  · rintro i H _ ⟨ρi, Gi, acc, av, ex, gn, r, R, hc⟩
    exact hgd Gi H ex.gg R.gk
  · rintro i x H H' hi ⟨ρi, Gi, acc, av, ex, gn, r, R, hc⟩ y
    obtain ⟨d, G3, hd, g3, p3⟩ := hY i Gi H x H' hi ex.gg R.gk y
    have hdrop : ds.drop i = d :: ds.drop (i + 1) := by
      obtain ⟨h1, h2⟩ := List.getElem?_eq_some_iff.mp hd
      rw [← h2]; exact List.drop_eq_getElem_cons h1
    rw [hdrop] at hc
    unfold compL at hc
    cases hgd' : g d (wipeE ρi vs) with
    | none => rw [hgd'] at hc; cases hc
    | some ρ1' =>
      rw [hgd'] at hc
      dsimp only at hc
      have R' := R.grow g3
      have x3 : Ext (upd B Da (.lst av)) Gi G3 := g3.ext R.bk
      refine ⟨_, _, G3, d, ρ1', R', p3, hgd', fun σ2 R2 o2 => ?_⟩
      have hwp : wipe σ2 vs = wipe σ vs := wipe_oth o2 hsl
      refine ⟨hwp, _, ρ1', G3, R2, ?_⟩
      have fin : ∀ {G5 : Hp}, Ext (upd B Da (.lst av)) Gi G5 → G5 Da = none := fun {G5} e => by
        cases q : G5 Da with
        | none => rfl
        | some u =>
          rcases e.nb Da u q with h | h
          · rw [gn] at h; cases h
          · rw [upd_same] at h; cases h
      cases ht : tt ρ1' with
      | exc _ _ => rw [ht] at hc; cases hc
      | bot => rw [ht] at hc; cases hc
      | ok b ρ2' =>
        rw [ht] at hc
        intro b' G4 H4 e4 R4 eb
        subst eb
        cases b' with
        | false =>
          dsimp only at hc
          refine iteF ⟨ρ2', G4, acc, av, ex.trans (x3.trans e4).unhold, fin (x3.trans e4), r.mono (x3.trans e4).gg, ?_, hc⟩
          have := R4.wiped vs
          rw [hwp] at this
          exact this
        | true =>
          dsimp only at hc
          refine iteT ⟨_, ρ2', G4, R4, ?_⟩
          cases hte : te ρ2' with
          | exc _ _ => rw [hte] at hc; cases hc
          | bot => rw [hte] at hc; cases hc
          | ok yd ρ3 =>
            rw [hte] at hc
            dsimp only at hc
            split at hc
            rotate_left
            · cases hc
            rename_i hz
            intro yv G5 H5 e5 R5 p5
            have x5 := (x3.trans e4).trans e5
            refine ⟨av, R5.bk _ _ upd_same, by rw [r.length]; exact hz, ρ3, G5, acc ++ [yd], av ++ [yv], ex.trans x5.unhold, fin x5, (r.mono x5.gg).append (.cons p5 .nil), ?_, hc⟩
            have := (R5.rewrite (o' := .lst (av ++ [yv])) (fin x5)).wiped vs
            rw [hwp] at this
            exact this
  · rintro H ⟨ρi, Gi, acc, av, ex, gn, r, R, hc⟩
    rw [List.drop_length] at hc
    unfold compL at hc
    cases hc
    obtain ⟨R', hn⟩ := R.unhold bD
    have RB := Rl.backed R1 R' ex.gg
    refine h1 Da Gi H ex RB ⟨bD, gn, _, R.bk _ _ upd_same, av, rfl, r⟩ fun i m e z => ?_
    rcases back_some e with ⟨q1, q2⟩ | ⟨⟨d, q⟩, _⟩
    · exact hn i m (by rw [wipeE_keep q2]; exact q1) (by rw [wipe_keep q2]; exact z)
    · cases q
theorem df_lc {elt tg iter : Expr} {ifs : List Expr} {scope : Scope} {own : List (Str × Nat)} {pos : Pos} {di : ENV → R (List D)} {g : D → ENV → Option ENV} {tt : ENV → R Bool} {te : ENV → R D} {sl : List Nat} (hc : X.calm = true) (hN : X.N.Nodup) (hi : DI X cc tg iter di)
    (ok : BlkOk X.N X.env.scope scope own) (hsl : ∀ i ∈ sl, i ∈ own.map (·.2))
    (hg : ∀ (s : Shared) (H : Hp) (C : Addr) (cl : List (Str × Addr)) (fp : List Addr), DG (X.blk s H scope (compEnvC scope cl C X.env) fp) cc.inner tg sl g)
    (ht : ∀ (s : Shared) (H : Hp) (C : Addr) (cl : List (Str × Addr)) (fp : List Addr), DTs (X.blk s H scope (compEnvC scope cl C X.env) fp) cc.inner ifs tt)
    (he : ∀ (s : Shared) (H : Hp) (C : Addr) (cl : List (Str × Addr)) (fp : List Addr), DE (X.blk s H scope (compEnvC scope cl C X.env) fp) cc.inner elt te) (hs : ∀ x, foldedSetIterable iter X.env x = pure x := by intro _; rfl) :
    DF X cc (.ListComp elt [⟨tg, iter, ifs, 0⟩] scope pos) (fLc di g tt te (own.map (·.2))) :=
  PE.imp (pe_lc (g := rG X.K cc.inner sl g) (tt := rT X.K cc.inner tt) (te := rE X.K cc.inner te) hc hN hi ok hg ht he hs) (lc_ok hsl)
end
end Rf
set_option Elab.async false
set_option linter.all false
set_option maxRecDepth 100000
/-! Rf: statements -/
namespace Rf
open PySem PySem.Spec L2
inductive Fl where
  | nx | bk | ct | ret (v : DV)
/-- the object at p is at no owned slot -/
def NotAt (ρ : ENV) (σ : St) (p : Addr) : Prop := ∀ (i : Nat) (m' : M), ρ[i]? = some (some (.ow m')) → σ[i]? ≠ some (some (.ref p))
def PostS (K : PySem.W.Frag) (cc : Cc) (B G : Hp) (Dn : Ends) (r : R Fl) : Prop := match r with
  | .ok .nx ρ' => ∀ σ' G' H', Ext B G G' → Rl K cc B ρ' σ' G' H' → Dn.nx σ' H'
  | .ok .bk ρ' => ∀ σ' G' H', Ext B G G' → Rl K cc B ρ' σ' G' H' → Dn.bk σ' H'
  | .ok .ct ρ' => ∀ σ' G' H', Ext B G G' → Rl K cc B ρ' σ' G' H' → Dn.ct σ' H'
  | .ok (.ret (.sh d)) ρ' => ∀ v σ' G' H', Ext B G G' → Rl K cc B ρ' σ' G' H' → Rp K cc.C G' v d → Dn.rt v H'
  | .ok (.ret (.ow m)) ρ' => ∀ p σ' G' H', Ext B G G' → Rl K cc B ρ' σ' G' H' → Own K cc.C B G' H' p m → NotAt ρ' σ' p → Dn.rt (.ref p) H'
  | .exc e ρ' => ∀ cl dd σ' G' H', Ext B G G' → Rl K cc B ρ' σ' G' H' → ERp K cc.C G' e cl dd → cc.W cl dd σ' H'
  | .bot => False
theorem PostS.ext {K : PySem.W.Frag} {cc : Cc} {B G G1 : Hp} {Dn : Ends} {r : R Fl} (h : PostS K cc B G Dn r) (x : Ext B G G1) : PostS K cc B G1 Dn r := by
  cases r with
  | ok f ρ =>
    cases f with
    | nx => exact fun σ' G' H' e => h σ' G' H' (x.trans e)
    | bk => exact fun σ' G' H' e => h σ' G' H' (x.trans e)
    | ct => exact fun σ' G' H' e => h σ' G' H' (x.trans e)
    | ret v =>
      cases v with
      | sh d => exact fun v σ' G' H' e => h v σ' G' H' (x.trans e)
      | ow m => exact fun v σ' G' H' e => h v σ' G' H' (x.trans e)
  | exc e ρ => exact fun cl dd σ' G' H' e => h cl dd σ' G' H' (x.trans e)
  | bot => exact h
/-- behind an expression of a statement -/
theorem PostS.bind {α β : Type} {K : PySem.W.Frag} {cc : Cc} {V1 : Hp → β → α → Prop} {B G : Hp} {Dn : Ends} {σ : St} {Q' : β → Hp → Prop} {r : R α} {f : α → ENV → R Fl}
    (h : PostS K cc B G Dn (r.bind f))
    (k : ∀ d ρ1 G1 H1 x, Ext B G G1 → Rl K cc B ρ1 σ G1 H1 → V1 G1 x d → PostS K cc B G1 Dn (f d ρ1) → Q' x H1) : Post K cc V1 B G σ Q' r := by
  cases r with
  | ok d ρ1 =>
    intro v G1 H1 e1 R1 p1
    exact k d ρ1 G1 H1 v e1 R1 p1 (PostS.ext (show PostS K cc B G Dn (f d ρ1) from h) e1)
  | exc e ρ1 => exact fun cl dd G' H' e1 R' x => h cl dd σ G' H' e1 R' x
  | bot => exact h
theorem PostS.bindF {K : PySem.W.Frag} {cc : Cc} {B G : Hp} {Dn : Ends} {σ : St} {Q' : V → Hp → Prop} {r : R M} {f : M → ENV → R Fl}
    (h : PostS K cc B G Dn (r.bind f))
    (k : ∀ m ρ1 G1 H1 p, Ext B G G1 → Rl K cc B ρ1 σ G1 H1 → Own K cc.C B G1 H1 p m → NotAt ρ1 σ p → PostS K cc B G1 Dn (f m ρ1) → Q' (.ref p) H1) : PostF K cc B G σ Q' r := by
  cases r with
  | ok d ρ1 =>
    intro p G1 H1 e1 R1 o n
    exact k d ρ1 G1 H1 p e1 R1 o n (PostS.ext (show PostS K cc B G Dn (f d ρ1) from h) e1)
  | exc e ρ1 => exact fun cl dd G' H' e1 R' x => h cl dd σ G' H' e1 R' x
  | bot => exact h
def rS (K : PySem.W.Frag) (cc : Cc) (den : ENV → R Fl) : TS := fun Dn σ H => ∃ B ρ G, Rl K cc B ρ σ G H ∧ PostS K cc B G Dn (den ρ)
def DS (X : Cx) (cc : Cc) (st : Stmt) (den : ENV → R Fl) : Prop := PS X st (rS X.K cc den)
def DSs (X : Cx) (cc : Cc) (st : List Stmt) (den : ENV → R Fl) : Prop := PSs X st (rS X.K cc den)
theorem PostS.here {K : PySem.W.Frag} {cc : Cc} {B G H : Hp} {Dn : Ends} {ρ : ENV} {σ : St} (h : PostS K cc B G Dn (.ok .nx ρ)) (R0 : Rl K cc B ρ σ G H) : Dn.nx σ H := h σ G H (Ext.refl _ _) R0
def sNil : ENV → R Fl := fun ρ => .ok .nx ρ
def sSeq (a b : ENV → R Fl) : ENV → R Fl := fun ρ => match a ρ with
  | .ok .nx ρ1 => b ρ1
  | r => r
section
variable {X : Cx} {cc : Cc} {e o c tg : Expr} {da db : ENV → R D} {pos : Pos} {st : Stmt} {sts : List Stmt} {sa sb : ENV → R Fl} {fa : ENV → R M}
theorem dss_nil : DSs X cc [] sNil := PSs.imp pss_nil fun Dn σ H ⟨B, ρ, G, R0, h⟩ => h.here R0
theorem dss_one (h : DS X cc st sa) : DSs X cc [st] sa := pss_one h
theorem seq_core {K : PySem.W.Frag} {Dn : Ends} {B G : Hp} {ρ : ENV} (h : PostS K cc B G Dn (sSeq sa sb ρ)) : PostS K cc B G { Dn with nx := rS K cc sb Dn } (sa ρ) := by
  unfold sSeq at h
  cases hs : sa ρ with
  | ok f ρ1 =>
    rw [hs] at h
    cases f with
    | nx => exact fun σ' G' H' e R' => ⟨B, ρ1, G', R', PostS.ext h e⟩
    | bk => exact h
    | ct => exact h
    | ret v => cases v with
      | sh d => exact h
      | ow m => exact h
  | exc e ρ1 => rw [hs] at h; exact h
  | bot => rw [hs] at h; exact h
theorem dss_cons (h1 : DS X cc st sa) (h2 : DSs X cc sts sb) : DSs X cc (st :: sts) (sSeq sa sb) := PSs.imp (pss_cons h1 h2) fun Dn σ H ⟨B, ρ, G, R0, h⟩ => ⟨B, ρ, G, R0, seq_core h⟩
def sBreak : ENV → R Fl := fun ρ => .ok .bk ρ
def sCont : ENV → R Fl := fun ρ => .ok .ct ρ
theorem ds_pass : DS X cc (.Pass pos) sNil := PS.imp ps_pass fun Dn σ H ⟨B, ρ, G, R0, h⟩ => h.here R0
theorem ds_break : DS X cc (.Break pos) sBreak := PS.imp ps_break fun Dn σ H ⟨B, ρ, G, R0, h⟩ => h σ G H (Ext.refl _ _) R0
theorem ds_continue : DS X cc (.Continue pos) sCont := PS.imp ps_continue fun Dn σ H ⟨B, ρ, G, R0, h⟩ => h σ G H (Ext.refl _ _) R0
def sExpr (da : ENV → R D) : ENV → R Fl := fun ρ => (da ρ).bind fun _ ρ1 => .ok .nx ρ1
theorem ds_expr (ha : DE X cc e da) (hs : swapsWith e none pos.line X.env = pure false := by rfl) : DS X cc (.Expr e pos) (sExpr da) :=
  PS.imp (ps_expr ha hs) fun Dn σ H ⟨B, ρ, G, R0, h⟩ => ⟨B, ρ, G, R0, h.bind fun d ρ1 G1 H1 x e1 R1 p1 h1 => h1.here R1⟩
def sRet (da : ENV → R D) : ENV → R Fl := fun ρ => (da ρ).bind fun d ρ1 => .ok (.ret (.sh d)) ρ1
theorem ds_ret (ha : DE X cc e da) : DS X cc (.Return (some e) pos) (sRet da) :=
  PS.imp (ps_ret ha) fun Dn σ H ⟨B, ρ, G, R0, h⟩ => ⟨B, ρ, G, R0, h.bind fun d ρ1 G1 H1 x e1 R1 p1 h1 => h1 x σ G1 H1 (Ext.refl _ _) R1 p1⟩
def sRetF (fa : ENV → R M) : ENV → R Fl := fun ρ => (fa ρ).bind fun d ρ1 => .ok (.ret (.ow d)) ρ1
theorem ds_retF (ha : DF X cc e fa) : DS X cc (.Return (some e) pos) (sRetF fa) :=
  PS.imp (ps_ret ha) fun Dn σ H ⟨B, ρ, G, R0, h⟩ => ⟨B, ρ, G, R0, h.bindF fun d ρ1 G1 H1 p e1 R1 o n h1 => h1 p σ G1 H1 (Ext.refl _ _) R1 o n⟩
def sRetN : ENV → R Fl := fun ρ => .ok (.ret (.sh .non)) ρ
theorem ds_retN : DS X cc (.Return none pos) sRetN := PS.imp ps_retN fun Dn σ H ⟨B, ρ, G, R0, h⟩ => h .non σ G H (Ext.refl _ _) R0 .non
theorem Rl.drop {K : PySem.W.Frag} {B : Hp} {ρ : ENV} {σ : St} {G H : Hp} (r : Rl K cc B ρ σ G H) (i : Nat) : Rl K cc B (ρ.set i none) σ G H := by
  have old : ∀ {j : Nat} {x : DV}, (ρ.set i none)[j]? = some (some x) → ρ[j]? = some (some x) ∧ j ≠ i := fun {j x} e => by
    by_cases h : j = i
    · subst h
      by_cases hj : j < ρ.length
      · rw [List.getElem?_set_self hj] at e; cases e
      · rw [List.getElem?_eq_none (by rw [List.length_set]; omega)] at e; cases e
    · rw [List.getElem?_set_ne (Ne.symm h)] at e; exact ⟨e, h⟩
  exact ⟨r.bk, r.gk, by rw [List.length_set]; exact r.ln, fun j d e => r.sh j d (old e).1, fun j m e => r.ow j m (old e).1, fun j k m m' p e1 e2 e3 e4 => r.df j k m m' p (old e1).1 (old e2).1 e3 e4, r.pa, r.kg⟩
/-- return x, x an owned name -/
def sRetV (i : Nat) : ENV → R Fl := fun ρ => match ρ[i]? with
  | some (some (.ow m)) => .ok (.ret (.ow m)) (ρ.set i none)
  | _ => .bot
theorem ds_retV (i : Nat) {x : Str} {p2 : Pos} (hN : X.N[i]? = some x := by rfl) (hv : Vis X.env.scope x := by first | exact Or.inl rfl | exact Or.inr (Or.inl rfl) | exact Or.inr (Or.inr rfl)) (hd : (x == ("__debug__" : Str)) = false := by decide)
    (hcd : (x == ("__classdict__" : Str)) = false := by decide) : DS X cc (.Return (some (.Name x p2)) pos) (sRetV i) := by
  refine PS.imp (ps_ret (pe_var hN hv hd hcd)) fun Dn σ H ⟨B, ρ, G, R0, h⟩ => ?_
  unfold sRetV at h
  split at h
  · rename_i m e
    obtain ⟨p, hp, o⟩ := R0.ow i m e
    refine ⟨_, hp, h p σ G H (Ext.refl _ _) (R0.drop i) o fun j m' e' z => ?_⟩
    have hj : j ≠ i := fun z => by
      subst z
      rw [List.getElem?_set_self (List.getElem?_eq_some_iff.mp e).1] at e'; cases e'
    rw [List.getElem?_set_ne (Ne.symm hj)] at e'
    exact hj (R0.df j i m' m p e' e z hp)
  · exact h.elim
def sIf (c : ENV → R Bool) (a b : ENV → R Fl) : ENV → R Fl := fun ρ => (c ρ).bind fun x ρ1 => if x = true then a ρ1 else b ρ1
theorem ds_if {tc : ENV → R Bool} {s2 : List Stmt} (hc : DT X cc c tc) (ha : DSs X cc sts sa) (hb : DSs X cc s2 sb) : DS X cc (.If c sts s2 pos) (sIf tc sa sb) := by
  refine PS.imp (ps_if hc ha hb) fun Dn σ H ⟨B, ρ, G, R0, h⟩ => ⟨B, ρ, G, R0, h.bind fun d ρ1 G1 H1 x e1 R1 p1 h1 => ?_⟩
  subst p1
  cases x with
  | true => exact iteT ⟨B, ρ1, G1, R1, h1⟩
  | false => exact iteF ⟨B, ρ1, G1, R1, h1⟩

/-! ### stores -/
def sAsg (da : ENV → R D) (g : D → ENV → Option ENV) : ENV → R Fl := fun ρ => (da ρ).bind fun d ρ1 => match g d ρ1 with
  | some ρ2 => .ok .nx ρ2
  | none => .bot
variable {g : D → ENV → Option ENV} {sl : List Nat}
theorem asg_core {K : PySem.W.Frag} {tgt : TG} (k : ∀ v σ H Q, rG K cc sl g v σ H Q → tgt v σ H Q) : ∀ Dn σ H, rS K cc (sAsg da g) Dn σ H → tAsg (rE K cc da) tgt Dn σ H := by
  intro Dn σ H ⟨B, ρ, G, R0, h⟩
  refine ⟨B, ρ, G, R0, h.bind fun d ρ1 G1 H1 x e1 R1 p1 h1 => k _ _ _ _ ?_⟩
  cases hg : g d ρ1 with
  | none => simp only [hg] at h1; exact h1.elim
  | some ρ2 => simp only [hg] at h1; exact ⟨B, ρ1, G1, d, ρ2, R1, p1, hg, fun σ' R2 _ => h1.here R2⟩
theorem ds_asg (ha : DE X cc e da) (hg : DG X cc tg sl g) (hs : swapsWithSole [tg] e pos.line X.env = pure false := by rfl) (hw : swappedStores [tg] e X.env = pure none := by rfl)
    (h1 : (assignEach [tg] X.env).map (·.2) = [assign tg X.env] := by rfl) : DS X cc (.Assign [tg] e pos) (sAsg da g) := PS.imp (ps_asg ha hg hs hw h1) (asg_core fun _ _ _ _ h => h)
theorem gset_core {K : PySem.W.Frag} {i : Nat} (hp : i ∉ cc.pr) : ∀ v σ H Q, rG K cc [i] (gSet i) v σ H Q → gName i v σ H Q := fun v σ H Q ⟨B, ρ, G, d, ρ', R0, p, e, k⟩ => by
  unfold gSet at e
  split at e
  · rename_i h; cases e; exact k _ (R0.store h hp p) ⟨by rw [List.length_set], fun j hj => List.getElem?_set_ne (fun z => hj (by simp [z]))⟩
  · cases e
theorem ds_set {i : Nat} {x : Str} {p2 : Pos} (hN : X.N.Nodup) (ha : DE X cc e da) (hi : X.N[i]? = some x := by rfl) (hx : Loc X.env.scope x := by first | exact Or.inl rfl | exact Or.inr rfl) (hp : cc.pr.contains i = false := by rfl) (hs : swapsWith e (some (.Name x p2)) pos.line X.env = pure false := by rfl)
    (hf : X.fn x = true ∨ X.env.scope.names.lookup x = some .local := by first | exact .inl rfl | exact .inr rfl | assumption) : DS X cc (.Assign [.Name x p2] e pos) (sAsg da (gSet i)) := PS.imp (ps_set hN hi hx ha hs hf) (asg_core (gset_core (np hp)))
/-- x = a fresh object, x owned -/
def sOwn (fa : ENV → R M) (i : Nat) : ENV → R Fl := fun ρ => (fa ρ).bind fun m ρ1 => if i < ρ1.length then .ok .nx (ρ1.set i (some (.ow m))) else .bot
theorem ite_postS {K : PySem.W.Frag} {B G : Hp} {Dn : Ends} {p : Prop} [Decidable p] {r : R Fl} (h : PostS K cc B G Dn (if p then r else .bot)) : p ∧ PostS K cc B G Dn r := by
  by_cases q : p
  · rw [if_pos q] at h; exact ⟨q, h⟩
  · rw [if_neg q] at h; exact h.elim
theorem own_core {K : PySem.W.Frag} {i : Nat} (hp : i ∉ cc.pr) : ∀ Dn σ H, rS K cc (sOwn fa i) Dn σ H → tAsg (rF K cc fa) (gName i) Dn σ H := by
  intro Dn σ H ⟨B, ρ, G, R0, h⟩
  refine ⟨B, ρ, G, R0, h.bindF fun m ρ1 G1 H1 p e1 R1 o n h1 => ?_⟩
  obtain ⟨hi, h1⟩ := ite_postS h1
  exact h1.here (R1.storeO hi hp o n)
theorem ds_own {i : Nat} {x : Str} {p2 : Pos} (hN : X.N.Nodup) (ha : DF X cc e fa) (hi : X.N[i]? = some x := by rfl) (hx : Loc X.env.scope x := by first | exact Or.inl rfl | exact Or.inr rfl) (hp : cc.pr.contains i = false := by rfl) (hs : swapsWith e (some (.Name x p2)) pos.line X.env = pure false := by rfl)
    (hf : X.fn x = true ∨ X.env.scope.names.lookup x = some .local := by first | exact .inl rfl | exact .inr rfl | assumption) : DS X cc (.Assign [.Name x p2] e pos) (sOwn fa i) := PS.imp (ps_set hN hi hx ha hs hf) (own_core (np hp))
/-- x = [.. for ..] on one line -/
theorem ds_ownLc {elt iter : Expr} {ifs : List Expr} {scope : Scope} {own : List (Str × Nat)} {spos py : Pos} {di : ENV → R (List D)} {tt : ENV → R Bool} {te : ENV → R D} {i : Nat} {y : Str} (hc : X.calm = true) (hN : X.N.Nodup) (hi : DI X cc tg iter di)
    (ok : BlkOk X.N X.env.scope scope own) (hsl : ∀ i ∈ sl, i ∈ own.map (·.2))
    (hg : ∀ (s : Shared) (H : Hp) (C : Addr) (cl : List (Str × Addr)) (fp : List Addr), DG (X.blk s H scope (compEnvC scope cl C X.env) fp) cc.inner tg sl g)
    (ht : ∀ (s : Shared) (H : Hp) (C : Addr) (cl : List (Str × Addr)) (fp : List Addr), DTs (X.blk s H scope (compEnvC scope cl C X.env) fp) cc.inner ifs tt)
    (he : ∀ (s : Shared) (H : Hp) (C : Addr) (cl : List (Str × Addr)) (fp : List Addr), DE (X.blk s H scope (compEnvC scope cl C X.env) fp) cc.inner elt te)
    (hsw : swapsWith (.ListComp elt [⟨tg, iter, ifs, 0⟩] scope pos) (some (.Name y py)) spos.line X.env = pure true) (hy : X.N[i]? = some y := by rfl) (hyl : X.env.scope.names.lookup y = some .local := by rfl) (hp : cc.pr.contains i = false := by rfl) (hs : ∀ x, foldedSetIterable iter X.env x = pure x := by intro _; rfl) :
    DS X cc (.Assign [.Name y py] (.ListComp elt [⟨tg, iter, ifs, 0⟩] scope pos) spos) (sOwn (fLc di g tt te (own.map (·.2))) i) :=
  PS.imp (ps_setLc (g := rG X.K cc.inner sl g) (tt := rT X.K cc.inner tt) (te := rE X.K cc.inner te) hc hN hy hyl hsw hi ok hg ht he hs) fun Dn σ H h => lc_ok hsl _ _ _ (own_core (np hp) Dn σ H h)
theorem ds_setLc {elt iter : Expr} {ifs : List Expr} {scope : Scope} {own : List (Str × Nat)} {spos py : Pos} {di : ENV → R (List D)} {tt : ENV → R Bool} {te : ENV → R D} {i : Nat} {y : Str} (hc : X.calm = true) (hN : X.N.Nodup) (hi : DI X cc tg iter di)
    (ok : BlkOk X.N X.env.scope scope own) (hsl : ∀ i ∈ sl, i ∈ own.map (·.2))
    (hg : ∀ (s : Shared) (H : Hp) (C : Addr) (cl : List (Str × Addr)) (fp : List Addr), DG (X.blk s H scope (compEnvC scope cl C X.env) fp) cc.inner tg sl g)
    (ht : ∀ (s : Shared) (H : Hp) (C : Addr) (cl : List (Str × Addr)) (fp : List Addr), DTs (X.blk s H scope (compEnvC scope cl C X.env) fp) cc.inner ifs tt)
    (he : ∀ (s : Shared) (H : Hp) (C : Addr) (cl : List (Str × Addr)) (fp : List Addr), DE (X.blk s H scope (compEnvC scope cl C X.env) fp) cc.inner elt te)
    (hsw : swapsWith (.ListComp elt [⟨tg, iter, ifs, 0⟩] scope pos) (some (.Name y py)) spos.line X.env = pure true) (hy : X.N[i]? = some y := by rfl) (hyl : X.env.scope.names.lookup y = some .local := by rfl) (hp : cc.pr.contains i = false := by rfl) (hs : ∀ x, foldedSetIterable iter X.env x = pure x := by intro _; rfl) :
    DS X cc (.Assign [.Name y py] (.ListComp elt [⟨tg, iter, ifs, 0⟩] scope pos) spos) (sAsg (fun ρ => frz (fLc di g tt te (own.map (·.2)) ρ)) (gSet i)) := by
  refine PS.imp (ps_setLc (g := rG X.K cc.inner sl g) (tt := rT X.K cc.inner tt) (te := rE X.K cc.inner te) hc hN hy hyl hsw hi ok hg ht he hs) fun Dn σ H h => lc_ok hsl _ _ _ ?_
  obtain ⟨B, ρ, G, R0, h⟩ := h
  refine ⟨B, ρ, G, R0, ?_⟩
  dsimp only [sAsg, frz] at h
  cases hf : fLc di g tt te (own.map (·.2)) ρ with
  | ok m ρ1 =>
    rw [hf] at h
    intro p G1 H1 e1 R1 o nf
    dsimp only [R.bind, gSet] at h
    obtain ⟨x, hx, hm⟩ := o.at_
    by_cases hi : i < ρ1.length
    · rw [if_pos hi] at h
      have R2 := R1.storeO hi (np hp) o nf
      have he : (ρ1.set i (some (.ow m)))[i]? = some (some (.ow m)) := by rw [List.getElem?_set_self hi]
      obtain ⟨p', G', h1, h2, h3, h4⟩ := R2.freeze he
      rw [List.set_set] at h3
      exact h _ G' H1 (e1.trans h2) h3
    · rw [if_neg hi] at h; exact h.elim
  | exc x ρ1 =>
    rw [hf] at h
    exact fun cl dd G' H' e1 R' x => h cl dd σ G' H' e1 R' x
  | bot => rw [hf] at h; exact h.elim
/-- a, b = x, y -/
def sPar (i j : Nat) (da db : ENV → R D) : ENV → R Fl := fun ρ => (da ρ).bind fun x ρ1 => (db ρ1).bind fun y ρ2 => if i < ρ2.length ∧ j < ρ2.length then .ok .nx ((ρ2.set i (some (.sh x))).set j (some (.sh y))) else .bot
theorem ds_par {a b : Expr} {i j : Nat} {x y : Str} {px py pt : Pos} {kt k2 : Nat} {pt2 : Pos} (hc : X.calm = true) (hN : X.N.Nodup) (ha : DE X cc a da) (hb : DE X cc b db) (hi : X.N[i]? = some x := by rfl) (hj : X.N[j]? = some y := by rfl) (hij : i ≠ j := by decide)
    (hx : X.env.scope.names.lookup x = some .local := by rfl) (hy : X.env.scope.names.lookup y = some .local := by rfl)
    (hw : swappedStores [.Tuple [.Name x px, .Name y py] kt pt] (.Tuple [a, b] k2 pt2) X.env = pure (some [x, y]) := by rfl)
    (hs : swapsWithSole [.Tuple [.Name x px, .Name y py] kt pt] (.Tuple [a, b] k2 pt2) pos.line X.env = pure false := by rfl) (hpi : cc.pr.contains i = false := by rfl) (hpj : cc.pr.contains j = false := by rfl)
    (hs3 : starEach [a, b] X.env = (false, eval a X.env) :: starEach [b] X.env := by rfl) (hs4 : starEach [b] X.env = (false, eval b X.env) :: starEach [] X.env := by rfl) :
    DS X cc (.Assign [.Tuple [.Name x px, .Name y py] kt pt] (.Tuple [a, b] k2 pt2) pos) (sPar i j da db) := by
  refine PS.imp (ps_par hc hN hi hj hij hx hy (pa_cons ha (pa_cons hb pa_nil hs4) hs3) hw hs) fun Dn σ H ⟨B, ρ, G, R0, h⟩ => ⟨B, ρ, G, R0, h.bind fun d1 ρ1 G1 H1 x e1 R1 p1 h1 => ⟨B, ρ1, G1, R1, h1.bind fun d2 ρ2 G2 H2 y e2 R2 p2 h2 => ?_⟩⟩
  obtain ⟨⟨hi', hj'⟩, h2⟩ := ite_postS h2
  exact ⟨x, y, rfl, h2.here ((R2.store hi' (np hpi) (p1.mono e2.gg)).store (by rw [List.length_set]; exact hj') (np hpj) p2)⟩

/-! ### an owned list is changed -/
theorem Rl.mutate {K : PySem.W.Frag} {B : Hp} {ρ : ENV} {σ : St} {G H : Hp} {i : Nat} {p : Addr} {m m' : M} {o : HO} (r : Rl K cc B ρ σ G H) (e : ρ[i]? = some (some (.ow m))) (hp : σ[i]? = some (some (.ref p))) (hm : HoldsM K cc.C G o m') : Rl K cc B (ρ.set i (some (.ow m'))) σ G (upd H p o) := by
  obtain ⟨p', h1, ow⟩ := r.ow i m e
  rw [hp] at h1; cases h1
  have il : i < ρ.length := (List.getElem?_eq_some_iff.mp e).1
  have old : ∀ (j : Nat) (x : M), (ρ.set i (some (.ow m')))[j]? = some (some (.ow x)) → ∃ y, ρ[j]? = some (some (.ow y)) := fun j x q => by
    by_cases h : j = i
    · subst h; exact ⟨m, e⟩
    · rw [List.getElem?_set_ne (Ne.symm h)] at q; exact ⟨x, q⟩
  refine ⟨fun b u q => ?_, fun b u q => ?_, by rw [List.length_set]; exact r.ln, fun j d q => ?_, fun j x q => ?_, fun j k m1 m2 q q1 q2 q3 q4 => ?_, r.pa, r.kg⟩
  · have ne : b ≠ p := fun z => by subst z; rw [ow.nb] at q; cases q
    rw [upd_ne ne]; exact r.bk b u q
  · have ne : b ≠ p := fun z => by subst z; rw [ow.ng] at q; cases q
    rw [upd_ne ne]; exact r.gk b u q
  · by_cases h : j = i
    · subst h; rw [List.getElem?_set_self il] at q; cases q
    · rw [List.getElem?_set_ne (Ne.symm h)] at q; exact r.sh j d q
  · by_cases h : j = i
    · subst h
      rw [List.getElem?_set_self il] at q; cases q
      exact ⟨p, hp, ow.nb, ow.ng, o, upd_same, hm⟩
    · rw [List.getElem?_set_ne (Ne.symm h)] at q
      obtain ⟨p', h1, o'⟩ := r.ow j x q
      have ne : p' ≠ p := fun z => by subst z; exact h (r.df j i x m p' q e h1 hp)
      obtain ⟨y, hy, hm'⟩ := o'.at_
      exact ⟨p', h1, o'.nb, o'.ng, y, by rw [upd_ne ne]; exact hy, hm'⟩
  · obtain ⟨y1, q1⟩ := old j m1 q1
    obtain ⟨y2, q2⟩ := old k m2 q2
    exact r.df j k y1 y2 q q1 q2 q3 q4
theorem lst_ty {K : PySem.W.Frag} {H : Hp} {p : Addr} {xs : List V} (h : H p = some (.lst xs)) : tyV K "list" (.ref p) H := Or.inl ⟨rfl, _, Or.inl (Or.inl h)⟩
/-- an owned list at the slot i -/
theorem Rl.lstAt {K : PySem.W.Frag} {B : Hp} {ρ : ENV} {σ : St} {G H : Hp} {i : Nat} {ds : List D} (r : Rl K cc B ρ σ G H) (e : ρ[i]? = some (some (.ow (.lst ds)))) : ∃ p xs, σ[i]? = some (some (.ref p)) ∧ H p = some (.lst xs) ∧ RpL K cc.C G xs ds := by
  obtain ⟨p, hp, o⟩ := r.ow i _ e
  obtain ⟨x, hx, xs, rfl, rr⟩ := o.at_
  exact ⟨p, xs, hp, hx, rr⟩
/-- xs.append(e) -/
def sApp (i : Nat) (da : ENV → R D) : ENV → R Fl := fun ρ => match ρ[i]? with
  | some (some (.ow (.lst _))) => (da ρ).bind fun d ρ1 => match ρ1[i]? with
    | some (some (.ow (.lst ds))) => if ds.length < sizeLine then .ok .nx (ρ1.set i (some (.ow (.lst (ds ++ [d]))))) else .bot
    | _ => .bot
  | _ => .bot
theorem ds_app (i : Nat) {x : Str} {p2 p3 p4 : Pos} (ha : DE X cc e da) (hN : X.N[i]? = some x := by rfl) (hv : Vis X.env.scope x := by first | exact Or.inl rfl | exact Or.inr (Or.inl rfl) | exact Or.inr (Or.inr rfl)) (hd : (x == ("__debug__" : Str)) = false := by decide)
    (hcd : (x == ("__classdict__" : Str)) = false := by decide) (hs : swapsWith (.Call (.Attribute (.Name x p2) "append" p3) [e] [] p4) none pos.line X.env = pure false := by rfl)
    (hfew : ((backTo p4 (starEach (e :: []) X.env)).all (fun x => !x.1) && (backToKw p4 (keywordEach [] X.env)).all (fun x => x.1.isSome)
      && decide ((e :: []).length + ([] : List Keyword).length + (if ([] : List Keyword).isEmpty then 0 else 1) < 30)) = true := by rfl) (hline : (p3.endLine == p4.line) = true := by rfl)
    (he : starEach [e] X.env = (false, eval e X.env) :: starEach [] X.env := by rfl) (hpl : (backTo p4 (starEach [] X.env)).any (·.1) = false := by rfl) (hb : attributeBase (.Name x p2) "append" X.env (eval (.Name x p2) X.env) = eval (.Name x p2) X.env := by rfl) : DS X cc (.Expr (.Call (.Attribute (.Name x p2) "append" p3) [e] [] p4) pos) (sApp i da) := by
  refine PS.imp (ps_expr (pe_bm PySem.F.plainAttrs_list PySem.F.slot_list_append PySem.F.type_list_append mt_append (pe_var hN hv hd hcd) (pa_cons ha pa_nil he) hb hfew hline he hpl) hs) fun Dn σ H ⟨B, ρ, G, R0, h⟩ => ?_
  unfold sApp at h
  split at h
  rotate_left
  · exact h.elim
  rename_i ds0 e0
  obtain ⟨p, xs, hp, hx, _⟩ := R0.lstAt e0
  refine ⟨_, hp, lst_ty hx, B, ρ, G, R0, h.bind fun d ρ1 G1 H1 y e1 R1 p1 h1 => ?_⟩
  split at h1
  rotate_left
  · exact h1.elim
  rename_i ds e2
  obtain ⟨hz, h1⟩ := ite_postS h1
  obtain ⟨p', xs', hp', hx', rr⟩ := R1.lstAt e2
  rw [hp] at hp'; cases hp'
  exact ⟨p, xs', y, rfl, rfl, hx', by rw [rr.length]; exact hz, h1.here (R1.mutate e2 hp ⟨_, rfl, rr.append (.cons p1 .nil)⟩)⟩
/-- xs[k] = e -/
def sSub (i : Nat) (da di : ENV → R D) : ENV → R Fl := fun ρ => (da ρ).bind fun d ρ1 => match ρ1[i]? with
  | some (some (.ow (.lst _))) => (di ρ1).bind fun k ρ2 => match k, ρ2[i]? with
    | .int k, some (some (.ow (.lst ds))) => match ixN ds.length k with
      | some j => .ok .nx (ρ2.set i (some (.ow (.lst (ds.set j d)))))
      | none => .bot
    | _, _ => .bot
  | _ => .bot
theorem ds_sub (i : Nat) {x : Str} {p2 p3 : Pos} {k : Expr} {di : ENV → R D} (ha : DE X cc e da) (hk : DE X cc k di) (hN : X.N[i]? = some x := by rfl) (hv : Vis X.env.scope x := by first | exact Or.inl rfl | exact Or.inr (Or.inl rfl) | exact Or.inr (Or.inr rfl)) (hd : (x == ("__debug__" : Str)) = false := by decide)
    (hcd : (x == ("__classdict__" : Str)) = false := by decide)
    (hasg : ∀ v, assign (.Subscript (.Name x p2) k p3) X.env v = (do
      let ov ← holding [v] (eval (.Name x p2) X.env)
      let iv ← holding [v, ov] (eval k X.env)
      standAt p3
      holding [v, ov, iv] (setItem ov iv v)
      release [v, ov, iv] []) := by intro _; rfl)
    (hs : swapsWithSole [.Subscript (.Name x p2) k p3] e pos.line X.env = pure false := by rfl) (hw : swappedStores [.Subscript (.Name x p2) k p3] e X.env = pure none := by rfl)
    (h1 : (assignEach [.Subscript (.Name x p2) k p3] X.env).map (·.2) = [assign (.Subscript (.Name x p2) k p3) X.env] := by rfl) : DS X cc (.Assign [.Subscript (.Name x p2) k p3] e pos) (sSub i da di) := by
  refine PS.imp (ps_asg ha (pg_sub (pe_var hN hv hd hcd) hk set_list hasg) hs hw h1) fun Dn σ H ⟨B, ρ, G, R0, h⟩ => ⟨B, ρ, G, R0, h.bind fun d ρ1 G1 H1 y e1 R1 p1 h1 => ?_⟩
  split at h1
  rotate_left
  · exact h1.elim
  rename_i ds0 e0
  obtain ⟨p, xs, hp, hx, _⟩ := R1.lstAt e0
  refine ⟨_, hp, B, ρ1, G1, R1, h1.bind fun kd ρ2 G2 H2 kv e2 R2 p2 h2 => ?_⟩
  split at h2
  rotate_left
  · exact h2.elim
  rename_i k' ds e3
  cases p2 with
  | int k' =>
    obtain ⟨p', xs', hp', hx', rr⟩ := R2.lstAt e3
    rw [hp] at hp'; cases hp'
    cases hj : ixN ds.length k' with
    | none => simp only [hj] at h2; exact h2.elim
    | some j =>
      simp only [hj] at h2
      exact ⟨p, xs', k', j, rfl, rfl, hx', by rw [rr.length]; exact hj, h2.here (R2.mutate e3 hp ⟨_, rfl, rr.set (p1.mono e2.gg) j⟩)⟩
/-- x += e, x -= e of ints -/
def sAug (i : Nat) (f : Int → Int → Int) (da : ENV → R D) : ENV → R Fl := fun ρ => match ρ[i]? with
  | some (some (.sh (.int a))) => (da ρ).bind fun d ρ1 => match d with
    | .int b => if i < ρ1.length then .ok .nx (ρ1.set i (some (.sh (.int (f a b))))) else .bot
    | _ => .bot
  | _ => .bot
theorem ds_aug {op : Operator} {f : Int → Int → Int} (hop : PIp X op (ipI f)) {i : Nat} {x : Str} {p2 : Pos} (hN : X.N.Nodup) (ha : DE X cc e da) (hi : X.N[i]? = some x := by rfl) (hx : Loc X.env.scope x := by first | exact Or.inl rfl | exact Or.inr rfl) (hp : cc.pr.contains i = false := by rfl)
    (hf : X.fn x = true ∨ X.env.scope.names.lookup x = some .local := by first | exact .inl rfl | exact .inr rfl | assumption) : DS X cc (.AugAssign (.Name x p2) op e pos) (sAug i f da) := by
  refine PS.imp (ps_aug hN hi hx ha hop hf) fun Dn σ H ⟨B, ρ, G, R0, h⟩ => ?_
  unfold sAug at h
  split at h
  rotate_left
  · exact h.elim
  rename_i a e0
  obtain ⟨v, hv, pv⟩ := R0.sh i _ e0
  cases pv
  refine ⟨_, hv, B, ρ, G, R0, h.bind fun d ρ1 G1 H1 y e1 R1 p1 h1 => ?_⟩
  cases p1 with
  | int b =>
    obtain ⟨hi, h1⟩ := ite_postS h1
    exact ⟨a, b, rfl, rfl, h1.here (R1.store hi (np hp) (.int _))⟩
  | _ => exact h1.elim

/-! ### loops -/
def forL (g : D → ENV → Option ENV) (body : ENV → R Fl) : List D → ENV → R Fl
  | [], ρ => .ok .nx ρ
  | d :: ds, ρ => match g d ρ with
    | none => .bot
    | some ρ1 => match body ρ1 with
      | .ok .nx ρ2 => forL g body ds ρ2
      | .ok .ct ρ2 => forL g body ds ρ2
      | .ok .bk ρ2 => .ok .nx ρ2
      | .ok (.ret v) ρ2 => .ok (.ret v) ρ2
      | .exc e ρ2 => .exc e ρ2
      | .bot => .bot
def sFor (di : ENV → R (List D)) (g : D → ENV → Option ENV) (body : ENV → R Fl) : ENV → R Fl := fun ρ => (di ρ).bind fun ds ρ1 => forL g body ds ρ1
theorem ds_for {iter : Expr} {body : List Stmt} {di : ENV → R (List D)} {sb : ENV → R Fl} (hp : PassesOwn (model X.prog X.w) X.A X.env X.xe) (hc : X.calm = true) (hi : DI X cc tg iter di) (hg : DG X cc tg sl g) (hb : DSs X cc body sb)
    (hs : ∀ x, foldedSetIterable iter X.env x = pure x := by intro _; rfl) : DS X cc (.For tg iter body [] pos) (sFor di g sb) := by
  refine PS.imp (ps_for (g := rG X.K cc sl g) (tb := rS X.K cc sb) hp hc hi hg hb hs) fun Dn σ H ⟨B, ρ, G, R0, h⟩ => ⟨B, ρ, G, R0, h.bind fun ds ρ1 G1 H1 J e1 R1 w h1 => ?_⟩
  obtain ⟨gd, Y, wlk, hgd, hY⟩ := w.ex
  refine for_it wlk (fun i σ H => ∃ ρi Gi, Ext B G1 Gi ∧ Rl X.K cc B ρi σ Gi H ∧ PostS X.K cc B Gi Dn (forL g sb (ds.drop i) ρi)) ⟨ρ1, G1, Ext.refl _ _, R1, h1⟩ (fun i σ H _ ⟨ρi, Gi, ex, R, _⟩ => hgd Gi H ex.gg R.gk) ?_ ?_
  · rintro i x σ H H' hi ⟨ρi, Gi, ex, R, hq⟩ y
    obtain ⟨d, G3, hd, g3, p3⟩ := hY i Gi H x H' hi ex.gg R.gk y
    have hdrop : ds.drop i = d :: ds.drop (i + 1) := by
      obtain ⟨h1, h2⟩ := List.getElem?_eq_some_iff.mp hd
      rw [← h2]; exact List.drop_eq_getElem_cons h1
    rw [hdrop] at hq
    unfold forL at hq
    have R' := R.grow g3
    have x3 := g3.ext R.bk
    cases hgd' : g d ρi with
    | none => simp only [hgd'] at hq; exact hq.elim
    | some ρ1' =>
      simp only [hgd'] at hq
      refine ⟨B, ρi, G3, d, ρ1', R', p3, hgd', fun σ2 R2 _ => ⟨B, ρ1', G3, R2, ?_⟩⟩
      have hq := hq.ext x3
      cases hb : sb ρ1' with
      | ok f ρ2 =>
        rw [hb] at hq
        cases f with
        | nx => exact fun σ' G' H' e R4 => ⟨ρ2, G', ex.trans (x3.trans e), R4, PostS.ext hq e⟩
        | ct => exact fun σ' G' H' e R4 => ⟨ρ2, G', ex.trans (x3.trans e), R4, PostS.ext hq e⟩
        | bk => exact hq
        | ret v => cases v with
          | sh d => exact hq
          | ow m => exact hq
      | exc e ρ2 => rw [hb] at hq; exact hq
      | bot => rw [hb] at hq; exact hq
  · rintro σ H ⟨ρi, Gi, ex, R, hq⟩
    rw [List.drop_length] at hq
    exact PostS.here hq R
def whileF (c : ENV → R Bool) (body : ENV → R Fl) : Nat → ENV → R Fl
  | 0, _ => .bot
  | n + 1, ρ => (c ρ).bind fun b ρ1 => if b = true then match body ρ1 with
      | .ok .nx ρ2 => whileF c body n ρ2
      | .ok .ct ρ2 => whileF c body n ρ2
      | .ok .bk ρ2 => .ok .nx ρ2
      | r => r
    else .ok .nx ρ1
def sWhile (n : ENV → Nat) (c : ENV → R Bool) (body : ENV → R Fl) : ENV → R Fl := fun ρ => whileF c body (n ρ) ρ
theorem ds_while {body : List Stmt} {tc : ENV → R Bool} {sb : ENV → R Fl} (n : ENV → Nat) (hp : PassesOwn (model X.prog X.w) X.A X.env X.xe) (hc : DT X cc c tc) (hb : DSs X cc body sb) : DS X cc (.While c body [] pos) (sWhile n tc sb) := by
  refine PS.imp (ps_while hp hc hb) fun Dn σ H ⟨B, ρ, G, R0, h⟩ => ⟨fun m σ H => ∃ ρi Gi, Ext B G Gi ∧ Rl X.K cc B ρi σ Gi H ∧ PostS X.K cc B Gi Dn (whileF tc sb m ρi), ⟨n ρ, ρ, G, Ext.refl _ _, R0, h⟩, ?_⟩
  rintro m σ H ⟨ρi, Gi, ex, R, hq⟩
  cases m with
  | zero => exact hq.elim
  | succ m =>
    refine ⟨B, ρi, Gi, R, PostS.bind (show PostS X.K cc B Gi Dn ((tc ρi).bind _) from hq) fun b ρ1 G1 H1 b' e1 R1 eb hq => ?_⟩
    subst eb
    cases b' with
    | false =>
      exact iteF (PostS.here hq R1)
    | true =>
      refine iteT ⟨fun σ' H' => ∃ ρi Gi, Ext B G Gi ∧ Rl X.K cc B ρi σ' Gi H' ∧ PostS X.K cc B Gi Dn (whileF tc sb m ρi), fun σ' H' h => ⟨m, Nat.lt_succ_self m, h⟩, B, ρ1, G1, R1, ?_⟩
      simp only [if_true] at hq
      have x1 := ex.trans e1
      cases hb : sb ρ1 with
      | ok f ρ2 =>
        rw [hb] at hq
        cases f with
        | nx => exact fun σ' G' H' e R4 => ⟨ρ2, G', x1.trans e, R4, PostS.ext hq e⟩
        | ct => exact fun σ' G' H' e R4 => ⟨ρ2, G', x1.trans e, R4, PostS.ext hq e⟩
        | bk => exact hq
        | ret v => cases v with
          | sh d => exact hq
          | ow m => exact hq
      | exc e ρ2 => rw [hb] at hq; exact hq
      | bot => rw [hb] at hq; exact hq
end
end Rf
set_option Elab.async false
set_option linter.all false
set_option maxRecDepth 100000
/-! Rf: defs and calls -/
namespace Rf
open PySem PySem.Spec L2
/-- what a def does, from its arguments: its value and what its owned arguments hold behind it -/
inductive FO where
  | ok (v : DV) (ms : List M) | exc (e : EX) (ms : List M) | bot
inductive AR (K : PySem.W.Frag) (C : Nat → Addr) (B G H : Hp) : List V → List DV → Prop
  | nil : AR K C B G H [] []
  | sh {v : V} {d : D} {vs : List V} {ds : List DV} (h : Rp K C G v d) (r : AR K C B G H vs ds) : AR K C B G H (v :: vs) (.sh d :: ds)
  | ow {p : Addr} {m : M} {vs : List V} {ds : List DV} (h : Own K C B G H p m) (r : AR K C B G H vs ds) : AR K C B G H (.ref p :: vs) (.ow m :: ds)
inductive Outs (K : PySem.W.Frag) (C : Nat → Addr) (B G H : Hp) : List V → List DV → List M → Prop
  | nil : Outs K C B G H [] [] []
  | sh {v : V} {d : D} {vs : List V} {ds : List DV} {ms : List M} (r : Outs K C B G H vs ds ms) : Outs K C B G H (v :: vs) (.sh d :: ds) ms
  | ow {p : Addr} {m m' : M} {vs : List V} {ds : List DV} {ms : List M} (h : Own K C B G H p m') (r : Outs K C B G H vs ds ms) : Outs K C B G H (.ref p :: vs) (.ow m :: ds) (m' :: ms)
/-- owned arguments stand apart -/
def Apart (vs : List V) (ds : List DV) : Prop := ∀ (i j : Nat) (m m' : M) (p : Addr), ds[i]? = some (.ow m) → ds[j]? = some (.ow m') → vs[i]? = some (.ref p) → vs[j]? = some (.ref p) → i = j
def NotOf (vs : List V) (ds : List DV) (p : Addr) : Prop := ∀ (i : Nat) (m : M), ds[i]? = some (.ow m) → vs[i]? ≠ some (.ref p)
def ValR (K : PySem.W.Frag) (C : Nat → Addr) (B G H : Hp) (vs : List V) (ds : List DV) (x : V) : DV → Prop
  | .sh d => Rp K C G x d
  | .ow m => ∃ p, x = .ref p ∧ Own K C B G H p m ∧ NotOf vs ds p
/-- a def's promise, by what it does -/
def spF (K : PySem.W.Frag) (C : Nat → Addr) (n : Nat) (F : List DV → FO) : Sp := fun vs H Q E => ∃ ds B G, vs.length = n ∧ Same B H ∧ Same G H ∧ AR K C B G H vs ds ∧ Apart vs ds ∧
  match F ds with
  | .ok v ms => ∀ x G' H', Ext B G G' → Same B H' → Same G' H' → Outs K C B G' H' vs ds ms → ValR K C B G' H' vs ds x v → Q x H'
  | .exc e ms => ∀ cl dd G' H', Ext B G G' → Same B H' → Same G' H' → Outs K C B G' H' vs ds ms → ERp K C G' e cl dd → E cl dd H'
  | .bot => False
theorem AR.length {K : PySem.W.Frag} {C : Nat → Addr} {B G H : Hp} : ∀ {vs : List V} {ds : List DV}, AR K C B G H vs ds → vs.length = ds.length
  | _, _, .nil => rfl
  | _, _, .sh _ r => congrArg (· + 1) r.length
  | _, _, .ow _ r => congrArg (· + 1) r.length
theorem AR.getSh {K : PySem.W.Frag} {C : Nat → Addr} {B G H : Hp} : ∀ {vs : List V} {ds : List DV} {i : Nat} {d : D}, AR K C B G H vs ds → ds[i]? = some (.sh d) → ∃ v, vs[i]? = some v ∧ Rp K C G v d
  | _, _, i, d, .nil, e => by simp at e
  | _, _, 0, d, .sh h _, e => by simp at e; subst e; exact ⟨_, rfl, h⟩
  | _, _, 0, d, .ow h _, e => by simp at e
  | _, _, i + 1, d, .sh _ r, e => by obtain ⟨v, h1, h2⟩ := AR.getSh (i := i) (d := d) r (by simpa using e); exact ⟨v, by simpa using h1, h2⟩
  | _, _, i + 1, d, .ow _ r, e => by obtain ⟨v, h1, h2⟩ := AR.getSh (i := i) (d := d) r (by simpa using e); exact ⟨v, by simpa using h1, h2⟩
theorem AR.getOw {K : PySem.W.Frag} {C : Nat → Addr} {B G H : Hp} : ∀ {vs : List V} {ds : List DV} {i : Nat} {m : M}, AR K C B G H vs ds → ds[i]? = some (.ow m) → ∃ p, vs[i]? = some (.ref p) ∧ Own K C B G H p m
  | _, _, i, d, .nil, e => by simp at e
  | _, _, 0, d, .sh h _, e => by simp at e
  | _, _, 0, d, .ow h _, e => by simp at e; subst e; exact ⟨_, rfl, h⟩
  | _, _, i + 1, d, .sh _ r, e => by obtain ⟨v, h1, h2⟩ := AR.getOw (i := i) (m := d) r (by simpa using e); exact ⟨v, by simpa using h1, h2⟩
  | _, _, i + 1, d, .ow _ r, e => by obtain ⟨v, h1, h2⟩ := AR.getOw (i := i) (m := d) r (by simpa using e); exact ⟨v, by simpa using h1, h2⟩
/-- the places of owned arguments -/
def owPos : Nat → List DV → List Nat
  | _, [] => []
  | k, .sh _ :: r => owPos (k + 1) r
  | k, .ow _ :: r => k :: owPos (k + 1) r
theorem owPos_at : ∀ (ds : List DV) (k i : Nat), i ∈ owPos k ds → ∃ j m, i = k + j ∧ ds[j]? = some (.ow m)
  | [], _, _, h => by cases h
  | .sh d :: r, k, i, h => by
    obtain ⟨j, m, e, q⟩ := owPos_at r (k + 1) i h
    exact ⟨j + 1, m, by omega, by simpa using q⟩
  | .ow m :: r, k, i, h => by
    rcases List.mem_cons.mp h with h | h
    · exact ⟨0, m, by omega, rfl⟩
    · obtain ⟨j, m', e, q⟩ := owPos_at r (k + 1) i h
      exact ⟨j + 1, m', by omega, by simpa using q⟩
/-- what they hold at the end -/
def outsE : Nat → List DV → ENV → Option (List M)
  | _, [], _ => some []
  | k, .sh _ :: r, ρ => outsE (k + 1) r ρ
  | k, .ow _ :: r, ρ => match ρ[k]? with
    | some (some (.ow m)) => (outsE (k + 1) r ρ).map (m :: ·)
    | _ => none
def startE (n : Nat) (ds : List DV) : ENV := ds.map some ++ List.replicate (n - ds.length) none
def runF (pr : List Nat) (n : Nat) (den : ENV → R Fl) : List DV → FO := fun ds => if owPos 0 ds = pr then match den (startE n ds) with
  | .ok (.ret v) ρ => match outsE 0 ds ρ with | some ms => .ok v ms | none => .bot
  | .ok .nx ρ => match outsE 0 ds ρ with | some ms => .ok (.sh .non) ms | none => .bot
  | .exc e ρ => match outsE 0 ds ρ with | some ms => .exc e ms | none => .bot
  | _ => .bot
  else .bot
def adOf (vs : List V) (i : Nat) : Addr := match vs[i]? with
  | some (.ref p) => p
  | _ => 0
section
variable {P : Program} {w : World} {K : PySem.W.Frag} {mg : Str → Option Value} {base : Heap} {C : Nat → Addr}
theorem startE_get {n : Nat} {ds : List DV} {i : Nat} {x : DV} (h : (startE n ds)[i]? = some (some x)) : ds[i]? = some x := by
  unfold startE at h
  by_cases hi : i < ds.length
  · rw [List.getElem?_append_left (by rw [List.length_map]; exact hi), List.getElem?_map] at h
    cases e : ds[i]? with
    | none => rw [e] at h; cases h
    | some y => rw [e] at h; cases h; rfl
  · rw [List.getElem?_append_right (by rw [List.length_map]; omega)] at h
    obtain ⟨h1, h2⟩ := List.getElem?_eq_some_iff.mp h
    rw [List.getElem_replicate] at h2; cases h2
theorem start_get {N : List Str} {vs : List V} {i : Nat} {v : V} (h : vs[i]? = some v) : (L2.start N vs)[i]? = some (some v) := by
  unfold L2.start
  have hi := (List.getElem?_eq_some_iff.mp h).1
  rw [List.getElem?_append_left (by rw [List.length_map]; exact hi), List.getElem?_map, h]; rfl
theorem outs_of {cc : Cc} {B G' H' G0 H0 : Hp} {ρ : ENV} {σ : St} (R : Rl K cc B ρ σ G' H') : ∀ {vs : List V} {ds : List DV} {k : Nat} {ms : List M}, AR K cc.C B G0 H0 vs ds → (∀ j p, vs[j]? = some (.ref p) → (∃ m, ds[j]? = some (.ow m)) → σ[k + j]? = some (some (.ref p))) →
    outsE k ds ρ = some ms → Outs K cc.C B G' H' vs ds ms
  | _, _, k, ms, .nil, _, e => by cases e; exact .nil
  | _, _, k, ms, .sh h r, hσ, e => .sh (outs_of R (k := k + 1) r (fun j p h1 ⟨m, h2⟩ => by have := hσ (j + 1) p (by simpa using h1) ⟨m, by simpa using h2⟩; rw [show k + (j + 1) = k + 1 + j by omega] at this; exact this) e)
  | _, _, k, ms, .ow (p := p) (m := m0) h r, hσ, e => by
    unfold outsE at e
    split at e
    · rename_i m hm
      cases ho : outsE (k + 1) _ ρ with
      | none => rw [ho] at e; cases e
      | some ms' =>
        rw [ho] at e; cases e
        have hp := hσ 0 p rfl ⟨m0, rfl⟩
        obtain ⟨p', h1, o⟩ := R.ow k m hm
        rw [Nat.add_zero, h1] at hp
        cases hp
        exact .ow o (outs_of R (k := k + 1) r (fun j p h1 ⟨m, h2⟩ => by have := hσ (j + 1) p (by simpa using h1) ⟨m, by simpa using h2⟩; rw [show k + (j + 1) = k + 1 + j by omega] at this; exact this) ho)
    · cases e
/-- THE RULE: a def by the denotation of its body -/
theorem fn_core {qual : Str} {body : List Stmt} {sc : Scope} {f : Addr} {fd : FuncData} {N ps : List Str} {k : Nat}
    (rule : ∀ sp : Sp, (∀ vs H Q E, sp vs H Q E → vs.length = ps.length) → (∀ (cdv : Value) (A : Around) (outer : List Env) (s : Shared) (H : Hp) (vs : List V) (Q : VK) (E : XK), Room k (A.deeper (PyProof.Rows.envOfC qual sc s.heap.objs.size f cdv)) → sp vs H Q E →
      ∃ t, PSs (cxOf (L2.CX P w) P w K mg base N qual sc f cdv A outer s H E) body t ∧ t { nx := fun _ H' => Q .non H', rt := Q } (L2.start N vs) H) → FnOk P w K mg base (L2.CX P w) (k + 1) f fd ps sp)
    (pr : List Nat) {den : ENV → R Fl} (hlen : ps.length ≤ N.length)
    (hb : ∀ (cdv : Value) (A : Around) (outer : List Env) (s : Shared) (H : Hp) (E : XK) (ad : Nat → Addr), Room k (A.deeper (PyProof.Rows.envOfC qual sc s.heap.objs.size f cdv)) →
      DSs (cxOf (L2.CX P w) P w K mg base N qual sc f cdv A outer s H E) ⟨C, fun cl d _ H => E cl d H, pr, ad, fun _ => none⟩ body den) : FnOk P w K mg base (L2.CX P w) (k + 1) f fd ps (spF K C ps.length (runF pr N.length den)) := by
  refine rule _ (fun vs H Q E h => ?_) (fun cdv A outer s H vs Q E hr h => ?_)
  · obtain ⟨ds, B, G, e, _⟩ := h
    exact e
  · obtain ⟨ds, B, G, hn, sB, sG, ar, ap, hF⟩ := h
    have hpos : owPos 0 ds = pr := by
      unfold runF at hF
      by_cases q : owPos 0 ds = pr
      · exact q
      · rw [if_neg q] at hF; exact hF.elim
    have hl := ar.length
    have R0 : Rl K ⟨C, fun cl d _ H => E cl d H, pr, adOf vs, fun _ => none⟩ B (startE N.length ds) (L2.start N vs) G H := by
      refine ⟨sB, sG, ?_, fun i d e => ?_, fun i m e => ?_, fun i j m m' p e1 e2 e3 e4 => ?_, fun i hi => ?_, fun _ _ e => nomatch e⟩
      · unfold L2.start startE
        rw [List.length_append, List.length_append, List.length_map, List.length_map, List.length_replicate, List.length_replicate, hl]
      · obtain ⟨v, h1, h2⟩ := ar.getSh (startE_get e)
        exact ⟨v, start_get h1, h2⟩
      · obtain ⟨p, h1, h2⟩ := ar.getOw (startE_get e)
        exact ⟨p, start_get h1, h2⟩
      · have g1 := startE_get e1
        have g2 := startE_get e2
        obtain ⟨p1, h1, _⟩ := ar.getOw g1
        obtain ⟨p2, h2, _⟩ := ar.getOw g2
        rw [start_get h1] at e3
        rw [start_get h2] at e4
        cases e3; cases e4
        exact ap i j m m' _ g1 g2 h1 h2
      · have hi : i ∈ pr := hi
        rw [← hpos] at hi
        obtain ⟨j, m, e, q⟩ := owPos_at ds 0 i hi
        rw [Nat.zero_add] at e
        subst e
        obtain ⟨p, h1, _⟩ := ar.getOw q
        rw [start_get h1]
        show _ = some (some (V.ref (adOf vs i)))
        unfold adOf
        rw [h1]
    refine ⟨_, hb cdv A outer s H E (adOf vs) hr, B, startE N.length ds, G, R0, ?_⟩
    unfold runF at hF
    rw [if_pos hpos] at hF
    have pos : ∀ {j : Nat} {m : M}, ds[j]? = some (.ow m) → j ∈ pr := by
      have go : ∀ (ds : List DV) (k j : Nat) (m : M), ds[j]? = some (.ow m) → k + j ∈ owPos k ds := by
        intro ds
        induction ds with
        | nil => intro k j m h; simp at h
        | cons a r ih =>
          intro k j m h
          cases j with
          | zero => simp at h; subst h; simp [owPos]
          | succ j =>
            have := ih (k + 1) j m (by simpa using h)
            rw [show k + 1 + j = k + (j + 1) by omega] at this
            cases a with
            | sh d => exact this
            | ow m' => exact List.mem_cons_of_mem _ this
      intro j m h
      have := go ds 0 j m h
      rw [hpos, Nat.zero_add] at this
      exact this
    have hσ : ∀ {σ' : St} {ρ : ENV} {G' H' : Hp}, Rl K ⟨C, fun cl d _ H => E cl d H, pr, adOf vs, fun _ => none⟩ B ρ σ' G' H' → ∀ (j : Nat) (p : Addr), vs[j]? = some (.ref p) → (∃ m, ds[j]? = some (.ow m)) → σ'[0 + j]? = some (some (.ref p)) := by
      intro σ' ρ G' H' R j p h1 ⟨m, h2⟩
      have := R.pa j (pos h2)
      rw [Nat.zero_add, this]
      show some (some (V.ref (adOf vs j))) = _
      unfold adOf
      rw [h1]
    have fin : ∀ {v : DV} {ρ : ENV}, (match (match outsE 0 ds ρ with | some ms => FO.ok v ms | none => .bot) with
        | .ok v ms => ∀ x G' H', Ext B G G' → Same B H' → Same G' H' → Outs K C B G' H' vs ds ms → ValR K C B G' H' vs ds x v → Q x H'
        | .exc e ms => ∀ cl dd G' H', Ext B G G' → Same B H' → Same G' H' → Outs K C B G' H' vs ds ms → ERp K C G' e cl dd → E cl dd H'
        | .bot => False) → ∀ x σ' G' H', Ext B G G' → Rl K ⟨C, fun cl d _ H => E cl d H, pr, adOf vs, fun _ => none⟩ B ρ σ' G' H' → ValR K C B G' H' vs ds x v → Q x H' := by
      intro v ρ h x σ' G' H' ex R hv
      cases ho : outsE 0 ds ρ with
      | none => rw [ho] at h; exact h.elim
      | some ms => rw [ho] at h; exact h x G' H' ex R.bk R.gk (outs_of R ar (hσ R) ho) hv
    cases hd : den (startE N.length ds) with
    | ok fl ρ =>
      rw [hd] at hF
      cases fl with
      | nx => exact fun σ' G' H' ex R => fin hF .non σ' G' H' ex R .non
      | bk => exact hF.elim
      | ct => exact hF.elim
      | ret v =>
        cases v with
        | sh d => exact fun v σ' G' H' ex R p => fin hF v σ' G' H' ex R p
        | ow m =>
          refine fun p σ' G' H' ex R o n => ?_
          have hF' := hF
          dsimp only at hF'
          cases ho : outsE 0 ds ρ with
          | none => simp only [ho] at hF'
          | some ms =>
            have os := outs_of R ar (hσ R) ho
            refine fin hF (.ref p) σ' G' H' ex R ⟨p, rfl, o, fun i m' e z => ?_⟩
            -- the argument at i is owned at the end
            have own : ∀ {vs : List V} {ds : List DV} {k i : Nat} {ms : List M} {m' : M}, outsE k ds ρ = some ms → ds[i]? = some (.ow m') → ∃ m'', ρ[k + i]? = some (some (.ow m'')) := by
              intro vs ds
              induction ds with
              | nil => intro k i ms m' _ h; simp at h
              | cons a r ih =>
                intro k i ms m' h1 h2
                cases a with
                | sh d =>
                  cases i with
                  | zero => simp at h2
                  | succ i =>
                    obtain ⟨m'', q⟩ := ih (k := k + 1) (i := i) (m' := m') h1 (by simpa using h2)
                    exact ⟨m'', by rw [show k + (i + 1) = k + 1 + i by omega]; exact q⟩
                | ow m0 =>
                  unfold outsE at h1
                  split at h1
                  · rename_i m1 hm
                    cases i with
                    | zero => exact ⟨m1, hm⟩
                    | succ i =>
                      cases ho : outsE (k + 1) r ρ with
                      | none => rw [ho] at h1; cases h1
                      | some ms' =>
                        obtain ⟨m'', q⟩ := ih (k := k + 1) (i := i) (m' := m') ho (by simpa using h2)
                        exact ⟨m'', by rw [show k + (i + 1) = k + 1 + i by omega]; exact q⟩
                  · cases h1
            obtain ⟨m'', q⟩ := own (vs := vs) ho e
            have h3 := hσ R i p z ⟨m', e⟩
            exact n _ m'' q h3
    | exc e ρ =>
      rw [hd] at hF
      refine fun cl dd σ' G' H' ex R er => ?_
      dsimp only at hF
      cases ho : outsE 0 ds ρ with
      | none => simp only [ho] at hF
      | some ms =>
        simp only [ho] at hF
        exact hF cl dd G' H' ex R.bk R.gk (outs_of R ar (hσ R) ho) er
    | bot => rw [hd] at hF; exact hF.elim
theorem fn_ok {x qual : Str} {st : Stmt} {f : Addr} {fd : FuncData} {N ps : List Str} {k : Nat} (F : Fun K x qual st f fd) (S : FnScope N ps (defScope st)) (pr : List Nat) {den : ENV → R Fl} (hlen : ps.length ≤ N.length)
    (hb : ∀ (cdv : Value) (A : Around) (outer : List Env) (s : Shared) (H : Hp) (E : XK) (ad : Nat → Addr), Room k (A.deeper (PyProof.Rows.envOfC qual (defScope st) s.heap.objs.size f cdv)) →
      DSs (cxOf (L2.CX P w) P w K mg base N qual (defScope st) f cdv A outer s H E) ⟨C, fun cl d _ H => E cl d H, pr, ad, fun _ => none⟩ (defBody st) den) : FnOk P w K mg base (L2.CX P w) (k + 1) f fd ps (spF K C ps.length (runF pr N.length den)) :=
  fn_core (fun _ l h => F.okX S l h) pr hlen hb
end
end Rf
set_option Elab.async false
set_option linter.all false
set_option maxRecDepth 100000
/-! Rf: calls -/
namespace Rf
open PySem PySem.Spec L2
abbrev Ag := Sum D Nat
inductive AgR (K : PySem.W.Frag) (C : Nat → Addr) (σ : St) (G : Hp) : List V → List Ag → Prop
  | nil : AgR K C σ G [] []
  | sh {v : V} {d : D} {vs : List V} {as : List Ag} (h : Rp K C G v d) (r : AgR K C σ G vs as) : AgR K C σ G (v :: vs) (.inl d :: as)
  | io {p : Addr} {i : Nat} {vs : List V} {as : List Ag} (h : σ[i]? = some (some (.ref p))) (r : AgR K C σ G vs as) : AgR K C σ G (.ref p :: vs) (.inr i :: as)
theorem AgR.mono {K : PySem.W.Frag} {C : Nat → Addr} {σ : St} {G G' : Hp} (s : Same G G') : ∀ {vs : List V} {as : List Ag}, AgR K C σ G vs as → AgR K C σ G' vs as
  | _, _, .nil => .nil
  | _, _, .sh h r => .sh (h.mono s) (r.mono s)
  | _, _, .io h r => .io h (r.mono s)
def rAg (K : PySem.W.Frag) (cc : Cc) (den : ENV → R (List Ag)) : TA := fun σ H Q => ∃ B ρ G, Rl K cc B ρ σ G H ∧ Post K cc (fun G' vs as => AgR K cc.C σ G' vs as) B G σ Q (den ρ)
def DAg (X : Cx) (cc : Cc) (e : List Expr) (den : ENV → R (List Ag)) : Prop := PA X e (rAg X.K cc den)
def aNil : ENV → R (List Ag) := fun ρ => .ok [] ρ
def aVal (da : ENV → R D) (dr : ENV → R (List Ag)) : ENV → R (List Ag) := fun ρ => (da ρ).bind fun x ρ1 => (dr ρ1).bind fun xs ρ2 => .ok (.inl x :: xs) ρ2
def aIo (i : Nat) (dr : ENV → R (List Ag)) : ENV → R (List Ag) := fun ρ => match ρ[i]? with
  | some (some (.ow _)) => (dr ρ).bind fun xs ρ2 => .ok (.inr i :: xs) ρ2
  | _ => .bot
section
variable {X : Cx} {cc : Cc} {e : Expr} {es : List Expr} {da : ENV → R D} {dr : ENV → R (List Ag)} {pos p : Pos}
theorem dag_nil : DAg X cc [] aNil := PA.imp pa_nil fun σ H Q ⟨B, ρ, G, R0, h⟩ => h [] G H (Ext.refl _ _) R0 .nil
theorem dag_val (ha : DE X cc e da) (hr : DAg X cc es dr) (hs : starEach (e :: es) X.env = (false, eval e X.env) :: starEach es X.env := by rfl) : DAg X cc (e :: es) (aVal da dr) := by
  refine PA.imp (pa_cons ha hr hs) fun σ H Q ⟨B, ρ, G, R0, h⟩ => ⟨B, ρ, G, R0, Post.bind (V2 := fun G' vs as => AgR X.K cc.C σ G' vs as) h fun d1 ρ1 G1 H1 x e1 R1 p1 h1 => ⟨B, ρ1, G1, R1, Post.bind (V2 := fun G' vs as => AgR X.K cc.C σ G' vs as) h1 fun d2 ρ2 G2 H2 y e2 R2 p2 h2 => ?_⟩⟩
  exact h2 (x :: y) G2 H2 (Ext.refl _ _) R2 (.sh (p1.mono e2.gg) p2)
theorem dag_io (i : Nat) {x : Str} {p2 : Pos} (hr : DAg X cc es dr) (hN : X.N[i]? = some x := by rfl) (hv : Vis X.env.scope x := by first | exact Or.inl rfl | exact Or.inr (Or.inl rfl) | exact Or.inr (Or.inr rfl)) (hd : (x == ("__debug__" : Str)) = false := by decide)
    (hcd : (x == ("__classdict__" : Str)) = false := by decide) (hs : starEach (.Name x p2 :: es) X.env = (false, eval (.Name x p2) X.env) :: starEach es X.env := by rfl) : DAg X cc (.Name x p2 :: es) (aIo i dr) := by
  refine PA.imp (pa_cons (pe_var hN hv hd hcd) hr hs) fun σ H Q ⟨B, ρ, G, R0, h⟩ => ?_
  unfold aIo at h
  split at h
  rotate_left
  · exact h.elim
  rename_i m e
  obtain ⟨q, hq, _⟩ := R0.ow i m e
  refine ⟨_, hq, B, ρ, G, R0, Post.bind (V2 := fun G' vs as => AgR X.K cc.C σ G' vs as) h fun d2 ρ2 G2 H2 y e2 R2 p2 h2 => ?_⟩
  exact h2 (.ref q :: y) G2 H2 (Ext.refl _ _) R2 (.io hq p2)
/-- the arguments' data at the call -/
def reso (ρ : ENV) : List Ag → Option (List DV)
  | [] => some []
  | .inl d :: r => (reso ρ r).map (.sh d :: ·)
  | .inr i :: r => match ρ[i]? with
    | some (some (.ow m)) => (reso ρ r).map (.ow m :: ·)
    | _ => none
def slots : List Ag → List Nat
  | [] => []
  | .inl _ :: r => slots r
  | .inr i :: r => i :: slots r
def putB : List Ag → List M → ENV → Option ENV
  | [], [], ρ => some ρ
  | .inl _ :: r, ms, ρ => putB r ms ρ
  | .inr i :: r, m :: ms, ρ => putB r ms (ρ.set i (some (.ow m)))
  | _, _, _ => none
def nodupB : List Nat → Bool
  | [] => true
  | i :: r => !r.contains i && nodupB r
def stepR (F : List DV → FO) (as : List Ag) (ρ : ENV) : R DV := match (if nodupB (slots as) = true then reso ρ as else none) with
  | some ds => match F ds with
    | .ok v ms => match putB as ms ρ with | some ρ2 => .ok v ρ2 | none => .bot
    | .exc e ms => match putB as ms ρ with | some ρ2 => .exc e ρ2 | none => .bot
    | .bot => .bot
  | none => .bot
def PostV (K : PySem.W.Frag) (cc : Cc) (B G : Hp) (σ : St) (Q : V → Hp → Prop) (r : R DV) : Prop := match r with
  | .ok (.sh d) ρ' => ∀ x G' H', Ext B G G' → Rl K cc B ρ' σ G' H' → Rp K cc.C G' x d → Q x H'
  | .ok (.ow m) ρ' => ∀ p G' H', Ext B G G' → Rl K cc B ρ' σ G' H' → Own K cc.C B G' H' p m → NotAt ρ' σ p → Q (.ref p) H'
  | .exc e ρ' => ∀ cl dd G' H', Ext B G G' → Rl K cc B ρ' σ G' H' → ERp K cc.C G' e cl dd → cc.W cl dd σ H'
  | .bot => False
def onSh : DV → ENV → R D
  | .sh d, ρ => .ok d ρ
  | .ow _, _ => .bot
def onOw : DV → ENV → R M
  | .sh _, _ => .bot
  | .ow m, ρ => .ok m ρ
theorem PostV.sh {K : PySem.W.Frag} {cc : Cc} {B G : Hp} {σ : St} {Q : V → Hp → Prop} {r : R DV} (h : Post K cc (Rp K cc.C) B G σ Q (r.bind onSh)) : PostV K cc B G σ Q r := by
  cases r with
  | ok v ρ => cases v with
    | sh d => exact h
    | ow m => exact h.elim
  | exc e ρ => exact h
  | bot => exact h
theorem PostV.ow {K : PySem.W.Frag} {cc : Cc} {B G : Hp} {σ : St} {Q : V → Hp → Prop} {r : R DV} (h : PostF K cc B G σ Q (r.bind onOw)) : PostV K cc B G σ Q r := by
  cases r with
  | ok v ρ => cases v with
    | sh d => exact h.elim
    | ow m => exact h
  | exc e ρ => exact h
  | bot => exact h
/-- the addresses at the slots -/
def addrAt (σ : St) (i : Nat) : Option Addr := match σ[i]? with
  | some (some (V.ref p)) => some p
  | _ => none
def addrs (σ : St) (as : List Ag) : List Addr := (slots as).filterMap (addrAt σ)
theorem mem_addrs {σ : St} {as : List Ag} {p : Addr} : p ∈ addrs σ as ↔ ∃ i, i ∈ slots as ∧ σ[i]? = some (some (.ref p)) := by
  unfold addrs
  rw [List.mem_filterMap]
  constructor
  · rintro ⟨i, hi, e⟩
    refine ⟨i, hi, ?_⟩
    unfold addrAt at e
    split at e
    · cases e; assumption
    · cases e
  · rintro ⟨i, hi, e⟩
    exact ⟨i, hi, by unfold addrAt; rw [e]⟩
/-- what the callee is to keep -/
def keepB (H : Hp) (σ : St) (as : List Ag) : Hp := fun b => if b ∈ addrs σ as then none else H b
section
variable {K : PySem.W.Frag} {B G H G' H' : Hp} {ρ ρ2 : ENV} {σ : St}
theorem keepB_same : Same (keepB H σ as) H := fun b u e => by
  unfold keepB at e
  split at e
  · cases e
  · exact e
theorem keepB_in {p : Addr} (h : p ∈ addrs σ as) : keepB H σ as p = none := by unfold keepB; rw [if_pos h]
theorem keepB_out {p : Addr} (h : p ∉ addrs σ as) : keepB H σ as p = H p := by unfold keepB; rw [if_neg h]
/-- the arguments as the callee sees them -/
theorem ar_of (R : Rl K cc B ρ σ G H) (B' : Hp) {vs : List V} {as : List Ag} (r : AgR K cc.C σ G vs as) : ∀ {ds : List DV}, (∀ p, (∃ i, i ∈ slots as ∧ σ[i]? = some (some (V.ref p))) → B' p = none) → reso ρ as = some ds → AR K cc.C B' G H vs ds := by
  induction r with
  | nil => intro ds _ e; cases e; exact .nil
  | @sh v d vs as h r ih =>
    intro ds hb e
    unfold reso at e
    cases hr : reso ρ as with
    | none => rw [hr] at e; cases e
    | some ds' => rw [hr] at e; cases e; exact AR.sh h (ih hb hr)
  | @io p i vs as h r ih =>
    intro ds hb e
    unfold reso at e
    split at e
    · rename_i m hm
      cases hr : reso ρ as with
      | none => rw [hr] at e; cases e
      | some ds' =>
        rw [hr] at e; cases e
        obtain ⟨p', h1, o⟩ := R.ow i m hm
        rw [h] at h1; cases h1
        exact AR.ow ⟨hb p ⟨i, List.mem_cons_self, h⟩, o.ng, o.at_⟩ (ih (fun p ⟨j, hj, q⟩ => hb p ⟨j, List.mem_cons_of_mem _ hj, q⟩) hr)
    · cases e
/-- an owned argument comes from an owned slot -/
theorem slot_of {vs : List V} {as : List Ag} {ds : List DV} (r : AgR K cc.C σ G vs as) (e : reso ρ as = some ds) : ∀ {j : Nat} {m : M}, ds[j]? = some (.ow m) → ∃ i p, as[j]? = some (.inr i) ∧ i ∈ slots as ∧ ρ[i]? = some (some (.ow m)) ∧ vs[j]? = some (.ref p) ∧ σ[i]? = some (some (.ref p)) := by
  induction r generalizing ds with
  | nil => intro j m h; cases e; simp at h
  | @sh v d vs as h r ih =>
    intro j m hj
    unfold reso at e
    cases hr : reso ρ as with
    | none => rw [hr] at e; cases e
    | some ds' =>
      rw [hr] at e; cases e
      cases j with
      | zero => simp at hj
      | succ j =>
        obtain ⟨i, p, h1, h2, h3, h4, h5⟩ := ih hr (j := j) (m := m) (by simpa using hj)
        exact ⟨i, p, by simpa using h1, h2, h3, by simpa using h4, h5⟩
  | @io p i vs as h r ih =>
    intro j m hj
    unfold reso at e
    split at e
    · rename_i m0 hm
      cases hr : reso ρ as with
      | none => rw [hr] at e; cases e
      | some ds' =>
        rw [hr] at e; cases e
        cases j with
        | zero => simp at hj; subst hj; exact ⟨i, p, rfl, List.mem_cons_self, hm, rfl, h⟩
        | succ j =>
          obtain ⟨i', p', h1, h2, h3, h4, h5⟩ := ih hr (j := j) (m := m) (by simpa using hj)
          exact ⟨i', p', by simpa using h1, List.mem_cons_of_mem _ h2, h3, by simpa using h4, h5⟩
    · cases e
theorem slots_at : ∀ {as : List Ag} {j j' i : Nat}, nodupB (slots as) = true → as[j]? = some (.inr i) → as[j']? = some (.inr i) → j = j'
  | [], j, j', i, _, h, _ => by simp at h
  | .inl d :: r, j, j', i, hn, h, h' => by
    cases j with
    | zero => simp at h
    | succ j => cases j' with
      | zero => simp at h'
      | succ j' => rw [slots_at (as := r) (j := j) (j' := j') (i := i) hn (by simpa using h) (by simpa using h')]
  | .inr k :: r, j, j', i, hn, h, h' => by
    have hn' : (!(slots r).contains k && nodupB (slots r)) = true := hn
    rw [Bool.and_eq_true, Bool.not_eq_true'] at hn'
    have nk : ∀ j : Nat, r[j]? = some (.inr k) → False := fun j h => by
      have : ∀ (r : List Ag) (j : Nat), r[j]? = some (.inr k) → k ∈ slots r := by
        intro r
        induction r with
        | nil => intro j h; simp at h
        | cons a r ih =>
          intro j h
          cases j with
          | zero => simp at h; subst h; exact List.mem_cons_self
          | succ j =>
            have := ih j (by simpa using h)
            cases a with
            | inl d => exact this
            | inr i => exact List.mem_cons_of_mem _ this
      have := this r j h
      have := hn'.1
      simp at this
      exact this ‹_›
    cases j with
    | zero =>
      simp at h; subst h
      cases j' with
      | zero => rfl
      | succ j' => exact (nk j' (by simpa using h')).elim
    | succ j => cases j' with
      | zero => simp at h'; subst h'; exact (nk j (by simpa using h)).elim
      | succ j' => rw [slots_at (as := r) (j := j) (j' := j') (i := i) hn'.2 (by simpa using h) (by simpa using h')]
/-- behind the call: one owned slot after another -/
theorem put_ok {vs : List V} {as : List Ag} (r : AgR K cc.C σ G vs as) : ∀ {ds : List DV} {ms : List M} {ρ ρ2 ρs : ENV}, reso ρs as = some ds → Outs K cc.C B G' H' vs ds ms → putB as ms ρ = some ρ2 → nodupB (slots as) = true →
    ρ2.length = ρ.length ∧ (∀ i, i ∉ slots as → ρ2[i]? = ρ[i]?) ∧ ∀ i, i ∈ slots as → i < ρ.length → ∃ m p, ρ2[i]? = some (some (DV.ow m)) ∧ σ[i]? = some (some (V.ref p)) ∧ Own K cc.C B G' H' p m := by
  induction r with
  | nil =>
    intro ds ms ρ ρ2 ρs e o h hn
    cases e
    cases o
    cases h
    exact ⟨rfl, fun _ _ => rfl, fun i hi => by cases hi⟩
  | @sh v d vs as h r ih =>
    intro ds ms ρ ρ2 ρs e o hp hn
    unfold reso at e
    cases hr : reso ρs as with
    | none => rw [hr] at e; cases e
    | some ds' =>
      rw [hr] at e; cases e
      cases o with
      | sh o => exact ih hr o hp hn
  | @io p i vs as h r ih =>
    intro ds ms ρ ρ2 ρs e o hp hn
    have hn' : (!(slots as).contains i && nodupB (slots as)) = true := hn
    rw [Bool.and_eq_true, Bool.not_eq_true'] at hn'
    have ni : i ∉ slots as := fun z => by
      have := hn'.1
      simp at this
      exact this z
    unfold reso at e
    split at e
    · rename_i m0 hm
      cases hr : reso ρs as with
      | none => rw [hr] at e; cases e
      | some ds' =>
        rw [hr] at e; cases e
        cases o with
        | ow ho o =>
          rename_i m' ms'
          obtain ⟨h1, h2, h3⟩ := ih hr o (show putB as ms' (ρ.set i (some (.ow m'))) = some ρ2 from hp) hn'.2
          rw [List.length_set] at h1
          refine ⟨h1, fun j hj => ?_, fun j hj hl => ?_⟩
          · have h4 : j ≠ i := fun z => hj (by rw [z]; exact List.mem_cons_self)
            rw [h2 j fun z => hj (List.mem_cons_of_mem _ z), List.getElem?_set_ne (Ne.symm h4)]
          · by_cases q : j = i
            · subst q
              exact ⟨m', p, by rw [h2 j ni, List.getElem?_set_self hl], h, ho⟩
            · rcases List.mem_cons.mp hj with z | z
              · exact absurd z q
              · exact h3 j z (by rw [List.length_set]; exact hl)
    · cases e
/-- the caller behind the call -/
theorem Rl.called (R : Rl K cc B ρ σ G H) {vs : List V} {as : List Ag} {ds : List DV} {ms : List M} (ag : AgR K cc.C σ G vs as) (he : reso ρ as = some ds) (hn : nodupB (slots as) = true) (hp : putB as ms ρ = some ρ2) (ho : ∀ i ∈ slots as, ∃ m, ρ[i]? = some (some (.ow m)))
    (ex : Ext (keepB H σ as) G G') (kp : Same (keepB H σ as) H') (gk : Same G' H') (os : Outs K cc.C (keepB H σ as) G' H' vs ds ms) : Ext B G G' ∧ Rl K cc B ρ2 σ G' H' := by
  have own : ∀ p, p ∈ addrs σ as → B p = none ∧ G p = none := fun p hp => by
    obtain ⟨i, hi, e⟩ := mem_addrs.mp hp
    obtain ⟨m, hm⟩ := ho i hi
    obtain ⟨p', h1, o⟩ := R.ow i m hm
    rw [e] at h1; cases h1
    exact ⟨o.nb, o.ng⟩
  have kb : ∀ b, keepB H σ as b = none → B b = none := fun b h => by
    by_cases q : b ∈ addrs σ as
    · exact (own b q).1
    · rw [keepB_out q] at h; exact R.bk.free h
  obtain ⟨h1, h2, h3⟩ := put_ok ag he os hp hn
  have old : ∀ {i : Nat} {m : M}, ρ2[i]? = some (some (.ow m)) → (i ∈ slots as ∧ ∃ m0, ρ[i]? = some (some (.ow m0))) ∨ (i ∉ slots as ∧ ρ[i]? = some (some (.ow m))) := fun {i m} e => by
    by_cases q : i ∈ slots as
    · exact .inl ⟨q, ho i q⟩
    · exact .inr ⟨q, by rw [← h2 i q]; exact e⟩
  refine ⟨⟨ex.gg, fun a u e => ?_⟩, ⟨fun b u e => ?_, gk, by rw [h1]; exact R.ln, fun i d e => ?_, fun i m e => ?_, fun i j m m' p e1 e2 e3 e4 => ?_, R.pa, R.kg.trans ex.gg⟩⟩
  · rcases ex.nb a u e with h | h
    · exact .inl h
    · exact .inr (kb a h)
  · refine kp b u ?_
    have q : b ∉ addrs σ as := fun z => by rw [(own b z).1] at e; cases e
    rw [keepB_out q]; exact R.bk b u e
  · by_cases q : i ∈ slots as
    · obtain ⟨m, hm⟩ := ho i q
      obtain ⟨m', p, h4, _⟩ := h3 i q (List.getElem?_eq_some_iff.mp hm).1
      rw [h4] at e; cases e
    · rw [h2 i q] at e
      obtain ⟨v, h4, h5⟩ := R.sh i d e
      exact ⟨v, h4, h5.mono ex.gg⟩
  · by_cases q : i ∈ slots as
    · obtain ⟨m0, hm⟩ := ho i q
      obtain ⟨m', p, h4, h5, h6⟩ := h3 i q (List.getElem?_eq_some_iff.mp hm).1
      rw [h4] at e; cases e
      exact ⟨p, h5, (own p (mem_addrs.mpr ⟨i, q, h5⟩)).1, h6.ng, h6.at_⟩
    · rw [h2 i q] at e
      obtain ⟨p, h4, o⟩ := R.ow i m e
      have np : p ∉ addrs σ as := fun z => by
        obtain ⟨j, hj, ej⟩ := mem_addrs.mp z
        obtain ⟨m0, hm⟩ := ho j hj
        exact q (by rw [R.df i j m m0 p e hm h4 ej]; exact hj)
      obtain ⟨x, hx, hm⟩ := o.at_
      refine ⟨p, h4, o.nb, ?_, x, kp p x (by rw [keepB_out np]; exact hx), hm.mono ex.gg⟩
      cases hg : G' p with
      | none => rfl
      | some u =>
        rcases ex.nb p u hg with h | h
        · rw [o.ng] at h; cases h
        · rw [keepB_out np, hx] at h; cases h
  · have g : ∀ {i : Nat} {m : M}, ρ2[i]? = some (some (.ow m)) → ∃ m0, ρ[i]? = some (some (.ow m0)) := fun {i m} e => by
      rcases old e with ⟨_, h⟩ | ⟨_, h⟩
      · exact h
      · exact ⟨m, h⟩
    obtain ⟨m1, q1⟩ := g e1
    obtain ⟨m2, q2⟩ := g e2
    exact R.df i j m1 m2 p q1 q2 e3 e4
theorem reso_own : ∀ {as : List Ag} {ds : List DV}, reso ρ as = some ds → ∀ i ∈ slots as, ∃ m, ρ[i]? = some (some (.ow m))
  | [], _, _, i, h => by cases h
  | .inl d :: r, ds, e, i, h => by
    unfold reso at e
    cases hr : reso ρ r with
    | none => rw [hr] at e; cases e
    | some ds' => exact reso_own hr i h
  | .inr k :: r, ds, e, i, h => by
    unfold reso at e
    split at e
    · rename_i m hm
      rcases List.mem_cons.mp h with z | z
      · subst z; exact ⟨m, hm⟩
      · cases hr : reso ρ r with
        | none => rw [hr] at e; cases e
        | some ds' => exact reso_own hr i z
    · cases e
/-- THE STEP: the callee's promise gives what the caller's reading wants -/
theorem call_core (F : List DV → FO) {n : Nat} {Q : V → Hp → Prop} {vs : List V} {as : List Ag} (R : Rl K cc B ρ σ G H) (ag : AgR K cc.C σ G vs as) (hl : vs.length = n)
    (h : PostV K cc B G σ Q (stepR F as ρ)) : spF K cc.C n F vs H Q (WE cc.W σ) := by
  unfold stepR at h
  by_cases hn : nodupB (slots as) = true
  rotate_left
  · rw [if_neg hn] at h; exact h.elim
  rw [if_pos hn] at h
  cases he : reso ρ as with
  | none => rw [he] at h; exact h.elim
  | some ds => ?_
  rw [he] at h
  dsimp only at h
  have ho := reso_own he
  have knb : ∀ p, (∃ i, i ∈ slots as ∧ σ[i]? = some (some (.ref p))) → keepB H σ as p = none := fun p hp => keepB_in (mem_addrs.mpr hp)
  refine ⟨ds, keepB H σ as, G, hl, keepB_same, R.gk, ar_of R _ ag knb he, fun i j m m' p e1 e2 e3 e4 => ?_, ?_⟩
  · obtain ⟨i1, p1, a1, s1, r1, v1, g1⟩ := slot_of ag he e1
    obtain ⟨i2, p2, a2, s2, r2, v2, g2⟩ := slot_of ag he e2
    rw [v1] at e3; cases e3
    rw [v2] at e4; cases e4
    have := R.df i1 i2 m m' _ r1 r2 g1 g2
    subst this
    exact slots_at hn a1 a2
  · cases hF : F ds with
    | bot => rw [hF] at h; exact h
    | exc e ms =>
      rw [hF] at h
      dsimp only at h
      refine fun cl dd G' H' ex kp gk os er => ?_
      cases hp : putB as ms ρ with
      | none => rw [hp] at h; exact h.elim
      | some ρ2 =>
        rw [hp] at h
        obtain ⟨ex', R'⟩ := R.called ag he hn hp ho ex kp gk os
        exact h cl dd G' H' ex' R' er
    | ok v ms =>
      rw [hF] at h
      dsimp only at h
      refine fun x G' H' ex kp gk os hv => ?_
      cases hp : putB as ms ρ with
      | none => rw [hp] at h; exact h.elim
      | some ρ2 =>
        rw [hp] at h
        obtain ⟨ex', R'⟩ := R.called ag he hn hp ho ex kp gk os
        cases v with
        | sh d => exact h x G' H' ex' R' hv
        | ow m =>
          obtain ⟨p, rfl, o, nf⟩ := hv
          have nb := o.nb
          -- p is no slot's object
          have notArg : p ∉ addrs σ as := fun z => by
            obtain ⟨i, hi, e⟩ := mem_addrs.mp z
            have find : ∀ {vs : List V} {as : List Ag} {ds : List DV}, AgR K cc.C σ G vs as → reso ρ as = some ds → i ∈ slots as → ∃ (j : Nat) (m : M), ds[j]? = some (DV.ow m) ∧ vs[j]? = some (V.ref p) := by
              intro vs as ds r
              induction r generalizing ds with
              | nil => intro _ h; cases h
              | @sh v d vs as h r ih =>
                intro e2 h2
                unfold reso at e2
                cases hr : reso ρ as with
                | none => rw [hr] at e2; cases e2
                | some ds' =>
                  rw [hr] at e2; cases e2
                  obtain ⟨j, m, q1, q2⟩ := ih hr h2
                  exact ⟨j + 1, m, by simpa using q1, by simpa using q2⟩
              | @io p' i' vs as h r ih =>
                intro e2 h2
                unfold reso at e2
                split at e2
                · rename_i m0 hm
                  cases hr : reso ρ as with
                  | none => rw [hr] at e2; cases e2
                  | some ds' =>
                    rw [hr] at e2; cases e2
                    rcases List.mem_cons.mp h2 with z | z
                    · subst z
                      rw [e] at h; cases h
                      exact ⟨0, m0, rfl, rfl⟩
                    · obtain ⟨j, m, q1, q2⟩ := ih hr z
                      exact ⟨j + 1, m, by simpa using q1, by simpa using q2⟩
                · cases e2
            obtain ⟨j, m, q1, q2⟩ := find ag he hi
            exact nf j m q1 q2
          rw [keepB_out notArg] at nb
          refine h p G' H' ex' R' ⟨R.bk.free nb, o.ng, o.at_⟩ fun i m' e z => ?_
          obtain ⟨p', h1, o'⟩ := R'.ow i m' e
          rw [z] at h1; cases h1
          -- the slot i was owned ahead of the call, and its object stood there
          have : ∃ m0, ρ[i]? = some (some (.ow m0)) := by
            by_cases q : i ∈ slots as
            · exact ho i q
            · obtain ⟨_, h2, _⟩ := put_ok ag he os hp hn
              exact ⟨m', by rw [← h2 i q]; exact e⟩
          obtain ⟨m0, hm0⟩ := this
          obtain ⟨p2, h3, o2⟩ := R.ow i m0 hm0
          rw [z] at h3; cases h3
          obtain ⟨y, hy, _⟩ := o2.at_
          rw [nb] at hy; cases hy
end
/-! ### f(..) -/
structure Callee (X : Cx) (cc : Cc) (x : Str) (n : Nat) (F : List DV → FO) : Prop where
  ex : ∃ (f : Addr) (fd : FuncData) (ps : List Str) (k : Nat), ps.length = n ∧ FnOk X.prog X.w X.K X.mg X.base (L2.CX X.prog X.w) k f fd ps (spF X.K cc.C n F) ∧ Room k X.A ∧ X.mg x = some (.ref f) ∧ PySem.W.keepIn X.K (.ref f) = true ∧ Binds X.K fd ps []
def dCall (F : List DV → FO) (dr : ENV → R (List Ag)) : ENV → R D := fun ρ => ((dr ρ).bind (stepR F)).bind onSh
def fCall (F : List DV → FO) (dr : ENV → R (List Ag)) : ENV → R M := fun ρ => ((dr ρ).bind (stepR F)).bind onOw
theorem AgR.length {K : PySem.W.Frag} {C : Nat → Addr} {σ : St} {G : Hp} : ∀ {vs : List V} {as : List Ag}, AgR K C σ G vs as → vs.length = as.length
  | _, _, .nil => rfl
  | _, _, .sh _ r => congrArg (· + 1) r.length
  | _, _, .io _ r => congrArg (· + 1) r.length
/-- n arguments come -/
def Many (n : Nat) (dr : ENV → R (List Ag)) : Prop := ∀ ρ as ρ1, dr ρ = .ok as ρ1 → as.length = n
theorem many_nil : Many 0 aNil := fun ρ as ρ1 e => by cases e; rfl
theorem many_val {n : Nat} (h : Many n dr) : Many (n + 1) (aVal da dr) := fun ρ as ρ1 e => by
  dsimp only [aVal] at e
  cases hd : da ρ with
  | ok d ρ2 =>
    rw [hd] at e
    dsimp only [R.bind] at e
    cases hr : dr ρ2 with
    | ok as' ρ3 => rw [hr] at e; cases e; exact congrArg (· + 1) (h _ _ _ hr)
    | exc _ _ => rw [hr] at e; cases e
    | bot => rw [hr] at e; cases e
  | exc _ _ => rw [hd] at e; cases e
  | bot => rw [hd] at e; cases e
theorem many_io {n i : Nat} (h : Many n dr) : Many (n + 1) (aIo i dr) := fun ρ as ρ1 e => by
  dsimp only [aIo] at e
  split at e
  · cases hr : dr ρ with
    | ok as' ρ3 => rw [hr] at e; cases e; exact congrArg (· + 1) (h _ _ _ hr)
    | exc _ _ => rw [hr] at e; cases e
    | bot => rw [hr] at e; cases e
  · cases e
variable {x : Str} {F : List DV → FO} {n : Nat}
theorem PostV.ext {K : PySem.W.Frag} {cc : Cc} {B G G1 : Hp} {σ : St} {Q : V → Hp → Prop} {r : R DV} (h : PostV K cc B G σ Q r) (x : Ext B G G1) : PostV K cc B G1 σ Q r := by
  cases r with
  | ok v ρ => cases v with
    | sh d => exact fun v G' H' e => h v G' H' (x.trans e)
    | ow m => exact fun v G' H' e => h v G' H' (x.trans e)
  | exc e ρ => exact fun cl dd G' H' e => h cl dd G' H' (x.trans e)
  | bot => exact h
theorem call_read {σ : St} {H : Hp} {Q : V → Hp → Prop} (hn : Many n dr) {B G : Hp} {ρ : ENV} (R0 : Rl X.K cc B ρ σ G H) (h : PostV X.K cc B G σ Q ((dr ρ).bind (stepR F))) : tCallS (spF X.K cc.C n F) (WE cc.W) (rAg X.K cc dr) σ H Q := by
  refine ⟨B, ρ, G, R0, ?_⟩
  cases hd : dr ρ with
  | exc e ρ1 => rw [hd] at h; exact h
  | bot => rw [hd] at h; exact h
  | ok as ρ1 =>
    rw [hd] at h
    intro vs G1 H1 e1 R1 ag
    exact call_core F R1 ag (ag.length.trans (hn ρ as ρ1 hd)) (PostV.ext h e1)
theorem pe_callS0 {CX : CXT} {k : Nat} {f : Addr} {fd : FuncData} {ps : List Str} {sp : Sp} {E : St → XK} (F : FnOk X.prog X.w X.K X.mg X.base CX k f fd ps sp) (hr : Room k X.A) (hg : Gl X x) (hm : X.mg x = some (.ref f)) (hk : PySem.W.keepIn X.K (.ref f) = true) (hb : Binds X.K fd ps []) (hx : ∀ σ, PassesAt CX X σ (E σ))
    (hdb : (x == ("__debug__" : Str)) = false := by decide) : PE X (.Call (.Name x p) [] [] pos) (tCallS sp E tNil) := by
  refine ⟨fun pins s σ H Q I h => ?_⟩
  refine wpAny_Call_Name_kw (ld_glob I hg hm ?_ hdb)
  exact PySem.W.callWith_K0 I.kIn hk (run_fnS (us := []) F hr hb (hx σ) I .nil h)
theorem pe_callR {e : Expr} {es : List Expr} (c : Callee X cc x n F) (tk : Takes X cc.W) (ha : DAg X cc (e :: es) dr) (hg : Gl X x)
    (hdb : (x == ("__debug__" : Str)) = false := by decide) (he : starEach (e :: es) X.env = (false, eval e X.env) :: starEach es X.env := by rfl) (hpl : (backTo pos (starEach es X.env)).any (·.1) = false := by rfl) :
    PE X (.Call (.Name x p) (e :: es) [] pos) (tCallS (spF X.K cc.C n F) (WE cc.W) (rAg X.K cc dr)) := by
  obtain ⟨f, fd, ps, k, hps, G, hr, hm, hk, hb⟩ := c.ex
  exact pe_callS G hr hg hm hk hb (fun σ => passAt tk σ) ha hdb he hpl
theorem de_call {e : Expr} {es : List Expr} (c : Callee X cc x n F) (tk : Takes X cc.W) (ha : DAg X cc (e :: es) dr) (hn : Many n dr) (hg : Gl X x := by rfl)
    (hdb : (x == ("__debug__" : Str)) = false := by decide) (he : starEach (e :: es) X.env = (false, eval e X.env) :: starEach es X.env := by rfl) (hpl : (backTo pos (starEach es X.env)).any (·.1) = false := by rfl) :
    DE X cc (.Call (.Name x p) (e :: es) [] pos) (dCall F dr) := PE.imp (pe_callR c tk ha hg hdb he hpl) fun σ H Q ⟨B, ρ, G, R0, h⟩ => call_read hn R0 (PostV.sh h)
theorem df_call {e : Expr} {es : List Expr} (c : Callee X cc x n F) (tk : Takes X cc.W) (ha : DAg X cc (e :: es) dr) (hn : Many n dr) (hg : Gl X x := by rfl)
    (hdb : (x == ("__debug__" : Str)) = false := by decide) (he : starEach (e :: es) X.env = (false, eval e X.env) :: starEach es X.env := by rfl) (hpl : (backTo pos (starEach es X.env)).any (·.1) = false := by rfl) :
    DF X cc (.Call (.Name x p) (e :: es) [] pos) (fCall F dr) := PE.imp (pe_callR c tk ha hg hdb he hpl) fun σ H Q ⟨B, ρ, G, R0, h⟩ => call_read hn R0 (PostV.ow h)
theorem pe_callR0 (c : Callee X cc x 0 F) (tk : Takes X cc.W) (hg : Gl X x) (hdb : (x == ("__debug__" : Str)) = false := by decide) :
    PE X (.Call (.Name x p) [] [] pos) (tCallS (spF X.K cc.C 0 F) (WE cc.W) tNil) := by
  obtain ⟨f, fd, ps, k, hps, G, hr, hm, hk, hb⟩ := c.ex
  exact pe_callS0 G hr hg hm hk hb (fun σ => passAt tk σ) hdb
theorem call_read0 {σ : St} {H : Hp} {Q : V → Hp → Prop} {B G : Hp} {ρ : ENV} (R0 : Rl X.K cc B ρ σ G H) (h : PostV X.K cc B G σ Q (stepR F [] ρ)) : tCallS (spF X.K cc.C 0 F) (WE cc.W) tNil σ H Q :=
  call_core F R0 .nil rfl h
theorem de_call0 (c : Callee X cc x 0 F) (tk : Takes X cc.W) (hg : Gl X x := by rfl) (hdb : (x == ("__debug__" : Str)) = false := by decide) : DE X cc (.Call (.Name x p) [] [] pos) (dCall F aNil) :=
  PE.imp (pe_callR0 c tk hg hdb) fun σ H Q ⟨B, ρ, G, R0, h⟩ => call_read0 R0 (PostV.sh h)
theorem df_call0 (c : Callee X cc x 0 F) (tk : Takes X cc.W) (hg : Gl X x := by rfl) (hdb : (x == ("__debug__" : Str)) = false := by decide) : DF X cc (.Call (.Name x p) [] [] pos) (fCall F aNil) :=
  PE.imp (pe_callR0 c tk hg hdb) fun σ H Q ⟨B, ρ, G, R0, h⟩ => call_read0 R0 (PostV.ow h)
end
end Rf
set_option Elab.async false
set_option linter.all false
set_option maxRecDepth 100000
/-! Rf: raise, try -/
namespace Rf
open PySem PySem.Spec L2
section
variable {X : Cx} {cc : Cc} {pos p : Pos}
/-- X() of an own exception class without __init__ -/
theorem pmk_own0 {C : Addr} {bmB : List Value} {B newId initId : String} {x : Str} (F : ExcBaseFacts B newId initId bmB) (q : PySem.W.excIn X.K C bmB newId = true) (gC : X.mg x = some (.ref C)) (kC : PySem.W.keepIn X.K (.ref C) = true) (r : Raises X (.ref C)) (hg : Gl X x)
    (hdb : (x == ("__debug__" : Str)) = false := by decide) : PMk X (.Call (.Name x p) [] [] pos) (fun _ H Q => Q (.ref C) none H) := by
  intro pins s σ H Q I h
  refine wpAny_Call_Name_kw (ld_glob I hg gC ?_ hdb)
  refine PySem.W.callWith_K0 I.kIn kC ?_
  obtain ⟨bm, N, nm, qn, bs, hdct, sn, sub, ab, col, dd, k0, k1, k2, k3, k5, mN, hC, hN, hni, T⟩ := exc_obj I.kIn q
  refine wpAny_call_exc_subT F T hC hN hni (fun h' e hm => ?_) (by show 0 ≤ sizeLine; exact Nat.zero_le _)
  exact mk_of I hm r h (I.hok.gone hm.new)
def sRaise (e : EX) : ENV → R Fl := fun ρ => .exc e ρ
theorem ds_raise0 {c : Nat} {e : Expr} (hc : X.calm = true) (tk : Takes X cc.W) (hm : PMk X e (fun _ H Q => Q (.ref (cc.C c)) none H)) : DS X cc (.Raise (some e) none pos) (sRaise ⟨c, []⟩) :=
  PS.imp (ps_raise hc tk hm) fun Dn σ H ⟨B, ρ, G, R0, h⟩ => h (.ref (cc.C c)) none σ G H (Ext.refl _ _) R0 ⟨rfl, .inl ⟨rfl, rfl⟩⟩
theorem Rl.toW {K : PySem.W.Frag} {B : Hp} {ρ : ENV} {σ : St} {G H : Hp} (r : Rl K cc B ρ σ G H) (W : WX) : Rl K { cc with W := W } B ρ σ G H := ⟨r.bk, r.gk, r.ln, r.sh, r.ow, r.df, r.pa, r.kg⟩
theorem Rl.ofW {K : PySem.W.Frag} {B : Hp} {ρ : ENV} {σ : St} {G H : Hp} {W : WX} (r : Rl K { cc with W := W } B ρ σ G H) : Rl K cc B ρ σ G H := ⟨r.bk, r.gk, r.ln, r.sh, r.ow, r.df, r.pa, r.kg⟩
abbrev Cc.quiet (cc : Cc) : Cc := { cc with W := fun _ _ _ _ => False }
/-- behind a body that ends in order -/
theorem PostS.toW {K : PySem.W.Frag} {B G : Hp} {Dn : Ends} {r : R Fl} {W : WX} (h : PostS K cc B G Dn r) (hx : ∀ e ρ, r = .exc e ρ → ∀ cl dd σ' G' H', Ext B G G' → Rl K cc B ρ σ' G' H' → ERp K cc.C G' e cl dd → W cl dd σ' H') : PostS K { cc with W := W } B G Dn r := by
  cases r with
  | ok f ρ =>
    cases f with
    | nx => exact fun σ' G' H' e R => h σ' G' H' e R.ofW
    | bk => exact fun σ' G' H' e R => h σ' G' H' e R.ofW
    | ct => exact fun σ' G' H' e R => h σ' G' H' e R.ofW
    | ret v => cases v with
      | sh d => exact fun v σ' G' H' e R => h v σ' G' H' e R.ofW
      | ow m => exact fun v σ' G' H' e R => h v σ' G' H' e R.ofW
  | exc e ρ => exact fun cl dd σ' G' H' ex R => hx e ρ rfl cl dd σ' G' H' ex R.ofW
  | bot => exact h
/-- try: body, except class c: suite; sub: which classes stand under which -/
def sTry (sub : Nat → Nat → Option Bool) (sb : ENV → R Fl) (c : Nat) (ss : ENV → R Fl) : ENV → R Fl := fun ρ => match sb ρ with
  | .exc e ρ1 => match sub e.c c with
    | some true => match ss ρ1 with
      | .exc _ _ => .bot
      | r => r
    | some false => .exc e ρ1
    | none => .bot
  | r => r
variable {sub : Nat → Nat → Option Bool}
theorem ds_try {x : Str} {c : Nat} {body suite : List Stmt} {b0 : Stmt} {np pos' : Pos} {sb ss : ENV → R Fl} (hs : X.stack = X.env :: X.outer) (hf : X.env.frame = some X.env.locals) (hc : Names X x (.ref (cc.C c))) (tk : Takes X cc.W)
    (hsub : ∀ i j b, sub i j = some b → PySem.W.exmOne X.K (.ref (cc.C i)) (.ref (cc.C j)) = some b)
    (hb : ∀ (W : WX) (pn : List (Addr × Obj)) (xe : Value → Shared → Prop), Takes (X.tr pn xe) W → PassesOwn (model X.prog X.w) X.A X.env xe → DSs (X.tr pn xe) { cc with W := W } body sb)
    (hsu : ∀ (a : Addr) (oe : Obj) (pn : List (Addr × Obj)), DSs (X.suite a ((a, oe) :: pn)) cc.quiet (b0 :: suite) ss) :
    DS X cc (.Try body [.ExceptHandler (some (.Name x np)) none (b0 :: suite) pos'] [] [] pos) (sTry sub sb c ss) := by
  refine PS.imp (ps_try_only (tb := fun W => rS X.K { cc with W := W } sb) (ts := fun a cls d => rS X.K cc.quiet ss) hs hf hc tk (fun W pn xe tk' po => hb W pn xe tk' po) (fun a oe cls d pn _ _ => hsu a oe pn)) fun Dn σ H ⟨B, ρ, G, R0, h⟩ => ⟨B, ρ, G, R0.toW _, ?_⟩
  unfold sTry at h
  cases hr : sb ρ with
  | bot => rw [hr] at h; exact h
  | ok f ρ1 =>
    rw [hr] at h
    exact PostS.toW h fun e ρ q => by cases q
  | exc e ρ1 =>
    rw [hr] at h
    dsimp only at h
    refine fun cl dd σ' G' H' ex R er => ?_
    cases hq : sub e.c c with
    | none => rw [hq] at h; exact h.elim
    | some b =>
      rw [hq] at h
      have hm := hsub _ _ _ hq
      obtain ⟨rfl, _⟩ := id er
      refine ⟨b, hm, fun hb a _ => ?_, fun hb => ?_⟩
      · subst hb
        dsimp only at h
        refine ⟨B, ρ1, G', R.ofW.toW _, ?_⟩
        have h := PostS.ext h ex
        cases hss : ss ρ1 with
        | bot => rw [hss] at h; exact h
        | exc _ _ => rw [hss] at h; exact h.elim
        | ok f ρ2 => rw [hss] at h; exact PostS.toW h fun e ρ q => by cases q
      · subst hb
        exact h _ _ _ _ _ ex R.ofW er
end
end Rf
set_option Elab.async false
set_option linter.all false
set_option maxRecDepth 100000
/-! Rf: owned lists looked at; a program's defs -/
namespace Rf
open PySem PySem.Spec L2
section
variable {X : Cx} {cc : Cc} {e : Expr} {da db : ENV → R D} {pos p2 : Pos}
/-- xs[k] of an owned list -/
def dIxO (i : Nat) (dk : ENV → R D) : ENV → R D := fun ρ => match ρ[i]? with
  | some (some (.ow (.lst _))) => (dk ρ).bind fun k ρ1 => match k, ρ1[i]? with
    | .int k, some (some (.ow (.lst ds))) => R.of (atI ds k) ρ1
    | _, _ => .bot
  | _ => .bot
theorem de_ixO (i : Nat) {x : Str} {k : Expr} (hk : DE X cc k da) (hN : X.N[i]? = some x := by rfl) (hv : Vis X.env.scope x := by first | exact Or.inl rfl | exact Or.inr (Or.inl rfl) | exact Or.inr (Or.inr rfl)) (hd : (x == ("__debug__" : Str)) = false := by decide)
    (hcd : (x == ("__classdict__" : Str)) = false := by decide) (hs : PlainIx k := by intro _ _; rfl) : DE X cc (.Subscript (.Name x p2) k pos) (dIxO i da) := by
  refine PE.imp (pe_ix ix_list (pe_var hN hv hd hcd) hk hs) fun σ H Q ⟨B, ρ, G, R0, h⟩ => ?_
  unfold dIxO at h
  split at h
  rotate_left
  · exact h.elim
  rename_i ds0 e0
  obtain ⟨p, xs, hp, hx, _⟩ := R0.lstAt e0
  refine ⟨_, hp, B, ρ, G, R0, h.bind fun kd ρ1 G1 H1 kv e1 R1 p1 h1 => ?_⟩
  split at h1
  rotate_left
  · exact h1.elim
  rename_i k' ds e3
  cases p1 with
  | int k' =>
    obtain ⟨p', xs', hp', hx', rr⟩ := R1.lstAt e3
    rw [hp] at hp'; cases hp'
    cases ha : atI ds k' with
    | none => rw [ha] at h1; exact h1.elim
    | some d =>
      rw [ha] at h1
      obtain ⟨y, hy, py⟩ := rr.atI ha
      exact ⟨p, xs', k', y, rfl, rfl, .inl (.inl hx'), hy, h1 y G1 H1 (Ext.refl _ _) R1 py⟩
/-- len(xs) of an owned list -/
def dLenO (i : Nat) : ENV → R D := fun ρ => match ρ[i]? with
  | some (some (.ow (.lst ds))) => .ok (.int ds.length) ρ
  | _ => .bot
theorem de_lenO (i : Nat) {x : Str} {p : Pos} (hg : Gl X "len") (hm : X.mg "len" = none) (hN : X.N[i]? = some x := by rfl) (hv : Vis X.env.scope x := by first | exact Or.inl rfl | exact Or.inr (Or.inl rfl) | exact Or.inr (Or.inr rfl)) (hd : (x == ("__debug__" : Str)) = false := by decide)
    (hcd : (x == ("__classdict__" : Str)) = false := by decide) (he : starEach [.Name x p2] X.env = (false, eval (.Name x p2) X.env) :: starEach [] X.env := by rfl) (hpl : (backTo pos (starEach [] X.env)).any (·.1) = false := by rfl) :
    DE X cc (.Call (.Name "len" p) [.Name x p2] [] pos) (dLenO i) := by
  refine PE.imp (pe_callB cr_lenS hg hm PySem.boot_len (pa_cons (pe_var hN hv hd hcd) pa_nil he) (by decide) (by decide) he hpl) fun σ H Q ⟨B, ρ, G, R0, h⟩ => ?_
  unfold dLenO at h
  split at h
  · rename_i ds e
    obtain ⟨p, xs, hp, hx, rr⟩ := R0.lstAt e
    exact ⟨_, hp, .inl ⟨p, xs, rfl, .inl (.inl (.inl hx)), by rw [rr.length]; exact h (.int _) G H (Ext.refl _ _) R0 (.int _)⟩⟩
  · exact h.elim
/-- x in xs, xs owned -/
def dInO (neg : Bool) (da : ENV → R D) (i : Nat) : ENV → R D := fun ρ => (da ρ).bind fun x ρ1 => match ρ1[i]? with
  | some (some (.ow (.lst ds))) => R.of (vIn neg x (.lst ds)) ρ1
  | _ => .bot
theorem inO_core {neg : Bool} {i : Nat} : ∀ σ H Q, rE X.K cc (dInO neg da i) σ H Q → tOp (rInA X.K neg) (rE X.K cc da) (tVar i) σ H Q := by
  intro σ H Q ⟨B, ρ, G, R0, h⟩
  refine ⟨B, ρ, G, R0, h.bind fun d1 ρ1 G1 H1 x e1 R1 p1 h1 => ?_⟩
  split at h1
  rotate_left
  · exact h1.elim
  rename_i ds e
  obtain ⟨p, xs, hp, hx, rr⟩ := R1.lstAt e
  refine ⟨_, hp, ?_⟩
  dsimp only [vIn] at h1
  split at h1
  · rename_i hh
    exact .inl ⟨_, .list (toPyL ds), _, p1.dp R1.gk (SeqAt.canLay_of_shaped hh.1), .lst (.inl (.inl hx)) (rr.dp R1.gk hh.2), .inl rfl, hh.1, hh.2, h1 _ G1 H1 (Ext.refl _ _) R1 (.bl _)⟩
  · exact h1.elim
theorem de_inO (neg : Bool) (i : Nat) {x : Str} {a : Expr} (hu : X.A.units + 65 < cLine) (ha : DE X cc a da) (hN : X.N[i]? = some x := by rfl) (hv : Vis X.env.scope x := by first | exact Or.inl rfl | exact Or.inr (Or.inl rfl) | exact Or.inr (Or.inr rfl)) (hd : (x == ("__debug__" : Str)) = false := by decide)
    (hcd : (x == ("__classdict__" : Str)) = false := by decide) : DE X cc (.Compare a [if neg then .NotIn else .In] [.Name x p2] pos) (dInO neg da i) := by
  cases neg with
  | false => exact PE.imp (pe_cmpR (op_inA hu) ha (pe_var hN hv hd hcd) rfl) inO_core
  | true => exact PE.imp (pe_cmpR (op_notInA hu) ha (pe_var hN hv hd hcd) rfl) inO_core
theorem dt_inO (neg : Bool) (i : Nat) {x : Str} {a : Expr} (hu : X.A.units + 65 < cLine) (ha : DE X cc a da) (hN : X.N[i]? = some x := by rfl) (hv : Vis X.env.scope x := by first | exact Or.inl rfl | exact Or.inr (Or.inl rfl) | exact Or.inr (Or.inr rfl)) (hd : (x == ("__debug__" : Str)) = false := by decide)
    (hcd : (x == ("__classdict__" : Str)) = false := by decide) : DT X cc (.Compare a [if neg then .NotIn else .In] [.Name x p2] pos) (dT (dInO neg da i)) := by
  cases neg with
  | false => exact PT.imp (pt_cmpR (op_inA hu) ha (pe_var hN hv hd hcd) rfl) (test_core inO_core)
  | true => exact PT.imp (pt_cmpR (op_notInA hu) ha (pe_var hN hv hd hcd) rfl) (test_core inO_core)
/-- truth of an owned list -/
def dTruO (i : Nat) : ENV → R Bool := fun ρ => match ρ[i]? with
  | some (some (.ow (.lst ds))) => .ok (!ds.isEmpty) ρ
  | _ => .bot
theorem dt_truO (i : Nat) {x : Str} (hN : X.N[i]? = some x := by rfl) (hv : Vis X.env.scope x := by first | exact Or.inl rfl | exact Or.inr (Or.inl rfl) | exact Or.inr (Or.inr rfl)) (hd : (x == ("__debug__" : Str)) = false := by decide)
    (hcd : (x == ("__classdict__" : Str)) = false := by decide) : DT X cc (.Name x p2) (dTruO i) := by
  refine PT.imp (pt_truth (pe_var hN hv hd hcd) (by intro _; rfl)) fun σ H Q ⟨B, ρ, G, R0, h⟩ => ?_
  unfold dTruO at h
  split at h
  · rename_i ds e
    obtain ⟨p, xs, hp, hx, rr⟩ := R0.lstAt e
    exact ⟨_, hp, !ds.isEmpty, .inl ⟨xs, .inl (.inl hx), by rw [rr.empty]⟩, h _ G H (Ext.refl _ _) R0 rfl⟩
  · exact h.elim
/-- a constant of the module -/
structure GC (K : PySem.W.Frag) (mg : Str → Option Value) (C : Nat → Addr) (x : Str) (d : D) : Prop where
  ex : ∃ u v, mg x = some u ∧ RelV v u ∧ ∀ G, Rp K C G v d
def dG (d : D) : ENV → R D := fun ρ => .ok d ρ
theorem de_glob {x : Str} {d : D} (g : GC X.K X.mg cc.C x d) (hg : Gl X x := by rfl) (hd : (x == ("__debug__" : Str)) = false := by decide) : DE X cc (.Name x pos) (dC d) := by
  obtain ⟨u, v, h1, h2, h3⟩ := g.ex
  exact de_k (pe_glob hg h1 h2 hd) h3
end
/-- a def of the module as the top leaves it -/
structure Df (K : PySem.W.Frag) (mg : Str → Option Value) (x : Str) (st : Stmt) (ps : List Str) : Prop where
  ex : ∃ f fd, Fun K x x st f fd ∧ mg x = some (.ref f) ∧ ∀ us : List Value, us.length = ps.length → bindArgs fd ⟨us, []⟩ = pure (ps.zip us)
theorem df_mk {K : PySem.W.Frag} {h : Heap} {mg : Str → Option Value} {x : Str} {st : Stmt} {ps : List Str} {f : Addr} {oc : Value} {od an : Option Addr} {osl : Array (Option Value)} {kV doc pm cdv ct : Value} (X : K.In h) (G : h.Ns mainGlobals mg)
    (a : PySem.W.nsIn K mainGlobals x = some (some (.ref f))) (l : K.lookup f = some ⟨oc, od, .func (PySem.W.fnOf x x (defArgs st) (defBody st) (defScope st) .none kV doc pm an cdv ct), osl⟩)
    (c : PySem.W.codeIn K cdv x = true) (k : PySem.W.keepIn K (.ref f) = true) (hb : ∀ (kV doc pm : Value) (an : Option Addr) (cdv ct : Value) (us : List Value), us.length = ps.length → bindArgs (PySem.W.fnOf x x (defArgs st) (defBody st) (defScope st) .none kV doc pm an cdv ct) ⟨us, []⟩ = pure (ps.zip us)) : Df K mg x st ps := by
  have F := fun_mk (st := st) l c k
  exact ⟨f, _, F, PySem.W.mg_of X G a, fun us hl => hb _ _ _ _ _ _ us hl⟩
/-- a def that keeps the promise of F -/
structure Fk (P : Program) (w : World) (K : PySem.W.Frag) (mg : Str → Option Value) (base : Heap) (C : Nat → Addr) (x : Str) (n k : Nat) (F : List DV → FO) : Prop where
  ex : ∃ f fd ps, ps.length = n ∧ FnOk P w K mg base (L2.CX P w) k f fd ps (spF K C n F) ∧ mg x = some (.ref f) ∧ PySem.W.keepIn K (.ref f) = true ∧ Binds K fd ps []
theorem Fk.mono {P : Program} {w : World} {K : PySem.W.Frag} {mg : Str → Option Value} {base : Heap} {C : Nat → Addr} {x : Str} {n k k' : Nat} {F : List DV → FO} (h : Fk P w K mg base C x n k F) (hk : k ≤ k') : Fk P w K mg base C x n k' F := by
  obtain ⟨f, fd, ps, h1, h2, h3⟩ := h.ex
  exact ⟨f, fd, ps, h1, h2.mono hk, h3⟩
theorem Fk.callee {X : Cx} {cc : Cc} {x : Str} {n k : Nat} {F : List DV → FO} (h : Fk X.prog X.w X.K X.mg X.base cc.C x n k F) (hr : Room k X.A) : Callee X cc x n F := by
  obtain ⟨f, fd, ps, h1, h2, h3, h4, h5⟩ := h.ex
  exact ⟨f, fd, ps, k, h1, h2, hr, h3, h4, h5⟩
section
variable {P : Program} {w : World} {K : PySem.W.Frag} {mg : Str → Option Value} {base : Heap} {C : Nat → Addr}
theorem fk_of {x : Str} {st : Stmt} {N ps : List Str} {k : Nat} (d : Df K mg x st ps) (S : FnScope N ps (defScope st)) (pr : List Nat) {den : ENV → R Fl} (hlen : ps.length ≤ N.length)
    (hb : ∀ (f : Addr) (cdv : Value) (A : Around) (outer : List Env) (s : Shared) (H : Hp) (E : XK) (ad : Nat → Addr), Room k (A.deeper (PyProof.Rows.envOfC x (defScope st) s.heap.objs.size f cdv)) →
      DSs (cxOf (L2.CX P w) P w K mg base N x (defScope st) f cdv A outer s H E) ⟨C, fun cl d _ H => E cl d H, pr, ad, fun _ => none⟩ (defBody st) den) : Fk P w K mg base C x ps.length (k + 1) (runF pr N.length den) := by
  obtain ⟨f, fd, F, hm, hbd⟩ := d.ex
  exact ⟨f, fd, ps, rfl, fn_ok F S pr hlen (hb f), hm, F.kp, .all hbd⟩
/-- the def's own object -/
noncomputable def Df.f {x : Str} {st : Stmt} {ps : List Str} (d : Df K mg x st ps) : Addr := d.ex.choose
noncomputable def Df.fd {x : Str} {st : Stmt} {ps : List Str} (d : Df K mg x st ps) : FuncData := d.ex.choose_spec.choose
theorem fnok_of {x : Str} {st : Stmt} {N ps : List Str} {k : Nat} (d : Df K mg x st ps) (S : FnScope N ps (defScope st)) (pr : List Nat) {den : ENV → R Fl} (hlen : ps.length ≤ N.length)
    (hb : ∀ (f : Addr) (cdv : Value) (A : Around) (outer : List Env) (s : Shared) (H : Hp) (E : XK) (ad : Nat → Addr), Room k (A.deeper (PyProof.Rows.envOfC x (defScope st) s.heap.objs.size f cdv)) →
      DSs (cxOf (L2.CX P w) P w K mg base N x (defScope st) f cdv A outer s H E) ⟨C, fun cl d _ H => E cl d H, pr, ad, fun _ => none⟩ (defBody st) den) : FnOk P w K mg base (L2.CX P w) (k + 1) d.f d.fd ps (spF K C ps.length (runF pr N.length den)) :=
  fn_ok d.ex.choose_spec.choose_spec.1 S pr hlen (hb d.f)
theorem hu65 {k : Nat} {A : Around} (hr : Room k A) : A.units + 65 < cLine := by have := hr.un; omega
end
end Rf
set_option Elab.async false
set_option linter.all false
set_option maxRecDepth 100000
/-! Rf: exceptions of the text, the end of a law -/
namespace Rf
open PySem PySem.Spec L2
/-- an exception class of the text over ValueError, without __init__ -/
structure ExF (K : PySem.W.Frag) (mg : Str → Option Value) (c : Addr) (x : Str) : Prop where
  q : PySem.W.excIn K c PySem.HandSPX.veTail "ValueError.__new__" = true
  gC : mg x = some (.ref c)
  kC : PySem.W.keepIn K (.ref c) = true
  bP : PySem.W.subIn K (.ref c) (.type "BaseException") = some true
  tP : PySem.W.typeIn K (.ref c) = some (.type "type")
theorem ExF.pmk {X : Cx} {c : Addr} {x : Str} {p pos : Pos} (h : ExF X.K X.mg c x) (hg : Gl X x) (hd : (x == ("__debug__" : Str)) = false := by decide) : PMk X (.Call (.Name x p) [] [] pos) (fun _ H Q => Q (.ref c) none H) :=
  pmk_own0 PySem.F.excBase_ValueError h.q h.gC h.kC (raises_own h.bP h.tP) hg hd
theorem ExF.names {X : Cx} {c : Addr} {x : Str} (h : ExF X.K X.mg c x) (hg : Gl X x) (hd : (x == ("__debug__" : Str)) = false := by decide) : Names X x (.ref c) := ⟨hg, hd, .inl h.gC⟩
theorem exm_at {K : PySem.W.Frag} {S T : Addr} {b : Bool} (h1 : PySem.W.subIn K (.ref T) (.type "BaseException") = some true) (h2 : PySem.W.isClsIn K T = true) (h3 : PySem.W.typeIn K (.ref T) = some (.type "type")) (h4 : PySem.W.subIn K (.ref S) (.ref T) = some b) :
    PySem.W.exmOne K (.ref S) (.ref T) = some b := by
  have e1 : (PySem.W.subIn K (.ref T) (.type "BaseException") == some true) = true := by rw [h1] <;> rfl
  have e2 : ((PySem.W.clsIn K T).isSome && PySem.W.typeIn K (.ref T) == some (.type "type")) = true := by
    have h2' : (PySem.W.clsIn K T).isSome = true := h2
    rw [h2', h3] <;> rfl
  show (if (PySem.W.subIn K (.ref T) (.type "BaseException") == some true) = true then (if ((PySem.W.clsIn K T).isSome && PySem.W.typeIn K (.ref T) == some (.type "type")) = true then PySem.W.subIn K (.ref S) (.ref T) else none) else none) = some b
  rw [if_pos e1, if_pos e2]
  exact h4
/-- what the law is handed: the script -/
def spScript (K : PySem.W.Frag) : Sp := fun vs H Q _ => ∃ (a : Addr) (ns : List Int), vs = [.ref a] ∧ SqL K H a (ns.map V.int) ∧ ns.length ≤ 63 ∧ ∀ H', Q (.bl true) H'
theorem rpl_ints {K : PySem.W.Frag} {C : Nat → Addr} {G : Hp} : ∀ ns : List Int, RpL K C G (ns.map V.int) (ns.map D.int)
  | [] => .nil
  | n :: ns => .cons (.int n) (rpl_ints ns)
theorem script_imp {K : PySem.W.Frag} {C : Nat → Addr} {F : List DV → FO} (ht : ∀ ns : List Int, ns.length ≤ 63 → F [.sh (.scr (ns.map D.int))] = .ok (.sh (.bl true)) []) : ∀ vs H Q E, spScript K vs H Q E → spF K C 1 F vs H Q E := by
  rintro vs H Q E ⟨a, ns, rfl, hS, hl, k⟩
  refine ⟨[.sh (.scr (ns.map D.int))], H, H, rfl, Same.refl H, Same.refl H, .sh (.scr hS (rpl_ints ns)) .nil, fun i j m m' p e1 => ?_, ?_⟩
  · cases i with
    | zero => simp at e1
    | succ i => simp at e1
  · rw [ht ns hl]
    intro x G' H' ex sb sg os hv
    cases hv
    exact k H'
theorem walk_end {l : PySem.W.OpenLaw} {k : Nat} {q : Program} {loose : List Str} {XP : (Str → Option Value) → Heap → Prop} {YP : World → Heap → Prop} {d : DefRec} {K : Params → PySem.W.Frag} {F : List DV → FO} (hn : l.most = some 63) (hdf : d.params.defaults = [])
    (hd : d.name = "law") (hr : Room k callerA) (hY : ∀ (w : World) (h : Heap), YP w h → (K w.params).In h)
    (hF : ∀ (w : World) (mg : Str → Option Value) (h : Heap), (K w.params).In h → h.Ns mainGlobals mg → ∃ (C : Nat → Addr) (st : Stmt) (df : Df (K w.params) mg "law" st ["_law_script"]), ∀ base : Heap, FnOk l.prog w (K w.params) mg base (L2.CX l.prog w) k df.f df.fd ["_law_script"] (spF (K w.params) C 1 F))
    (ht : ∀ ns : List Int, ns.length ≤ 63 → F [.sh (.scr (ns.map D.int))] = .ok (.sh (.bl true)) []) : PySem.W.WalkO q loose XP YP l.row.toRowW d [] (fun f vs => PySem.call f vs) := by
  refine L2.walk_of (n := 63) (k := k) (x := "_law_script") (CX := fun w => L2.CX l.prog w) (sp := fun w => spScript (K w.params)) hn (by decide) hdf hr hY (fun w mg fa h KX G hm => ?_) (fun w H a ns hl _ hS => ⟨a, ns, rfl, hS, hl, fun _ => rfl⟩) fun w H s e s' h => ?_
  · obtain ⟨C, st, df, h⟩ := hF w mg h KX G
    obtain ⟨hf1, hf2, hf3⟩ := df.ex.choose_spec.choose_spec
    rw [hd] at hm
    have e : Value.ref fa = Value.ref df.f := Option.some.inj (hm.symm.trans hf2)
    injection e with e
    subst e
    exact ⟨df.fd, fun s u => .of_eq (hf3 [u] rfl), fun base _ _ => (h base).imp (script_imp ht)⟩
  · obtain ⟨_, _, _, _, _, _, _, _, _, _, _, _, z⟩ := h
    exact z.elim
end Rf
set_option Elab.async false
set_option linter.all false
set_option maxRecDepth 100000
set_option maxHeartbeats 2000000
/-! Rf12: exceptions of the program that hold fields: making and raising them -/
namespace Rf
open PySem PySem.Spec L2 PyProof.Rows
/-- what the text says of an own class D over ValueError that has no __init__ of its own: D.__init__(self, ..) -/
structure BaseI (K : PySem.W.Frag) (mg : Str → Option Value) (Nm : Str) : Prop where
  ex : ∃ (D : Addr) (mc : Value), mg Nm = some (.ref D) ∧ PySem.W.specialIn K (.ref D) "__getattribute__" = some (some (.builtin "type.__getattribute__")) ∧ PySem.W.readsIn K D mc = true ∧
    PySem.W.findCls K (.ref D) mc "__init__" = some (.val (.builtin "ValueError.__init__"))
theorem pe_baseinit {X : Cx} {Nm : Str} {e : Expr} {es : List Expr} {ta : TA} {p1 p2 pos : Pos} {pl : Sem Bool} (b : BaseI X.K X.mg Nm) (hg : Gl X Nm) (ha : PA X (e :: es) ta)
    (hc : eval (.Call (.Attribute (.Name Nm p1) "__init__" p2) (e :: es) [] pos) X.env = (eval (.Name Nm p1) X.env >>= fun ov => standAt p2.atName >>= fun _ => holding [ov] (getMethod ov "__init__" pl) >>= fun fx =>
      callWith pos fx.1 fx.2 (backTo pos (starEach (e :: es) X.env)) (backToKw pos (keywordEach [] X.env))) := by rfl)
    (he : starEach (e :: es) X.env = (false, eval e X.env) :: starEach es X.env := by rfl) (hpl : (backTo pos (starEach es X.env)).any (·.1) = false := by rfl) (hdb : (Nm == ("__debug__" : Str)) = false := by decide) :
    PE X (.Call (.Attribute (.Name Nm p1) "__init__" p2) (e :: es) [] pos) (tVeI X.K ta) := by
  obtain ⟨D, mc, hm, ga, hr, vV⟩ := b.ex
  constructor
  intro pi s σ H Q I h
  refine PySem.W.methodCall_KW (ld_glob I hg hm (PySem.W.method_cls I.kIn ga (PySem.W.cls_value I.kIn hr vV (by decide +kernel) ?_)) hdb) hc
  show wpAny _ _ (callWith pos (.builtin "ValueError.__init__") [] (backTo pos (starEach (e :: es) X.env)) []) _ _ _
  refine PyProof.Rows.callWith_method1 (thn (ha.run pos pi _ σ H _ (I.tok _) h) fun us s1 x => ?_) he hpl
  obtain ⟨vs, H1, I1, r1, a, C, ws, rfl, hl, T, ea, q⟩ := x
  cases r1 with
  | @cons _ u0 _ ur ra rw' =>
    cases (show u0 = Value.ref a from ra)
    have hz : ur.length ≤ sizeLine := by
      have := Paired.length rw'
      rw [sizeLine_eq]; omega
    exact oinit_ok T I1 ea hz fun s' J => ⟨.non, H1, J, rfl, q⟩
/-- the promise of an __init__ that keeps its arguments under the names fs, in this order -/
def spI (C : Addr) (fs : List Str) : Sp := fun vs H Q _ => ∃ (a : Addr) (us : List V), vs = .ref a :: us ∧ us.length = fs.length ∧ H a = some (exo a C none) ∧
  ∀ (dx : Addr) (H' : Hp), H dx = none → dx ≠ a → H' a = some (exo a C (some dx)) → H' dx = some (exd dx (fs.zip us).reverse) → (∀ b, b ≠ a → b ≠ dx → H' b = H b) → Q .non H'
/-- an exception class of the program that holds fields -/
structure ExI (P : Program) (w : World) (K : PySem.W.Frag) (mg : Str → Option Value) (base : Heap) (C : Addr) (x : Str) (fs : List Str) (k : Nat) : Prop where
  gC : mg x = some (.ref C)
  cl : OexC K C
  ex : ∃ (fI : Addr) (fd : FuncData) (ps : List Str), PySem.W.findIn K (.ref C) "__init__" = some (some (.ref fI)) ∧ PySem.W.typeIn K (.ref fI) = some (.type "function") ∧ FnOk P w K mg base CX0 k fI fd ps (spI C fs) ∧ Binds K fd ps []
theorem RpF.zip {K : PySem.W.Frag} {C : Nat → Addr} {G : Hp} : ∀ (fs : List Str) {vs : List V} {ds : List D}, RpL K C G vs ds → RpF K C G (fs.zip vs) (fs.zip ds)
  | [], _, _, _ => by simp only [List.zip_nil_left]; exact .nil
  | _ :: _, _, _, .nil => by simp only [List.zip_nil_right]; exact .nil
  | _ :: fs, _, _, .cons h r => .cons h (RpF.zip fs r)
theorem RpF.app {K : PySem.W.Frag} {C : Nat → Addr} {G : Hp} : ∀ {a : List (Str × V)} {b : List (Str × D)} {a' : List (Str × V)} {b' : List (Str × D)}, RpF K C G a b → RpF K C G a' b' → RpF K C G (a ++ a') (b ++ b')
  | _, _, _, _, .nil, r => r
  | _, _, _, _, .cons h q, r => .cons h (q.app r)
theorem RpF.rev {K : PySem.W.Frag} {C : Nat → Addr} {G : Hp} : ∀ {a : List (Str × V)} {b : List (Str × D)}, RpF K C G a b → RpF K C G a.reverse b.reverse
  | _, _, .nil => .nil
  | _, _, .cons h r => by
    simp only [List.reverse_cons]
    exact r.rev.app (.cons h .nil)
def sRaiseF (c : Nat) (fs : List Str) (dr : ENV → R (List D)) : ENV → R Fl := fun ρ => (dr ρ).bind fun ds ρ1 => if ds.length = fs.length ∧ ds.length ≤ 1000 then .exc ⟨c, (fs.zip ds).reverse⟩ ρ1 else .bot
theorem ds_raiseF {X : Cx} {cc : Cc} {x : Str} {c : Nat} {fs : List Str} {k : Nat} {e : Expr} {es : List Expr} {dr : ENV → R (List D)} {p p2 pos : Pos} (hc : X.calm = true) (tk : Takes X cc.W) (T : ExI X.prog X.w X.K X.mg X.base (cc.C c) x fs k) (hr : Room (k + 1) X.A) (hg : Gl X x)
    (rs : Raises X (.ref (cc.C c))) (ha : DA X cc (e :: es) dr) (hdb : (x == ("__debug__" : Str)) = false := by decide) (he : starEach (e :: es) X.env = (false, eval e X.env) :: starEach es X.env := by rfl) (hpl : (backTo p2 (starEach es X.env)).any (·.1) = false := by rfl) :
    DS X cc (.Raise (some (.Call (.Name x p) (e :: es) [] p2)) none pos) (sRaiseF c fs dr) := by
  obtain ⟨fI, fd, ps, iC, tI, F1, hb⟩ := T.ex
  refine PS.imp (ps_raise hc tk (pmk_oex (dvs := []) T.cl iC tI F1 hr hb .nil pass0 hg T.gC ha hdb he hpl)) fun Dn σ H ⟨B, ρ, G, R0, h⟩ => ⟨B, ρ, G, R0, h.bind fun ds ρ1 G1 H1 vs e1 R1 p1 q1 => ?_⟩
  by_cases hd : ds.length = fs.length ∧ ds.length ≤ 1000
  · rw [if_pos hd] at q1
    have hvl := p1.length
    refine ⟨by omega, fun a hna => ⟨a, vs, by rw [List.append_nil], by omega, upd_same, fun dx H' n1 ne h1 h2 oth => ⟨rfl, dx, _, h1, h2, ?_, ?_⟩⟩⟩
    · rw [upd_ne ne] at n1; exact n1
    · have n2 : H1 dx = none := by rw [upd_ne ne] at n1; exact n1
      have same : upd (del H' a) dx (.xd (fs.zip vs).reverse) = upd H1 dx (.xd (fs.zip vs).reverse) := by
        funext b
        by_cases hb : b = dx
        · subst hb; rw [upd_same, upd_same]
        · rw [upd_ne hb, upd_ne hb]
          by_cases hba : b = a
          · subst hba; rw [del_same, hna]
          · rw [del_ne hba, oth b hba hb, upd_ne hba]
      rw [same]
      have g := Grow.new (o := .xd (fs.zip vs).reverse) R1.gk n2
      exact q1 _ _ σ _ _ (g.ext R1.bk) (R1.grow g) ⟨rfl, .inr ⟨dx, _, rfl, upd_same, ((RpF.zip fs (p1.mono g.gg)).rev)⟩⟩
  · rw [if_neg hd] at q1
    exact q1.elim
/-! ### such an __init__ -/
section
variable {K : PySem.W.Frag} {C : Addr} {f1 f2 : Str} {N : List Str} {vs : List V} {H : Hp} {Q : VK} {E : XK}
theorem spI_len {fs : List Str} (h : spI C fs vs H Q E) : vs.length = fs.length + 1 := by
  obtain ⟨a, us, rfl, hl, _⟩ := h
  rw [List.length_cons, hl]
def tBase (K : PySem.W.Frag) (m : Str) (t : TS) : TS := tSeq (tDrop (tVeI K (tCons (tVar 0) (tCons (tC (.str m)) tNil)))) t
theorem rd_base {m : Str} {t : TS} {D : Ends} {σ : L2.St} {a : Addr} (T : OexC K C) (e0 : σ[0]? = some (some (.ref a))) (ea : H a = some (exo a C none)) (h : t D σ H) : tBase K m t D σ H :=
  ⟨.ref a, e0, a, C, [.str m], rfl, (by show 1 ≤ 1000; decide), T, ea, h⟩
def tF1 (K : PySem.W.Frag) (f1 : Str) : TS := tSeq (tOst K f1 (tVar 0) (tVar 1)) tNext
def tF2 (K : PySem.W.Frag) (f1 f2 : Str) : TS := tSeq (tOst K f1 (tVar 0) (tVar 1)) (tSeq (tOst K f2 (tVar 0) (tVar 2)) tNext)
theorem rd_f1 {a : Addr} {y : V} (T : OexC K C) (h1 : PySem.W.findIn K (.ref C) f1 = some none) (ea : H a = some (exo a C none))
    (q : ∀ (dx : Addr) (H' : Hp), H dx = none → dx ≠ a → H' a = some (exo a C (some dx)) → H' dx = some (exd dx ([f1].zip [y]).reverse) → (∀ b, b ≠ a → b ≠ dx → H' b = H b) → Q .non H') :
    tF1 K f1 { nx := fun _ H' => Q .non H', rt := Q } [some (.ref a), some y] H :=
  ⟨y, rfl, .ref a, rfl, a, C, rfl, T, h1, .inl ⟨ea, fun dx n ne => q dx _ n ne upd_same (by rw [upd_ne ne, upd_same]; rfl) fun b hb hd => by rw [upd_ne hb, upd_ne hd]⟩⟩
theorem rd_f2 {a : Addr} {y z : V} (T : OexC K C) (h1 : PySem.W.findIn K (.ref C) f1 = some none) (h2 : PySem.W.findIn K (.ref C) f2 = some none) (ea : H a = some (exo a C none))
    (q : ∀ (dx : Addr) (H' : Hp), H dx = none → dx ≠ a → H' a = some (exo a C (some dx)) → H' dx = some (exd dx ([f1, f2].zip [y, z]).reverse) → (∀ b, b ≠ a → b ≠ dx → H' b = H b) → Q .non H') :
    tF2 K f1 f2 { nx := fun _ H' => Q .non H', rt := Q } [some (.ref a), some y, some z] H :=
  ⟨y, rfl, .ref a, rfl, a, C, rfl, T, h1, .inl ⟨ea, fun dx n ne => ⟨z, rfl, .ref a, rfl, a, C, rfl, T, h2, .inr ⟨dx, [(f1, y)], upd_same, by rw [upd_ne ne, upd_same], (by show 1 ≤ 900; decide), q dx _ n ne (by rw [upd_ne ne.symm, upd_same]) (by rw [upd_same]; rfl) fun b hb hd => by rw [upd_ne hd, upd_ne hb, upd_ne hd]⟩⟩⟩⟩
theorem init_b1 {m : Str} (T : OexC K C) (h1 : PySem.W.findIn K (.ref C) f1 = some none) (hN : N.length = 2) (h : spI C [f1] vs H Q E) : tBase K m (tF1 K f1) { nx := fun _ H' => Q .non H', rt := Q } (L2.start N vs) H := by
  obtain ⟨a, us, rfl, hl, ea, q⟩ := h
  match us, hl, N, hN with
  | [y], _, [_, _], _ => exact rd_base T rfl ea (rd_f1 T h1 ea q)
theorem init_n1 (T : OexC K C) (h1 : PySem.W.findIn K (.ref C) f1 = some none) (hN : N.length = 2) (h : spI C [f1] vs H Q E) : tF1 K f1 { nx := fun _ H' => Q .non H', rt := Q } (L2.start N vs) H := by
  obtain ⟨a, us, rfl, hl, ea, q⟩ := h
  match us, hl, N, hN with
  | [y], _, [_, _], _ => exact rd_f1 T h1 ea q
theorem init_b2 {m : Str} (T : OexC K C) (h1 : PySem.W.findIn K (.ref C) f1 = some none) (h2 : PySem.W.findIn K (.ref C) f2 = some none) (hN : N.length = 3) (h : spI C [f1, f2] vs H Q E) : tBase K m (tF2 K f1 f2) { nx := fun _ H' => Q .non H', rt := Q } (L2.start N vs) H := by
  obtain ⟨a, us, rfl, hl, ea, q⟩ := h
  match us, hl, N, hN with
  | [y, z], _, [_, _, _], _ => exact rd_base T rfl ea (rd_f2 T h1 h2 ea q)
theorem init_n2 (T : OexC K C) (h1 : PySem.W.findIn K (.ref C) f1 = some none) (h2 : PySem.W.findIn K (.ref C) f2 = some none) (hN : N.length = 3) (h : spI C [f1, f2] vs H Q E) : tF2 K f1 f2 { nx := fun _ H' => Q .non H', rt := Q } (L2.start N vs) H := by
  obtain ⟨a, us, rfl, hl, ea, q⟩ := h
  match us, hl, N, hN with
  | [y, z], _, [_, _, _], _ => exact rd_f2 T h1 h2 ea q
end
end Rf
set_option Elab.async false
set_option linter.all false
set_option maxRecDepth 100000
/-! Rf13: try .. except X as e; e.f and isinstance(e, Y) in the suite; several handlers -/
namespace Rf
open PySem PySem.Spec L2 PyProof.Rows
/-- the context of a suite: the exception stands at a, in slot i; what was frozen then is kept -/
def Cc.hold (cc : Cc) (i : Nat) (a : Addr) (G0 : Hp) : Cc := ⟨cc.C, fun _ _ _ _ => False, i :: cc.pr, fun j => if j = i then a else cc.ad j, G0⟩
section
variable {K : PySem.W.Frag} {cc : Cc} {B : Hp} {ρ : ENV} {σ : L2.St} {G H G0 : Hp} {i : Nat} {a : Addr}
theorem setN_some {ρ : ENV} {i j : Nat} {x : DV} (h : (ρ.set i none)[j]? = some (some x)) : j ≠ i ∧ ρ[j]? = some (some x) := by
  by_cases e : j = i
  · subst e
    by_cases hl : j < ρ.length
    · rw [List.getElem?_set_self hl] at h; cases h
    · rw [List.getElem?_eq_none (by rw [List.length_set]; omega)] at h; cases h
  · rw [List.getElem?_set_ne (Ne.symm e)] at h; exact ⟨e, h⟩
theorem Rl.enter (r : Rl K cc B ρ σ G H) (hi : i < ρ.length) : Rl K (cc.hold i a G) B (ρ.set i none) (σ.set i (some (.ref a))) G H := by
  refine ⟨r.bk, r.gk, by rw [List.length_set, List.length_set]; exact r.ln, fun j d h => ?_, fun j m h => ?_, fun j k m m' p h1 h2 h3 h4 => ?_, fun j hj => ?_, Same.refl G⟩
  · obtain ⟨ne, h⟩ := setN_some h
    obtain ⟨v, h1, h2⟩ := r.sh j d h
    exact ⟨v, by rw [List.getElem?_set_ne (Ne.symm ne)]; exact h1, h2⟩
  · obtain ⟨ne, h⟩ := setN_some h
    obtain ⟨v, h1, h2⟩ := r.ow j m h
    exact ⟨v, by rw [List.getElem?_set_ne (Ne.symm ne)]; exact h1, h2⟩
  · obtain ⟨n1, h1⟩ := setN_some h1
    obtain ⟨n2, h2⟩ := setN_some h2
    rw [List.getElem?_set_ne (Ne.symm n1)] at h3
    rw [List.getElem?_set_ne (Ne.symm n2)] at h4
    exact r.df j k m m' p h1 h2 h3 h4
  · by_cases e : j = i
    · subst e
      rw [List.getElem?_set_self (by rw [r.ln]; exact hi)]
      show _ = some (some (V.ref (if j = j then a else cc.ad j)))
      rw [if_pos rfl]
    · rw [List.getElem?_set_ne (Ne.symm e)]
      show _ = some (some (V.ref (if j = i then a else cc.ad j)))
      rw [if_neg e]
      exact r.pa j ((List.mem_cons.mp hj).resolve_left e)
theorem Rl.leave (r : Rl K (cc.hold i a G0) B ρ σ G H) (hp : i ∉ cc.pr) (hk : Same cc.kb G0) : Rl K cc B (ρ.set i none) (σ.set i none) G H := by
  refine ⟨r.bk, r.gk, by rw [List.length_set, List.length_set]; exact r.ln, fun j d h => ?_, fun j m h => ?_, fun j k m m' p h1 h2 h3 h4 => ?_, fun j hj => ?_, hk.trans r.kg⟩
  · obtain ⟨ne, h⟩ := setN_some h
    obtain ⟨v, h1, h2⟩ := r.sh j d h
    exact ⟨v, by rw [List.getElem?_set_ne (Ne.symm ne)]; exact h1, h2⟩
  · obtain ⟨ne, h⟩ := setN_some h
    obtain ⟨v, h1, h2⟩ := r.ow j m h
    exact ⟨v, by rw [List.getElem?_set_ne (Ne.symm ne)]; exact h1, h2⟩
  · obtain ⟨n1, h1⟩ := setN_some h1
    obtain ⟨n2, h2⟩ := setN_some h2
    rw [List.getElem?_set_ne (Ne.symm n1)] at h3
    rw [List.getElem?_set_ne (Ne.symm n2)] at h4
    exact r.df j k m m' p h1 h2 h3 h4
  · have e : j ≠ i := fun z => hp (z ▸ hj)
    have q := r.pa j (List.mem_cons_of_mem _ hj)
    rw [List.getElem?_set_ne (Ne.symm e), q]
    show some (some (V.ref (if j = i then a else cc.ad j))) = _
    rw [if_neg e]
/-- behind a suite -/
theorem PostS.leave {D : Ends} {f : Fl} {ρ2 : ENV} (h : PostS K cc B G0 D (.ok f (ρ2.set i none))) (hp : i ∉ cc.pr) (hk : Same cc.kb G0) :
    PostS K (cc.hold i a G0) B G0 { nx := fun σ' H' => D.nx (σ'.set i none) H', rt := D.rt, bk := fun σ' H' => D.bk (σ'.set i none) H', ct := fun σ' H' => D.ct (σ'.set i none) H' } (.ok f ρ2) := by
  cases f with
  | nx => exact fun σ' G' H' e R => h _ G' H' e (R.leave hp hk)
  | bk => exact fun σ' G' H' e R => h _ G' H' e (R.leave hp hk)
  | ct => exact fun σ' G' H' e R => h _ G' H' e (R.leave hp hk)
  | ret v => cases v with
    | sh d => exact fun v σ' G' H' e R p => h v _ G' H' e (R.leave hp hk) p
    | ow m => exact fun p σ' G' H' e R o n => h p _ G' H' e (R.leave hp hk) o fun j m' hj hs => n j m' (setN_some hj).2 (by rw [List.getElem?_set_ne (Ne.symm (setN_some hj).1)] at hs; exact hs)
end
/-- try: body, except class c as (slot i): suite -/
def sTryAs (sub : Nat → Nat → Option Bool) (sb : ENV → R Fl) (c i : Nat) (ss : EX → ENV → R Fl) : ENV → R Fl := fun ρ => match sb ρ with
  | .exc e ρ1 => match sub e.c c with
    | some true => if i < ρ1.length then match ss e (ρ1.set i none) with
      | .ok f ρ2 => .ok f (ρ2.set i none)
      | _ => .bot else .bot
    | some false => .exc e ρ1
    | none => .bot
  | r => r
theorem pss_ex {X : Cx} {st : List Stmt} {α : Type} {p : α → Prop} {t : α → TS} (h : ∀ x, p x → PSs X st (t x)) : PSs X st (fun D σ H => ∃ x, p x ∧ t x D σ H) := by
  constructor
  intro pi s σ H D I ⟨x, hx, q⟩
  exact (h x hx).run pi s σ H D I q
section
variable {X : Cx} {cc : Cc} {sub : Nat → Nat → Option Bool} {pos : Pos}
theorem ds_try_as {x n : Str} {c i : Nat} {body suite : List Stmt} {b0 : Stmt} {np pos' : Pos} {sb : ENV → R Fl} {ss : EX → ENV → R Fl} (hs : X.stack = X.env :: X.outer) (hf : X.env.frame = some X.env.locals) (hN : X.N.Nodup) (hc : Names X x (.ref (cc.C c))) (tk : Takes X cc.W)
    (hsub : ∀ i j b, sub i j = some b → PySem.W.exmOne X.K (.ref (cc.C i)) (.ref (cc.C j)) = some b)
    (hb : ∀ (W : WX) (pn : List (Addr × Obj)) (xe : Value → Shared → Prop), Takes (X.tr pn xe) W → PassesOwn (model X.prog X.w) X.A X.env xe → DSs (X.tr pn xe) { cc with W := W } body sb)
    (hsu : ∀ (e : EX) (a : Addr) (oe : Obj) (d : Option Addr) (pn : List (Addr × Obj)) (G0 : Hp), Zc (.ref (cc.C e.c)) d oe → (∃ vs, oe.data = .fields vs) → ERp X.K cc.C G0 e (.ref (cc.C e.c)) d → DSs (X.suite a ((a, oe) :: pn)) (cc.hold i a G0) (b0 :: suite) (ss e))
    (hi : X.N[i]? = some n := by rfl) (hln : X.env.kindOf n = some .local := by rfl) (hp : cc.pr.contains i = false := by rfl) :
    DS X cc (.Try body [.ExceptHandler (some (.Name x np)) (some n) (b0 :: suite) pos'] [] [] pos) (sTryAs sub sb c i ss) := by
  have hpn : i ∉ cc.pr := Rf.np hp
  refine PS.imp (ps_try_as (tb := fun W => rS X.K { cc with W := W } sb) (ts := fun a cls d D σ H => ∃ z : EX × Hp, (cls = .ref (cc.C z.1.c) ∧ ERp X.K cc.C z.2 z.1 cls d) ∧ rS X.K (cc.hold i a z.2) (ss z.1) D σ H) hs hf hN hi hln hc tk (fun W pn xe tk' po => hb W pn xe tk' po)
    (fun a oe cls d pn hz hfl => pss_ex fun z hzz => by obtain ⟨rfl, er⟩ := hzz; exact hsu z.1 a oe d pn z.2 hz hfl er)) fun Dn σ H ⟨B, ρ, G, R0, h⟩ => ⟨B, ρ, G, R0.toW _, ?_⟩
  unfold sTryAs at h
  cases hr : sb ρ with
  | bot => rw [hr] at h; exact h
  | ok f ρ1 =>
    rw [hr] at h
    exact PostS.toW h fun e ρ q => by cases q
  | exc e ρ1 =>
    rw [hr] at h
    dsimp only at h
    refine fun cl dd σ' G' H' ex R er => ?_
    cases hq : sub e.c c with
    | none => rw [hq] at h; exact h.elim
    | some b =>
      rw [hq] at h
      have hm := hsub _ _ _ hq
      obtain ⟨ecl, _⟩ := id er
      subst ecl
      refine ⟨b, hm, fun hb a _ => ?_, fun hb => ?_⟩
      · subst hb
        dsimp only at h
        obtain ⟨hlt, h⟩ := ite_postS h
        refine ⟨(e, G'), ⟨rfl, er⟩, B, ρ1.set i none, G', R.ofW.enter hlt, ?_⟩
        have h := PostS.ext h ex
        cases hss : ss e (ρ1.set i none) with
        | bot => rw [hss] at h; exact h
        | exc _ _ => rw [hss] at h; exact h.elim
        | ok f ρ2 =>
          rw [hss] at h
          exact PostS.leave h hpn R.ofW.kg
      · subst hb
        exact h _ _ _ _ _ ex R.ofW er
/-! ### in the suite -/
theorem RpF.look {K : PySem.W.Frag} {C : Nat → Addr} {G : Hp} {f : Str} : ∀ {fl : List (Str × V)} {fs : List (Str × D)} {d : D}, RpF K C G fl fs → fs.lookup f = some d → ∃ v, fl.lookup f = some v ∧ Rp K C G v d
  | _, _, _, .nil, e => by cases e
  | _, _, d, @RpF.cons _ _ _ n v d0 vs ds h r, e => by
    by_cases q : f = n
    · subst q
      rw [List.lookup_cons_self] at e
      cases e
      exact ⟨v, List.lookup_cons_self, h⟩
    · have z : (f == n) = false := by simpa using q
      rw [List.lookup_cons, z] at e
      obtain ⟨u, h1, h2⟩ := r.look e
      exact ⟨u, by rw [List.lookup_cons, z]; exact h1, h2⟩
/-- e.f -/
def dXf (ok : Nat → Bool) (f : Str) (e : EX) : ENV → R D := fun ρ => if ok e.c = true then R.of (e.fs.lookup f) ρ else .bot
structure XfOk (K : PySem.W.Frag) (C : Nat → Addr) (f : Str) (ok : Nat → Bool) : Prop where
  at_ : ∀ c, ok c = true → XfC K (C c) ∧ PySem.W.findIn K (.ref (C c)) f = some none
theorem de_xf {f n : Str} {i : Nat} {e : EX} {ok : Nat → Bool} {a : Addr} {oe : Obj} {d : Option Addr} {pn : List (Addr × Obj)} {G0 : Hp} {p : Pos} (F : XfOk X.K cc.C f ok) (hz : Zc (.ref (cc.C e.c)) d oe) (hf : ∃ vs, oe.data = .fields vs) (er : ERp X.K cc.C G0 e (.ref (cc.C e.c)) d)
    (hi : X.N[i]? = some n := by rfl) (hv : Vis X.env.scope n := by first | exact Or.inl rfl | exact Or.inr (Or.inl rfl) | exact Or.inr (Or.inr rfl)) (hd : (n == ("__debug__" : Str)) = false := by decide) (hcd : (n == ("__classdict__" : Str)) = false := by decide)
    (hb : attributeBase (.Name n p) f X.env (eval (.Name n p) X.env) = eval (.Name n p) X.env := by rfl) : DE (X.suite a ((a, oe) :: pn)) (cc.hold i a G0) (.Attribute (.Name n p) f pos) (dXf ok f e) := by
  by_cases ho : ok e.c = true
  · obtain ⟨xc, hno⟩ := F.at_ _ ho
    have te : PE (X.suite a ((a, oe) :: pn)) (.Name n p) (tVar i) := pe_var hi hv hd hcd
    refine PE.imp (pe_xf xc hno hz hf te hb) fun σ H Q ⟨B, ρ, G, R0, h⟩ => ?_
    unfold dXf at h
    rw [if_pos ho] at h
    have pa := R0.pa i List.mem_cons_self
    have hai : (cc.hold i a G0).ad i = a := if_pos rfl
    rw [hai] at pa
    cases hl : e.fs.lookup f with
    | none => rw [hl] at h; exact h.elim
    | some v =>
      rw [hl] at h
      rcases er with ⟨_, ⟨e0, _⟩ | ⟨dx, fl, hd', hg, rf⟩⟩
      · rw [e0] at hl; cases hl
      · obtain ⟨u, h1, h2⟩ := rf.look hl
        exact ⟨_, pa, rfl, rfl, dx, fl, u, hd', R0.gk _ _ (R0.kg _ _ hg), h1, h u G H (Ext.refl _ _) R0 (h2.mono R0.kg)⟩
  · refine ⟨fun pi s σ H Q I ⟨B, ρ, G, R0, h⟩ => ?_⟩
    unfold dXf at h
    rw [if_neg ho] at h
    exact h.elim
end
end Rf
set_option Elab.async false
set_option linter.all false
set_option maxRecDepth 100000
/-! Rf14: isinstance(e, Y) in the suite of try .. except X as e -/
namespace Rf
open PySem PySem.Spec L2 PyProof.Rows
/-- e's class, for isinstance -/
structure XiOk (K : PySem.W.Frag) (D : Addr) : Prop where
  cl : (PySem.W.clsIn K D).isSome = true
  ga : PySem.W.findIn K (.ref D) "__getattribute__" = some (some (.builtin "BaseException.__getattribute__"))
  gt : PySem.W.findIn K (.ref D) "__getattr__" = some none
  sb : PySem.W.subIn K (.ref D) (.type "BaseException") = some true
  ca : PySem.W.findIn K (.ref D) "__class__" = some (some (.builtin "object.__class__"))
  sp : PySem.W.specialIn K (.builtin "object.__class__") "__get__" = some (some (.builtin "getset_descriptor.__get__"))
  tk : PySem.W.takesIn K (.builtin "object.__class__") = some true
  mo : PySem.W.mroIn K D (.type "object") = some true
def rXi (K : PySem.W.Frag) (D a : Addr) (d : Option Addr) : List V → Hp → VK → Prop := fun xs H Q => ∃ (c : V) (cv : Value) (b : Bool), xs = [.ref a, c] ∧ (∀ u, RelV c u → u = cv) ∧ PySem.W.kitOne K (.ref D) cv = some b ∧ (∀ dx, d = some dx → ∃ fl, H dx = some (.xd fl)) ∧ Q (.bl b) H
theorem cr_xi {X : Cx} {a D : Addr} {oe : Obj} {d : Option Addr} {pn : List (Addr × Obj)} (C : XiOk X.K D) (hz : Zc (.ref D) d oe) (hf : ∃ vs, oe.data = .fields vs) : CallR (X.suite a ((a, oe) :: pn)) (.builtin "isinstance") (rXi X.K D a d) := by
  intro pi s σ H xs us Q I r h
  obtain ⟨c, cv, b, rfl, hcv, e, hd, q⟩ := h
  match us, r with
  | [_, _], .cons rx (.cons rt .nil) =>
    cases rx
    cases hcv _ rt
    obtain ⟨hget, _⟩ := I.pin (a, oe) (List.mem_append.mpr (.inl List.mem_cons_self))
    obtain ⟨vs, hv⟩ := hf
    have J : ∃ od, PySem.W.InstAt s.heap a oe D od := by
      obtain ⟨h1, h2⟩ := hz
      have nc : PySem.W.notCls oe = true := by unfold PySem.W.notCls; rw [hv]
      cases d with
      | none => exact ⟨none, hget, h1, nc, by rw [h2]; trivial⟩
      | some dx =>
        obtain ⟨fl, hx⟩ := hd dx rfl
        have hxx : ObjOk X.prog X.w H s.heap dx (.xd fl) := I.hok dx _ hx
        obtain ⟨mA, hns, _⟩ := hxx
        obtain ⟨od, ho, _⟩ := lookIn_ns hns
        exact ⟨some od, hget, h1, nc, by rw [h2]; exact ho⟩
    obtain ⟨od, J⟩ := J
    exact PySem.W.kia_one (PySem.W.kitx_exc C.cl C.ga C.gt C.sb C.ca C.sp C.tk C.mo) I.kIn J e (fun z => nomatch z) fun tk => ⟨.bl b, H, I.kept (t' := tk) fun _ _ z => z, rfl, q⟩
/-- isinstance(e, Y) -/
def dXi (f : Nat → Option Bool) (e : EX) : ENV → R D := fun ρ => R.of ((f e.c).map D.bl) ρ
structure XiAll (K : PySem.W.Frag) (C : Nat → Addr) (cu : Value) (f : Nat → Option Bool) : Prop where
  at_ : ∀ c b, f c = some b → XiOk K (C c) ∧ PySem.W.kitOne K (.ref (C c)) cu = some b
section
variable {X : Cx} {cc : Cc} {pos : Pos}
theorem de_xi {x y n : Str} {i : Nat} {e : EX} {f : Nat → Option Bool} {cv : V} {cu : Value} {a : Addr} {oe : Obj} {d : Option Addr} {pn : List (Addr × Obj)} {G0 : Hp} {p p1 p2 : Pos} (F : XiAll X.K cc.C cu f) (hz : Zc (.ref (cc.C e.c)) d oe) (hf : ∃ vs, oe.data = .fields vs) (er : ERp X.K cc.C G0 e (.ref (cc.C e.c)) d)
    (hc : PE (X.suite a ((a, oe) :: pn)) (.Name y p2) (tC cv)) (hk : ∀ u, RelV cv u → u = cu) (hg : Gl X x) (hm : X.mg x = none) (hvx : bootBuiltins x = some (.builtin "isinstance"))
    (hi : X.N[i]? = some n := by rfl) (hv : Vis X.env.scope n := by first | exact Or.inl rfl | exact Or.inr (Or.inl rfl) | exact Or.inr (Or.inr rfl)) (hd : (n == ("__debug__" : Str)) = false := by decide) (hcd : (n == ("__classdict__" : Str)) = false := by decide)
    (hn : x ≠ "__name__" := by decide) (hdb : (x == ("__debug__" : Str)) = false := by decide) (he : starEach [.Name n p1, .Name y p2] X.env = (false, eval (.Name n p1) X.env) :: starEach [.Name y p2] X.env := by rfl)
    (hpl : (backTo pos (starEach [.Name y p2] X.env)).any (·.1) = false := by rfl) (hs2 : starEach [.Name y p2] X.env = (false, eval (.Name y p2) X.env) :: starEach [] X.env := by rfl) :
    DE (X.suite a ((a, oe) :: pn)) (cc.hold i a G0) (.Call (.Name x p) [.Name n p1, .Name y p2] [] pos) (dXi f e) := by
  cases hfc : f e.c with
  | none =>
    refine ⟨fun pi s σ H Q I ⟨B, ρ, G, R0, h⟩ => ?_⟩
    unfold dXi at h
    rw [hfc] at h
    exact h.elim
  | some b =>
    obtain ⟨xo, hko⟩ := F.at_ _ _ hfc
    have te : PE (X.suite a ((a, oe) :: pn)) (.Name n p1) (tVar i) := pe_var hi hv hd hcd
    refine PE.imp (pe_callB (cr_xi xo hz hf) hg hm hvx (pa_cons te (pa_cons hc pa_nil hs2) he) hn hdb he hpl) fun σ H Q ⟨B, ρ, G, R0, h⟩ => ?_
    unfold dXi at h
    rw [hfc] at h
    have pa := R0.pa i List.mem_cons_self
    have hai : (cc.hold i a G0).ad i = a := if_pos rfl
    rw [hai] at pa
    refine ⟨_, pa, cv, cu, b, rfl, hk, hko, fun dx hdx => ?_, h _ G H (Ext.refl _ _) R0 (.bl b)⟩
    rcases er with ⟨_, ⟨_, e0⟩ | ⟨dx', fl, hd', hg', _⟩⟩
    · rw [e0] at hdx; cases hdx
    · rw [hd'] at hdx; cases hdx
      exact ⟨fl, R0.gk _ _ (R0.kg _ _ hg')⟩
end
end Rf
set_option Elab.async false
set_option linter.all false
set_option maxRecDepth 100000
set_option maxHeartbeats 1000000
/-! Rf15: instances of classes of the program: fields read, fields set on an owned instance, instances made -/
namespace Rf
open PySem PySem.Spec L2 PyProof.Rows
/-- classes whose instances have the field f -/
structure FlOk (K : PySem.W.Frag) (C : Nat → Addr) (f : Str) (ok : Nat → Bool) : Prop where
  at_ : ∀ c, ok c = true → Cls K (C c) ∧ NoAttr K (C c) f
def vFld (ok : Nat → Bool) (f : Str) : D → Option D
  | .ins c fs => if ok c = true then fs.lookup f else none
  | _ => none
def dFld (ok : Nat → Bool) (f : Str) (da : ENV → R D) : ENV → R D := dUn (vFld ok f) da
section
variable {X : Cx} {cc : Cc} {pos : Pos} {e : Expr} {da : ENV → R D} {ok : Nat → Bool} {f : Str}
theorem de_fld (F : FlOk X.K cc.C f ok) (ha : DE X cc e da) (hb : attributeBase e f X.env (eval e X.env) = eval e X.env := by rfl) : DE X cc (.Attribute e f pos) (dFld ok f da) := by
  refine PE.imp (pe_fld ha hb) fun σ H Q ⟨B, ρ, G, R0, h⟩ => ⟨B, ρ, G, R0, h.bind fun d ρ1 G1 H1 x e1 R1 p1 h1 => ?_⟩
  cases p1 with
  | @ins a dx c fl fs hg r =>
    by_cases ho : ok c = true
    · have e0 : vFld ok f (.ins c fs) = fs.lookup f := if_pos ho
      rw [e0] at h1
      cases hl : fs.lookup f with
      | none => rw [hl] at h1; exact h1.elim
      | some d =>
        rw [hl] at h1
        obtain ⟨u, h2, h3⟩ := r.look hl
        obtain ⟨c1, c2⟩ := F.at_ c ho
        exact ⟨a, cc.C c, dx, fl, u, rfl, R1.gk _ _ hg, c1, c2, h2, Post.fin h1 R1 (Ext.refl _ _) (Grow.refl R1.gk) h3⟩
    · have e0 : vFld ok f (.ins c fs) = none := if_neg ho
      rw [e0] at h1
      exact h1.elim
  | _ => exact h1.elim
/-! ### a field of an owned instance is set -/
def putD (f : Str) (d : D) : List (Str × D) → List (Str × D)
  | [] => [(f, d)]
  | (g, x) :: r => if g = f then (g, d) :: r else (g, x) :: putD f d r
theorem RpF.put {K : PySem.W.Frag} {C : Nat → Addr} {G : Hp} {v : V} {d : D} (p : Rp K C G v d) : ∀ {fl : List (Str × V)} {fs : List (Str × D)}, RpF K C G fl fs → RpF K C G (putF f v fl) (putD f d fs)
  | _, _, .nil => .cons p .nil
  | _, _, @RpF.cons _ _ _ n u d0 _ _ h r => by
    unfold putF putD
    by_cases q : n = f
    · rw [if_pos q, if_pos q]; exact .cons p r
    · rw [if_neg q, if_neg q]; exact .cons h (r.put p)
theorem RpF.length {K : PySem.W.Frag} {C : Nat → Addr} {G : Hp} : ∀ {fl : List (Str × V)} {fs : List (Str × D)}, RpF K C G fl fs → fl.length = fs.length
  | _, _, .nil => rfl
  | _, _, .cons _ r => congrArg (· + 1) r.length
def sFld (ok : Nat → Bool) (f : Str) (i : Nat) (da : ENV → R D) : ENV → R Fl := fun ρ => (da ρ).bind fun d ρ1 => match ρ1[i]? with
  | some (some (.ow (.ins c fs))) => if ok c = true ∧ fs.length < 1000 then .ok .nx (ρ1.set i (some (.ow (.ins c (putD f d fs))))) else .bot
  | _ => .bot
theorem ds_fld (i : Nat) {x : Str} {p2 p3 : Pos} (F : FlOk X.K cc.C f ok) (ha : DE X cc e da) (hN : X.N[i]? = some x := by rfl) (hv : Vis X.env.scope x := by first | exact Or.inl rfl | exact Or.inr (Or.inl rfl) | exact Or.inr (Or.inr rfl)) (hd : (x == ("__debug__" : Str)) = false := by decide)
    (hcd : (x == ("__classdict__" : Str)) = false := by decide) (hs : swapsWith e (some (.Attribute (.Name x p2) f p3)) pos.line X.env = pure false := by rfl) : DS X cc (.Assign [.Attribute (.Name x p2) f p3] e pos) (sFld ok f i da) := by
  refine PS.imp (ps_fld (pe_var hN hv hd hcd) ha hs) fun Dn σ H ⟨B, ρ, G, R0, h⟩ => ⟨B, ρ, G, R0, h.bind fun d ρ1 G1 H1 y e1 R1 p1 h1 => ?_⟩
  split at h1
  rotate_left
  · exact h1.elim
  rename_i c fs e0
  obtain ⟨⟨ho, hl⟩, h1⟩ := ite_postS h1
  obtain ⟨p, hp, ow⟩ := R1.ow i _ e0
  obtain ⟨o, hx, dx, fl, rfl, r⟩ := ow.at_
  obtain ⟨c1, c2⟩ := F.at_ c ho
  refine ⟨_, hp, p, cc.C c, dx, fl, rfl, hx, c1, c2, by rw [r.length]; exact hl, ?_⟩
  exact h1 σ G1 _ (Ext.refl _ _) (R1.mutate e0 hp ⟨dx, _, rfl, r.put p1⟩)
end
/-! ### made -/
structure Ik (P : Program) (w : World) (K : PySem.W.Frag) (mg : Str → Option Value) (base : Heap) (C : Nat → Addr) (x : Str) (c n k : Nat) (F : List DV → FO) : Prop where
  gC : mg x = some (.ref (C c))
  ex : ∃ f fd ps, ps.length = n ∧ Mk K (C c) f ∧ FnOk P w K mg base (L2.CX P w) k f fd ps (spF K C n F) ∧ Binds K fd ps []
def mkR (ρ1 : ENV) : FO → R M
  | .ok (.sh .non) [m] => .ok m ρ1
  | .exc e _ => .exc e ρ1
  | _ => .bot
def fMake (c n : Nat) (F : List DV → FO) (da : ENV → R (List D)) : ENV → R M := fun ρ => (da ρ).bind fun ds ρ1 => if ds.length + 1 = n then mkR ρ1 (F (.ow (.ins c []) :: ds.map DV.sh)) else .bot
section
variable {X : Cx} {cc : Cc} {pos p : Pos} {x : Str} {c n k : Nat} {F : List DV → FO}
theorem run_makeS {CX : CXT} {C f : Addr} {fd : FuncData} {ps : List Str} {sp : Sp} {E : XK} {pi : List (Addr × Obj)} {σ : L2.St} {H : Hp} {s : Shared} {Q : VK} {us : List Value} {vs : List V} (M : Mk X.K C f) (F : FnOk X.prog X.w X.K X.mg X.base CX k f fd ps sp)
    (hr : Room (k + 1) X.A) (hb : Binds X.K fd ps []) (hx : PassesAt CX X σ E) (I : Inv X pi σ H s) (r : Vals vs us)
    (h : ∀ x dx, H x = none → H dx = none → dx ≠ x → sp (.ref x :: vs) (upd (upd H dx (.own x)) x (.ins C dx [])) (fun v H2 => v = .non ∧ Q (.ref x) H2) E) :
    wpAny (model X.prog X.w) X.A (call (.ref C) us) (EP X pi σ Q) X.xe s := by
  have hq := h (s.heap.objs.size + 1) s.heap.objs.size (I.hok.fresh (Nat.le_succ _)) (I.hok.fresh (Nat.le_refl _)) (Nat.ne_of_lt (Nat.lt_succ_self _))
  have J := Inv.made (C := C) I
  have r2 : Vals (V.ref (s.heap.objs.size + 1) :: vs) (Value.ref (s.heap.objs.size + 1) :: us) := .cons rfl r
  have hl : (Value.ref (s.heap.objs.size + 1) :: us).length = ps.length := by
    have e := r2.length
    rw [F.len _ _ _ _ hq] at e
    exact e.symm
  have hbb := fun s1 k1 => hb s1 (Value.ref (s.heap.objs.size + 1) :: us) k1 (by rw [List.append_nil]; exact hl)
  rw [List.append_nil] at hbb
  refine wpAny_call (make_map (f := f) I.kIn M.makes M.init (beq_iff_eq.mp M.fn) (codeAny_mono (F.run _ X.stack _ _ ⟨Value.ref (s.heap.objs.size + 1) :: us, []⟩ (Value.ref (s.heap.objs.size + 1) :: us) _ _ E (hr.make C us []) (J.env0.make C us []) (hbb _ J.kIn) r2 hq) fun r s' hq' => ?_))
  match r, hq' with
  | .error e, hq' => exact hx pi _ _ e s' J hq'
  | .ok (.ret u), hq' =>
    obtain ⟨v, H', I3, rv, ev, q3⟩ := J.after hq'
    subst ev
    exact ⟨rv, ⟨V.ref (s.heap.objs.size + 1), H', I3, rfl, q3⟩⟩
theorem apart1 {a : Addr} {m : M} {vs : List V} {ds : List D} : Apart (.ref a :: vs) (.ow m :: ds.map DV.sh) := by
  have z : ∀ (i : Nat) (m' : M), (DV.ow m :: ds.map DV.sh)[i]? = some (.ow m') → i = 0 := fun i m' h => by
    cases i with
    | zero => rfl
    | succ i => rw [List.getElem?_cons_succ, List.getElem?_map] at h; cases q : ds[i]? <;> rw [q] at h <;> cases h
  exact fun i j m1 m2 p h1 h2 _ _ => (z i m1 h1).trans (z j m2 h2).symm
theorem AR.shs {K : PySem.W.Frag} {C : Nat → Addr} {B G H : Hp} : ∀ {vs : List V} {ds : List D}, RpL K C G vs ds → AR K C B G H vs (ds.map DV.sh)
  | _, _, .nil => .nil
  | _, _, .cons h r => .sh h (AR.shs r)
theorem df_make {e : Expr} {es : List Expr} {da : ENV → R (List D)} (T : Ik X.prog X.w X.K X.mg X.base cc.C x c n k F) (hr : Room (k + 1) X.A) (tk : Takes X cc.W) (ha : DA X cc (e :: es) da) (hg : Gl X x := by rfl)
    (hdb : (x == ("__debug__" : Str)) = false := by decide) (he : starEach (e :: es) X.env = (false, eval e X.env) :: starEach es X.env := by rfl) (hpl : (backTo pos (starEach es X.env)).any (·.1) = false := by rfl) :
    DF X cc (.Call (.Name x p) (e :: es) [] pos) (fMake c n F da) := by
  obtain ⟨f, fd, ps, hps, M, G, hb⟩ := T.ex
  constructor
  intro pi s σ H Q I ⟨B, ρ, G0, R0, h⟩
  refine wpAny_Call_Name_kw (ld_glob I hg T.gC ?_ hdb)
  refine PySem.W.callWith_K (h₀ := X.base) I.ok.mod.kin M.kp (thn (ha.run pos pi s σ H (fun vs H1 => ∀ a dx, H1 a = none → H1 dx = none → dx ≠ a → spF X.K cc.C n F (.ref a :: vs) (upd (upd H1 dx (.own a)) a (.ins (cc.C c) dx [])) (fun v H2 => v = .non ∧ Q (.ref a) H2) (WE cc.W σ)) I
    ⟨B, ρ, G0, R0, h.bind fun ds ρ1 G1 H1 vs e1 R1 p1 h1 => ?_⟩) fun us s1 ⟨vs, H1, I1, r, q⟩ => ⟨I1.kIn, run_makeS M G hr hb (passAt tk σ) I1 r q⟩) he hpl
  intro a dx na nd ne
  by_cases hz : ds.length + 1 = n
  rotate_left
  · rw [if_neg hz] at h1; exact h1.elim
  rw [if_pos hz] at h1
  have keep : Same H1 (upd (upd H1 dx (.own a)) a (.ins (cc.C c) dx [])) := (same_upd nd).trans (same_upd (by rw [upd_ne (Ne.symm ne)]; exact na))
  have owM : ∀ {G' H' : Hp}, Same G1 G' → Ext H1 G1 G' → Same H1 H' → ∀ (i : Nat) (m : Rf.M), ρ1[i]? = some (some (.ow m)) → ∃ p, σ[i]? = some (some (.ref p)) ∧ Own X.K cc.C B G' H' p m := by
    intro G' H' s1 ex k1 i m q
    obtain ⟨p, h1, o⟩ := R1.ow i m q
    obtain ⟨u, h2, h3⟩ := o.at_
    refine ⟨p, h1, o.nb, ?_, u, k1 _ _ h2, h3.mono s1⟩
    cases hg : G' p with
    | none => rfl
    | some w =>
      rcases ex.nb p w hg with z | z
      · rw [o.ng] at z; cases z
      · rw [h2] at z; cases z
  have R2 : ∀ {G' H' : Hp}, Same G1 G' → Ext H1 G1 G' → Same H1 H' → Same G' H' → Rl X.K cc B ρ1 σ G' H' := fun {G' H'} s1 ex k1 k2 =>
    ⟨R1.bk.trans k1, k2, R1.ln, fun i d q => let ⟨v, h1, h2⟩ := R1.sh i d q; ⟨v, h1, h2.mono s1⟩, owM s1 ex k1, R1.df, R1.pa, R1.kg.trans s1⟩
  have notA : ∀ (i : Nat) (m' : Rf.M), ρ1[i]? = some (some (.ow m')) → σ[i]? ≠ some (some (.ref a)) := by
    intro i m' q1 q2
    obtain ⟨p, h3, o⟩ := R1.ow i m' q1
    rw [q2] at h3
    cases h3
    obtain ⟨u, h4, _⟩ := o.at_
    rw [na] at h4
    cases h4
  refine ⟨.ow (.ins c []) :: ds.map DV.sh, H1, G1, by rw [List.length_cons, p1.length]; exact hz, keep, R1.gk.trans keep, .ow ⟨na, R1.gk.free na, _, upd_same, dx, [], rfl, .nil⟩ (AR.shs p1), apart1, ?_⟩
  generalize hF : F (.ow (.ins c []) :: ds.map DV.sh) = r at h1 ⊢
  cases r with
  | bot => exact h1.elim
  | exc ex ms =>
    exact fun cl dd G' H' e2 k1 k2 os er => h1 cl dd G' H' ⟨e2.gg, fun b o q => (e2.nb b o q).imp id fun z => R1.bk.free z⟩ (R2 e2.gg e2 k1 k2) er
  | ok v ms =>
    match v, ms, h1 with
    | .sh .non, [m], h1 =>
      intro xv G' H' e2 k1 k2 os hv
      cases hv
      refine ⟨rfl, ?_⟩
      cases os with
      | ow ho _ => exact h1 a G' H' ⟨e2.gg, fun b o q => (e2.nb b o q).imp id fun z => R1.bk.free z⟩ (R2 e2.gg e2 k1 k2) ⟨R1.bk.free na, ho.ng, ho.at_⟩ notA
end
end Rf
set_option Elab.async false
set_option linter.all false
set_option maxRecDepth 100000
set_option maxHeartbeats 1000000
/-! Rf16: defs in classes; o.m(..) of an instance, the class found by its number -/
namespace Rf
open PySem PySem.Spec L2 PyProof.Rows
/-- a def of a class of the module -/
structure Dm (K : PySem.W.Frag) (Ca : Addr) (m qual : Str) (st : Stmt) (ps : List Str) : Prop where
  ex : ∃ f fd, Fun K m qual st f fd ∧ PySem.W.findIn K (.ref Ca) m = some (some (.ref f)) ∧ PySem.W.isFn K (.ref f) = true ∧ ∀ us : List Value, us.length = ps.length → bindArgs fd ⟨us, []⟩ = pure (ps.zip us)
theorem dm_mk {K : PySem.W.Frag} {Ca : Addr} {m qual : Str} {st : Stmt} {ps : List Str} {f : Addr} {oc : Value} {od an : Option Addr} {osl : Array (Option Value)} {kV doc pm cdv ct : Value} (a : PySem.W.findIn K (.ref Ca) m = some (some (.ref f)))
    (l : K.lookup f = some ⟨oc, od, .func (PySem.W.fnOf m qual (defArgs st) (defBody st) (defScope st) .none kV doc pm an cdv ct), osl⟩) (c : PySem.W.codeIn K cdv qual = true) (k : PySem.W.keepIn K (.ref f) = true) (fn : PySem.W.isFn K (.ref f) = true)
    (hb : ∀ (kV doc pm : Value) (an : Option Addr) (cdv ct : Value) (us : List Value), us.length = ps.length → bindArgs (PySem.W.fnOf m qual (defArgs st) (defBody st) (defScope st) .none kV doc pm an cdv ct) ⟨us, []⟩ = pure (ps.zip us)) : Dm K Ca m qual st ps :=
  ⟨f, _, fun_mk (st := st) l c k, a, fn, fun us hl => hb _ _ _ _ _ _ us hl⟩
/-- how instances of a class are made -/
structure Cm (K : PySem.W.Frag) (mg : Str → Option Value) (Ca : Addr) (x : Str) : Prop where
  gC : mg x = some (.ref Ca)
  mi : PySem.W.makesIn K Ca = true
  kp : PySem.W.keepIn K (.ref Ca) = true
section
variable {P : Program} {w : World} {K : PySem.W.Frag} {mg : Str → Option Value} {base : Heap} {C : Nat → Addr}
theorem ik_of {x qual : Str} {c : Nat} {st : Stmt} {N ps : List Str} {k : Nat} (h : Cm K mg (C c) x) (d : Dm K (C c) "__init__" qual st ps) (S : FnScope N ps (defScope st)) (pr : List Nat) {den : ENV → R Fl} (hlen : ps.length ≤ N.length)
    (hb : ∀ (f : Addr) (cdv : Value) (A : Around) (outer : List Env) (s : Shared) (H : Hp) (E : XK) (ad : Nat → Addr), Room k (A.deeper (PyProof.Rows.envOfC qual (defScope st) s.heap.objs.size f cdv)) →
      DSs (cxOf (L2.CX P w) P w K mg base N qual (defScope st) f cdv A outer s H E) ⟨C, fun cl d _ H => E cl d H, pr, ad, fun _ => none⟩ (defBody st) den) : Ik P w K mg base C x c ps.length (k + 1) (runF pr N.length den) := by
  obtain ⟨f, fd, F, hi, hf, hbd⟩ := d.ex
  exact ⟨h.gC, f, fd, ps, rfl, ⟨h.mi, hi, hf, h.kp⟩, fn_ok F S pr hlen (hb f), .all hbd⟩
/-- a method of some classes, by their numbers -/
structure Mf (P : Program) (w : World) (K : PySem.W.Frag) (mg : Str → Option Value) (base : Heap) (C : Nat → Addr) (m : Str) (n k : Nat) (tab : Nat → Option (List DV → FO)) : Prop where
  at_ : ∀ c F, tab c = some F → ∃ f fd ps, Cls K (C c) ∧ Meth K (C c) m f ∧ ps.length = n ∧ FnOk P w K mg base (L2.CX P w) k f fd ps (spF K C n F) ∧ Binds K fd ps []
theorem mf_of {m qual : Str} {c : Nat} {st : Stmt} {N ps : List Str} {k : Nat} (hc : Cls K (C c)) (d : Dm K (C c) m qual st ps) (S : FnScope N ps (defScope st)) (pr : List Nat) {den : ENV → R Fl} (hlen : ps.length ≤ N.length)
    (hb : ∀ (f : Addr) (cdv : Value) (A : Around) (outer : List Env) (s : Shared) (H : Hp) (E : XK) (ad : Nat → Addr), Room k (A.deeper (PyProof.Rows.envOfC qual (defScope st) s.heap.objs.size f cdv)) →
      DSs (cxOf (L2.CX P w) P w K mg base N qual (defScope st) f cdv A outer s H E) ⟨C, fun cl d _ H => E cl d H, pr, ad, fun _ => none⟩ (defBody st) den) : Mf P w K mg base C m ps.length (k + 1) (fun j => if j = c then some (runF pr N.length den) else none) := by
  refine ⟨fun j F hj => ?_⟩
  by_cases e : j = c
  · subst e
    rw [if_pos rfl] at hj
    cases hj
    obtain ⟨f, fd, G, hi, hf, hbd⟩ := d.ex
    exact ⟨f, fd, ps, hc, ⟨hi, hf, G.kp⟩, rfl, fn_ok G S pr hlen (hb f), .all hbd⟩
  · rw [if_neg e] at hj; cases hj
theorem Mf.mono {m : Str} {n k k' : Nat} {tab : Nat → Option (List DV → FO)} (h : Mf P w K mg base C m n k tab) (hk : k ≤ k') : Mf P w K mg base C m n k' tab :=
  ⟨fun c F e => let ⟨f, fd, ps, h1, h2, h3, h4, h5⟩ := h.at_ c F e; ⟨f, fd, ps, h1, h2, h3, h4.mono hk, h5⟩⟩
/-- two tables joined -/
theorem Mf.or {m : Str} {n k : Nat} {t u : Nat → Option (List DV → FO)} (h : Mf P w K mg base C m n k t) (g : Mf P w K mg base C m n k u) : Mf P w K mg base C m n k (fun c => match t c with | some F => some F | none => u c) :=
  ⟨fun c F e => by
    cases q : t c with
    | some F' => simp only [q] at e; cases e; exact h.at_ c _ q
    | none => simp only [q] at e; exact g.at_ c F e⟩
end
theorem RpF.lookN {K : PySem.W.Frag} {C : Nat → Addr} {G : Hp} {f : Str} : ∀ {fl : List (Str × V)} {fs : List (Str × D)}, RpF K C G fl fs → fs.lookup f = none → fl.lookup f = none
  | _, _, .nil, _ => rfl
  | _, _, @RpF.cons _ _ _ n _ _ _ _ _ r, e => by
    cases z : f == n with
    | true => rw [List.lookup_cons, z] at e; cases e
    | false =>
      rw [List.lookup_cons, z] at e ⊢
      exact r.lookN e
def metOf (tab : Nat → Option (List DV → FO)) (m : Str) : D → Option (List DV → FO)
  | .ins c fs => if fs.lookup m = none then tab c else none
  | _ => none
def metK (tab : Nat → Option (List DV → FO)) (m : Str) (dr : ENV → R (List Ag)) (x : D) (ρ1 : ENV) : R D := match metOf tab m x with
  | some F => ((dr ρ1).bind fun as ρ2 => stepR F (.inl x :: as) ρ2).bind onSh
  | none => .bot
def dMet (tab : Nat → Option (List DV → FO)) (m : Str) (da : ENV → R D) (dr : ENV → R (List Ag)) : ENV → R D := fun ρ => (da ρ).bind (metK tab m dr)
section
variable {X : Cx} {cc : Cc} {pos apos : Pos} {o e : Expr} {es : List Expr} {da : ENV → R D} {dr : ENV → R (List Ag)} {m : Str} {n k : Nat} {tab : Nat → Option (List DV → FO)}
theorem met_read {σ : L2.St} {Q : VK} {B G1 H1 : Hp} {ρ1 : ENV} {F : List DV → FO} {x : V} {d : D} (hn : Many n dr) (R1 : Rl X.K cc B ρ1 σ G1 H1) (p1 : Rp X.K cc.C G1 x d) (h : Post X.K cc (Rp X.K cc.C) B G1 σ Q (((dr ρ1).bind fun as ρ2 => stepR F (.inl d :: as) ρ2).bind onSh)) :
    rAg X.K cc dr σ H1 fun vs H2 => spF X.K cc.C (n + 1) F (x :: vs) H2 Q (WE cc.W σ) := by
  refine ⟨B, ρ1, G1, R1, ?_⟩
  have h := PostV.sh h
  cases hd : dr ρ1 with
  | exc e ρ2 => rw [hd] at h; exact h
  | bot => rw [hd] at h; exact h
  | ok as ρ2 =>
    rw [hd] at h
    intro vs G2 H2 e2 R2 ag
    exact call_core F R2 (.sh (p1.mono e2.gg) ag) (by rw [List.length_cons, ag.length, hn ρ1 as ρ2 hd]) (PostV.ext h e2)
theorem de_met {pl : Sem Bool} (T : Mf X.prog X.w X.K X.mg X.base cc.C m (n + 1) k tab) (hr : Room k X.A) (tk : Takes X cc.W) (ho : DE X cc o da) (ha : DAg X cc (e :: es) dr) (hn : Many n dr)
    (hst : starEach (e :: es) X.env = (false, eval e X.env) :: starEach es X.env := by rfl) (hpl : (backTo pos (starEach es X.env)).any (·.1) = false := by rfl)
    (ht : eval (.Call (.Attribute o m apos) (e :: es) [] pos) X.env = (eval o X.env >>= fun ov => standAt apos.atName >>= fun _ => holding [ov] (getMethod ov m pl) >>= fun fx =>
      callWith pos fx.1 fx.2 (backTo pos (starEach (e :: es) X.env)) (backToKw pos (keywordEach [] X.env))) := by rfl) : DE X cc (.Call (.Attribute o m apos) (e :: es) [] pos) (dMet tab m da dr) := by
  constructor
  intro pi s σ H Q I ⟨B, ρ, G0, R0, h⟩
  refine PySem.W.methodCall_KW (pl := pl) (thn (ho.run pi s σ H (fun x H1 => ∃ (a Ca : Addr) (dx : Addr) (fl : List (Str × V)) (F : List DV → FO) (f : Addr) (fd : FuncData) (ps : List Str), x = .ref a ∧ H1 a = some (.ins Ca dx fl) ∧ fl.lookup m = none ∧ Cls X.K Ca ∧ Meth X.K Ca m f ∧
      FnOk X.prog X.w X.K X.mg X.base (L2.CX X.prog X.w) k f fd ps (spF X.K cc.C (n + 1) F) ∧ Binds X.K fd ps [] ∧ rAg X.K cc dr σ H1 fun vs H2 => spF X.K cc.C (n + 1) F (x :: vs) H2 Q (WE cc.W σ)) I
    ⟨B, ρ, G0, R0, h.bind fun d ρ1 G1 H1 x e1 R1 p1 h1 => ?_⟩) fun u s1 ⟨x, H1, I1, rx, a, Ca, dx, fl, F, f, fd, ps, ex, ea, l, c, hm, G, hb, q⟩ => ?_) ht
  · unfold metK at h1
    cases p1 with
    | @ins a dx c fl fs hg r =>
      cases q : metOf tab m (.ins c fs) with
      | none => rw [q] at h1; exact h1.elim
      | some F =>
        rw [q] at h1
        have q : (if fs.lookup m = none then tab c else none) = some F := q
        by_cases hl : fs.lookup m = none
        · rw [if_pos hl] at q
          obtain ⟨f, fd, ps, c1, c2, c3, c4, c5⟩ := T.at_ c F q
          exact ⟨a, cc.C c, dx, fl, F, f, fd, ps, rfl, R1.gk _ _ hg, r.lookN hl, c1, c2, c4, c5, met_read hn R1 (.ins hg r) h1⟩
        · rw [if_neg hl] at q; cases q
    | _ => exact h1.elim
  · subst ex
    obtain rfl : u = Value.ref a := rx
    refine getmeth_ok I1 ea c hm l ?_
    refine PySem.W.callWith_K (first := [.ref a]) (h₀ := X.base) I.ok.mod.kin hm.kp (thn (ha.run pos pi s1 σ H1 _ I1 q) fun us s2 ⟨vs, H2, I2, r, q2⟩ => ⟨I2.kIn, ?_⟩) hst hpl
    exact run_fnS (us := .ref a :: us) (vs := .ref a :: vs) (E := WE cc.W) G hr hb (passAt tk σ) I2 (.cons rfl r) q2
end
end Rf
set_option Elab.async false
set_option linter.all false
set_option maxRecDepth 100000
set_option maxHeartbeats 1000000
/-! Rf17: what the end hands over: exception classes with fields, instances' classes, constants that are tuples -/
namespace Rf
open PySem PySem.Spec L2 PyProof.Rows
/-- an exception class of the text, whatever its __init__ -/
structure ExN (K : PySem.W.Frag) (mg : Str → Option Value) (c : Addr) (x : Str) : Prop where
  gC : mg x = some (.ref c)
  kC : PySem.W.keepIn K (.ref c) = true
  bP : PySem.W.subIn K (.ref c) (.type "BaseException") = some true
  tP : PySem.W.typeIn K (.ref c) = some (.type "type")
theorem ExN.names {X : Cx} {c : Addr} {x : Str} (h : ExN X.K X.mg c x) (hg : Gl X x) (hd : (x == ("__debug__" : Str)) = false := by decide) : Names X x (.ref c) := ⟨hg, hd, .inl h.gC⟩
theorem ExN.raises {X : Cx} {c : Addr} {x : Str} (h : ExN X.K X.mg c x) : Raises X (.ref c) := raises_own h.bP h.tP
theorem oex_mk {K : PySem.W.Frag} {C N : Addr} {nm q : Str} {bs bm : List Value} {sn : List Str} {sub : List Value} {ab : Bool} {col : Option Bool} {dd : Option Addr} {k0 k1 k2 k3 k5 : Option Value}
    (l : K.lookup C = some (excClassObj nm q C N bs bm true sn sub ab col dd k0 k1 k2 k3 k5 "ValueError.__new__")) (r : PySem.HandSPX.refsVE bm = true) (sa : PySem.W.findIn K (.ref C) "__setattr__" = some (some (.builtin "object.__setattr__")))
    (e : PySem.W.subIn K (.ref C) (.type "BaseException") = some true) (t : PySem.W.typeIn K (.ref C) = some (.type "type")) (k : PySem.W.keepIn K (.ref C) = true) : OexC K C :=
  ⟨⟨nm, q, N, bs, bm, sn, sub, ab, col, dd, k0, k1, k2, k3, k5, l, r⟩, sa, e, t, k⟩
theorem exi_of {P : Program} {w : World} {K : PySem.W.Frag} {mg : Str → Option Value} {base : Heap} {Ca : Addr} {x qual : Str} {fs : List Str} {st : Stmt} {N ps : List Str} (g : ExN K mg Ca x) (cl : OexC K Ca) (d : Dm K Ca "__init__" qual st ps) (S : FnScope N ps (defScope st)) (hl : ps.length = fs.length + 1)
    (hb : ∀ (f : Addr) (cdv : Value) (A : Around) (outer : List Env) (s : Shared) (H : Hp) (vs : List V) (Q : VK) (E : XK), Room 0 (A.deeper (envOfC qual (defScope st) s.heap.objs.size f cdv)) → spI Ca fs vs H Q E →
      ∃ t, PSs (cxOf CX0 P w K mg base N qual (defScope st) f cdv A outer s H E).nox (defBody st) t ∧ t { nx := fun _ H' => Q .non H', rt := Q } (L2.start N vs) H) : ExI P w K mg base Ca x fs 1 := by
  obtain ⟨f, fd, F, hi, hf, hbd⟩ := d.ex
  exact ⟨g.gC, cl, f, fd, ps, hi, beq_iff_eq.mp hf, F.ok S (fun vs H Q E h => (spI_len h).trans hl.symm) (hb f), .all hbd⟩
/-- a constant of the module that is a tuple -/
inductive RelL : List V → List Value → Prop
  | nil : RelL [] []
  | cons {v : V} {u : Value} {vs : List V} {us : List Value} (h : RelV v u) (r : RelL vs us) : RelL (v :: vs) (u :: us)
theorem xi_mk {K : PySem.W.Frag} {C : Nat → Addr} {cu : Value} {f : Nat → Option Bool} (h : ∀ c b, f c = some b → XiOk K (C c) ∧ PySem.W.kitOne K (.ref (C c)) cu = some b) : XiAll K C cu f := ⟨h⟩
end Rf
set_option Elab.async false
set_option linter.all false
set_option maxRecDepth 100000
set_option maxHeartbeats 1000000
/-! Rf18: enumerate over lists -/
namespace Rf
open PySem PySem.Spec L2 PyProof.Rows
def pairs (ds : List D) : List D := ds.mapIdx fun i d => .tup [.int (i : Nat), d]
theorem pairs_len (ds : List D) : (pairs ds).length = ds.length := by unfold pairs; rw [List.length_mapIdx]
theorem wk_enum {K : PySem.W.Frag} {C : Nat → Addr} {G : Hp} {a : Addr} {xs : List V} {ds : List D} (h : SqL K G a xs) (r : RpL K C G xs ds) : Wk K C G (Ite K a) (pairs ds) := by
  refine ⟨_, _, by rw [pairs_len, ← r.length]; exact walk_enum (xs := xs), fun G2 H2 s s2 => Same.seq s2 (Same.seq s h), fun i G2 H2 x H3 hi s s2 y => ?_⟩
  obtain ⟨T, u, v, rfl, nT, rfl, e1, e2⟩ := y
  cases e1
  obtain ⟨d, hd, p⟩ := r.getV e2
  have g := Grow.new (o := .tup [V.int (i : Nat), v]) s2 nT
  refine ⟨.tup [.int (i : Nat), d], _, ?_, g, .tup (.inl (.inl upd_same)) (.cons (.int _) (.cons ((p.mono s).mono g.gg) .nil))⟩
  unfold pairs
  rw [List.getElem?_mapIdx, hd]
  rfl
def enumK : D → ENV → R (List D) := fun x ρ1 => match x with
  | .lst ds => .ok (pairs ds) ρ1
  | .scr ds => .ok (pairs ds) ρ1
  | _ => .bot
def dEnum (da : ENV → R D) : ENV → R (List D) := fun ρ => (da ρ).bind enumK
section
variable {X : Cx} {cc : Cc} {a : Expr} {da : ENV → R D} {pos p tpos : Pos} {elts : List Expr} {kk : Nat}
theorem di_enum (hg : Gl X "enumerate") (hm : X.mg "enumerate" = none) (ha : DE X cc a da) (hs : starEach [a] X.env = [(false, eval a X.env)] := by rfl) (hs2 : starEach [a] X.env = (false, eval a X.env) :: starEach [] X.env := by rfl) :
    DI X cc (.Tuple elts kk tpos) (.Call (.Name "enumerate" p) [a] [] pos) (dEnum da) := by
  refine PI.imp (pi_enum hg hm (pa_cons ha pa_nil hs2) hs) fun σ H Q ⟨B, ρ, G, R0, h⟩ => ⟨B, ρ, G, R0, Post.bind (V2 := fun G' J ds => Wk X.K cc.C G' J ds) h fun d1 ρ1 G1 H1 x e1 R1 p1 h1 => ?_⟩
  cases p1 with
  | lst h r => exact ⟨_, _, rfl, .inl (.inl (R1.gk _ _ h)), h1 _ G1 H1 (Ext.refl _ _) R1 (wk_enum (.inl (.inl h)) r)⟩
  | scr h r => exact ⟨_, _, rfl, Same.seq R1.gk h, h1 _ G1 H1 (Ext.refl _ _) R1 (wk_enum h r)⟩
  | _ => exact h1.elim
/-! ### a if t else b, as a test -/
def ifBK (a b : ENV → R Bool) : Bool → ENV → R Bool := fun x ρ1 => if x = true then a ρ1 else b ρ1
def dIfB (t a b : ENV → R Bool) : ENV → R Bool := fun ρ => (t ρ).bind (ifBK a b)
theorem dt_ifexp {t b : Expr} {dt dA dB : ENV → R Bool} (ht : DT X cc t dt) (ha : DT X cc a dA) (hb : DT X cc b dB) : DT X cc (.IfExp t a b pos) (dIfB dt dA dB) := by
  constructor
  intro pi s σ H Q I ⟨B, ρ, G, R0, h⟩
  refine PyProof.Rows.isTrue_IfExp (thn (ht.run pi s σ H (fun c H1 => if c = true then rT X.K cc dA σ H1 Q else rT X.K cc dB σ H1 Q) I ⟨B, ρ, G, R0, Post.bind (V2 := fun _ b c => b = c) h fun d1 ρ1 G1 H1 x e1 R1 p1 h1 => ?_⟩) fun c s1 ⟨H1, I1, q⟩ => ?_)
  · subst p1
    cases x with
    | true => exact ⟨B, ρ1, G1, R1, h1⟩
    | false => exact ⟨B, ρ1, G1, R1, h1⟩
  · cases c with
    | true => exact ha.run pi s1 σ H1 Q I1 q
    | false => exact hb.run pi s1 σ H1 Q I1 q
/-! ### isinstance(x, Y), Y a class of the program -/
def isOwn (f : Nat → Option Bool) : D → Option Bool
  | .ins c _ => f c
  | _ => some false
structure IsO (K : PySem.W.Frag) (C : Nat → Addr) (cu : Value) (f : Nat → Option Bool) : Prop where
  own : ∀ c b, f c = some b → Cls K (C c) ∧ PySem.W.findIn K (.ref (C c)) "__class__" = some (some (.builtin "object.__class__")) ∧ PySem.W.mroIn K (C c) (.type "object") = some true ∧ PySem.W.kitOne K (.ref (C c)) cu = some b
  sp : PySem.W.specialIn K (.builtin "object.__class__") "__get__" = some (some (.builtin "getset_descriptor.__get__"))
  tk : PySem.W.takesIn K (.builtin "object.__class__") = some true
  b1 : PySem.W.kitOne K (.type "NoneType") cu = some false
  b2 : PySem.W.kitOne K (.type "bool") cu = some false
  b3 : PySem.W.kitOne K (.type "int") cu = some false
  b4 : PySem.W.kitOne K (.type "str") cu = some false
  b5 : PySem.W.kitOne K (.type "tuple") cu = some false
  b6 : PySem.W.kitOne K (.type "list") cu = some false
  b7 : PySem.W.kitOne K (.type "dict") cu = some false
theorem isOwn_ok {K : PySem.W.Frag} {C : Nat → Addr} {cu : Value} {f : Nat → Option Bool} (F : IsO K C cu f) {G H : Hp} {v : V} {d : D} {b : Bool} (s : Same G H) (p : Rp K C G v d) (e : isOwn f d = some b) : ∃ t, TyX K H v t ∧ PySem.W.kitOne K t cu = some b := by
  cases p with
  | non => cases e; exact ⟨_, .base .non, F.b1⟩
  | bl b => cases e; exact ⟨_, .base (.bl b), F.b2⟩
  | int b => cases e; exact ⟨_, .base (.int b), F.b3⟩
  | str b _ => cases e; exact ⟨_, .base (.str b), F.b4⟩
  | tup h r => cases e; exact ⟨_, sqT_ty (same_seqT s h), F.b5⟩
  | lst h r => cases e; exact ⟨_, .base (.lst (s _ _ h)), F.b6⟩
  | scr h r => cases e; exact ⟨_, sqL_ty (Same.seq s h), F.b6⟩
  | dic h r => cases e; exact ⟨_, .base (.dK (s _ _ h)), F.b7⟩
  | @ins a dx c fl fs h r =>
    obtain ⟨c1, c2, c3, c4⟩ := F.own c b e
    exact ⟨_, .base (.ins (s _ _ h) c1 c2 F.sp F.tk c3), c4⟩
theorem de_isO {j : Nat} {f : Nat → Option Bool} {x y : Str} {p2 : Pos} (F : IsO X.K cc.C (.ref (cc.C j)) f) (hmy : X.mg y = some (.ref (cc.C j))) (hg : Gl X x) (hm : X.mg x = none) (hv : bootBuiltins x = some (.builtin "isinstance")) (ha : DE X cc a da) (hgy : Gl X y := by rfl) (hdy : (y == ("__debug__" : Str)) = false := by decide)
    (hn : x ≠ "__name__" := by decide) (hdb : (x == ("__debug__" : Str)) = false := by decide) (he : starEach [a, .Name y p2] X.env = (false, eval a X.env) :: starEach [.Name y p2] X.env := by rfl)
    (hpl : (backTo pos (starEach [.Name y p2] X.env)).any (·.1) = false := by rfl) (hs2 : starEach [.Name y p2] X.env = (false, eval (.Name y p2) X.env) :: starEach [] X.env := by rfl) : DE X cc (.Call (.Name x p) [a, .Name y p2] [] pos) (dIs (isOwn f) da) :=
  de_isA (cv := .ref (cc.C j)) (cu := .ref (cc.C j)) (fun s p e => isOwn_ok F s p e) (pe_glob hgy hmy rfl hdy) (.own _) hg hm hv ha hn hdb he hpl hs2
end
end Rf
set_option Elab.async false
set_option linter.all false
set_option maxRecDepth 100000
set_option maxHeartbeats 1000000
/-! Rf19: == where the left side may be an instance with an own __eq__ -/
namespace Rf
open PySem PySem.Spec L2 PyProof.Rows
/-- what F says of two values, if it says a truth -/
def saysB : FO → Option D
  | .ok (.sh (.bl b)) [] => some (.bl b)
  | _ => none
/-- may y stand on the right of an own __eq__ -/
def rightOk (ok : Nat → Bool) : D → Bool
  | .ins c _ => ok c
  | _ => true
def vEqO (tab : Nat → Option (List DV → FO)) (ok : Nat → Bool) (x y : D) : Option D := match x with
  | .ins c fs => match tab c with
    | some F => if rightOk ok y = true then saysB (F [.sh x, .sh y]) else none
    | none => none
  | _ => vEqS false x y
structure EqM (P : Program) (w : World) (K : PySem.W.Frag) (mg : Str → Option Value) (base : Heap) (C : Nat → Addr) (k : Nat) (tab : Nat → Option (List DV → FO)) (ok : Nat → Bool) : Prop where
  m : Mf P w K mg base C "__eq__" 2 k tab
  nb : ∀ c F, tab c = some F → ∀ T, T ∈ ["NoneType", "bool", "int", "str", "tuple", "list", "dict"] → PySem.W.notFirst K (C c) (.type T) = true
  no : ∀ c F c2, tab c = some F → ok c2 = true → PySem.W.notFirst K (C c) (.ref (C c2)) = true
  ty : ∀ c2, ok c2 = true → Cls K (C c2) ∧ PySem.W.findIn K (.ref (C c2)) "__class__" = some (some (.builtin "object.__class__")) ∧ PySem.W.mroIn K (C c2) (.type "object") = some true
  sp : PySem.W.specialIn K (.builtin "object.__class__") "__get__" = some (some (.builtin "getset_descriptor.__get__"))
  tk : PySem.W.takesIn K (.builtin "object.__class__") = some true
section
variable {X : Cx} {cc : Cc} {k : Nat} {tab : Nat → Option (List DV → FO)} {ok : Nat → Bool}
def rEqI (X : Cx) (C : Nat → Addr) (k : Nat) : R2 := fun x y H Q => ∃ (a Ca dx : Addr) (fl : List (Str × V)) (tb : Value) (f : Addr) (fd : FuncData) (ps : List Str) (F : List DV → FO), x = .ref a ∧ H a = some (.ins Ca dx fl) ∧ Meth X.K Ca "__eq__" f ∧
  FnOk X.prog X.w X.K X.mg X.base (L2.CX X.prog X.w) k f fd ps (spF X.K C 2 F) ∧ Binds X.K fd ps [] ∧ TyX X.K H y tb ∧ PySem.W.notFirst X.K Ca tb = true ∧ spF X.K C 2 F [x, y] H (fun v H' => (∃ b, v = .bl b) ∧ Q v H') E0
def rEqO (X : Cx) (C : Nat → Addr) (k : Nat) : R2 := fun x y H Q => (rEq x y H Q ∨ rEqD X.K x y H Q) ∨ rEqI X C k x y H Q
theorem op_eqO {C : Nat → Addr} (hr : Room k X.A) (hu : X.A.units + 65 < cLine) : OpR X (compareOp .Eq) (rEqO X C k) := by
  intro pi s σ H x y v u Q I rx ry h
  rcases h with h | ⟨a, Ca, dx, fl, tb, f, fd, ps, F, rfl, ha, hm, G, hb, ty, nf, sp⟩
  · exact (op_eq.or (op_eqD (by omega))) pi s σ H x y v u Q I rx ry h
  · obtain rfl : v = Value.ref a := rx
    obtain ⟨mA, J, _⟩ := ins_get I.hok ha
    obtain ⟨od, J, _⟩ := J.look
    obtain ⟨m0, hF⟩ := I.fr
    obtain ⟨Pk, kx, hp, _⟩ := kit_of I ry ty
    show wpAny (model X.prog X.w) X.A (richCompare .Eq (.ref a) u) (EP X pi σ Q) X.xe s
    refine PySem.W.cmp_K (op := .Eq) (tb := tb) hr.units0 hF I.ok.mod.kin J (kx.ty _ _ I.kIn hp) nf hm.at_ hm.fn ?_
    refine wpAny_mono (run_fnS (us := [.ref a, u]) (vs := [.ref a, y]) (E := fun _ => E0) G hr hb (fun pi H s e s' I h => passL pi σ H s e s' I h) I (.cons rfl (.cons ry .nil)) sp) (fun v2 s2 z => ?_) fun _ _ z => z
    obtain ⟨vv, H2, I2, rv, ⟨b, rfl⟩, q⟩ := z
    obtain rfl : v2 = Value.bool b := rv
    exact ⟨.bl b, H2, I2, rfl, q⟩
theorem eqI_of (T : EqM X.prog X.w X.K X.mg X.base cc.C k tab ok) {G H : Hp} {y : V} {dy d : D} {Q : VK} {a d0 : Addr} {c : Nat} {fl : List (Str × V)} {fs : List (Str × D)} (s : Same G H) (hg : G a = some (.ins (cc.C c) d0 fl)) (r : RpF X.K cc.C G fl fs) (py : Rp X.K cc.C G y dy) (e : vEqO tab ok (.ins c fs) dy = some d)
    (kq : ∀ v G' H', Grow G H G' H' → Rp X.K cc.C G' v d → Q v H') : (∃ F, tab c = some F) ∧ rEqI X cc.C k (.ref a) y H Q := by
  have e : (match tab c with
    | some F => if rightOk ok dy = true then saysB (F [.sh (.ins c fs), .sh dy]) else none
    | none => none) = some d := e
  cases ht : tab c with
  | none => rw [ht] at e; cases e
  | some F =>
    rw [ht] at e
    dsimp only at e
    by_cases hh : rightOk ok dy = true
    · rw [if_pos hh] at e
      obtain ⟨f, fd, ps, c1, c2, c3, c4, c5⟩ := T.m.at_ c F ht
      have hty : ∃ tb, TyX X.K H y tb ∧ PySem.W.notFirst X.K (cc.C c) tb = true := by
        cases py with
        | non => exact ⟨_, .base .non, T.nb c F ht _ (by simp)⟩
        | bl b => exact ⟨_, .base (.bl b), T.nb c F ht _ (by simp)⟩
        | int b => exact ⟨_, .base (.int b), T.nb c F ht _ (by simp)⟩
        | str b _ => exact ⟨_, .base (.str b), T.nb c F ht _ (by simp)⟩
        | tup h r => exact ⟨_, sqT_ty (same_seqT s h), T.nb c F ht _ (by simp)⟩
        | lst h r => exact ⟨_, .base (.lst (s _ _ h)), T.nb c F ht _ (by simp)⟩
        | scr h r => exact ⟨_, sqL_ty (Same.seq s h), T.nb c F ht _ (by simp)⟩
        | dic h r => exact ⟨_, .base (.dK (s _ _ h)), T.nb c F ht _ (by simp)⟩
        | @ins a2 dx2 c2 fl2 fs2 h r =>
          obtain ⟨t1, t2, t3⟩ := T.ty c2 hh
          exact ⟨_, .base (.ins (s _ _ h) t1 t2 T.sp T.tk t3), T.no c F c2 ht hh⟩
      obtain ⟨tb, ty, nf⟩ := hty
      refine ⟨⟨F, rfl⟩, a, cc.C c, d0, fl, tb, f, fd, ps, F, rfl, s _ _ hg, c2, c4, c5, ty, nf, [.sh (.ins c fs), .sh dy], H, G, rfl, Same.refl H, s, .sh (.ins hg r) (.sh py .nil), fun i j m m' p h1 => ?_, ?_⟩
      · match i with
        | 0 => simp at h1
        | 1 => simp at h1
        | i + 2 => simp at h1
      · generalize F [.sh (.ins c fs), .sh dy] = o at e ⊢
        match o, e with
        | .ok (.sh (.bl b)) [], e =>
          cases e
          intro xv G' H' ex k1 k2 os hv
          cases hv
          exact ⟨⟨b, rfl⟩, kq _ G' H' ⟨ex.gg, k1, k2, ex.nb⟩ (.bl b)⟩
    · rw [if_neg hh] at e; cases e
theorem v2_eqO (T : EqM X.prog X.w X.K X.mg X.base cc.C k tab ok) : V2 X.K cc.C (vEqO tab ok) (rEqO X cc.C k) := by
  intro G H x y dx dy d Q s px py e kq
  cases px with
  | @ins a d0 c fl fs hg r =>
    right
    exact (eqI_of T s hg r py e kq).2
  | non => exact .inl (v2_eqS s .non py e kq)
  | bl b => exact .inl (v2_eqS s (.bl b) py e kq)
  | int b => exact .inl (v2_eqS s (.int b) py e kq)
  | str b h => exact .inl (v2_eqS s (.str b h) py e kq)
  | tup h r => exact .inl (v2_eqS s (.tup h r) py e kq)
  | lst h r => exact .inl (v2_eqS s (.lst h r) py e kq)
  | scr h r => exact .inl (v2_eqS s (.scr h r) py e kq)
  | dic h r => exact .inl (v2_eqS s (.dic h r) py e kq)
variable {a b : Expr} {da db : ENV → R D} {pos : Pos}
theorem de_eqO (T : EqM X.prog X.w X.K X.mg X.base cc.C k tab ok) (hr : Room k X.A) (hu : X.A.units + 65 < cLine) (ha : DE X cc a da) (hb : DE X cc b db) (hm : behindInMarks .Eq b = false := by rfl) : DE X cc (.Compare a [.Eq] [b] pos) (dOp (vEqO tab ok) da db) := de_cmp (op_eqO hr hu) (v2_eqO T) hm ha hb
theorem dt_eqO (T : EqM X.prog X.w X.K X.mg X.base cc.C k tab ok) (hr : Room k X.A) (hu : X.A.units + 65 < cLine) (ha : DE X cc a da) (hb : DE X cc b db) (hm : behindInMarks .Eq b = false := by rfl) : DT X cc (.Compare a [.Eq] [b] pos) (dT (dOp (vEqO tab ok) da db)) := dt_cmp (op_eqO hr hu) (v2_eqO T) hm ha hb
end
end Rf
set_option Elab.async false
set_option linter.all false
set_option maxRecDepth 100000
set_option maxHeartbeats 1000000
/-! Rf20: != where the left side is an instance with an own __eq__ and no __ne__ -/
namespace PySem
namespace NeK
open PySem.Spec PyProof.Rows Builtin
section
variable {prog : Program} {w : World} {A : Around} {E : Value → Shared → Prop} {s : Shared} {K : W.Frag} {x C f : Addr} {ox : Obj} {od : Option Obj} {b : Value}
theorem bound_ne {M : Model} {args : List Value} {Q : Option Value → Shared → Prop} (X : K.In s.heap) (I : W.InstAt s.heap x ox C od) (hs : W.findIn K (.ref C) "__ne__" = some (some (.builtin "object.__ne__")))
    (h : wpAny M A (call (.builtin "object.__ne__") (.ref x :: args)) (fun v s' => Q (some v) s') E s) : wpAny M A (callSpecialIfBound? (.ref x) "__ne__" args) Q E s := by
  have last : wpAny M A (call (.builtin "object.__ne__") ([.ref x] ++ args) >>= fun v => pure (some v)) Q E s := wpAny_bind (wpAny_mono h (fun _ _ z => wpAny_pure z) fun _ _ z => z)
  simp only [callSpecialIfBound?, bindSpecialIfBound?]
  refine wpAny_holding (wpAny_bind (wpAny_bind (wpAny_bind (I.type.here ((W.looks_findIn X hs).here (wpAny_bind (wpAny_askSetting (wpAny_ite ?_))))))))
  split
  · exact wpAny_bind (wpAny_of_eq (F.cmp_object.ne.bind _) (wpAny_pure (by exact last)))
  · exact wpAny_tryCatch (wpAny_bind (wpAny_of_eq (F.cmp_object.ne.bind _) (wpAny_pure (by exact last))))
theorem body_ne {Q : Fin → Shared → Prop} (hu : A.units < cLine) (X : K.In s.heap) (I : W.InstAt s.heap x ox C od) (he : W.findIn K (.ref C) "__eq__" = some (some (.ref f))) (hf : W.isFn K (.ref f) = true)
    (h : wpAny (model prog w) A (call (.ref f) [.ref x, b]) (fun v s' => ∃ r, v = .bool r ∧ Q (.done (.ret (.bool (!r)))) s') E s) : wpAny (model prog w) A (Builtin.«object.__ne__» ⟨[.ref x, b], []⟩) Q E s := by
  have h2 : wpAny (model prog w) A (callSpecialIfBound? (.ref x) (Str.ofString "__eq__") [b]) (fun o s' => ∃ r, o = some (.bool r) ∧ Q (.done (.ret (.bool (!r)))) s') E s :=
    W.ifBound_K X I he hf (wpAny_mono h (fun v s' z => by obtain ⟨r, rfl, q⟩ := z; exact ⟨r, rfl, q⟩) fun _ _ z => z)
  unfold Builtin.«object.__ne__»
  repeat (first
    | with_reducible refine wpAny_cRoomFor hu ?_
    | (refine wpAny_bind (m := callSpecialIfBound? (.ref x) (Str.ofString "__eq__") [b]) (wpAny_mono h2 (fun o s' z => ?_) fun _ _ z => z))
    | wp_step)
  obtain ⟨r, rfl, q⟩ := z
  repeat (first | exact q | exact wpAny_pure q | exact wpAny_truthy_bool q | (refine wpAny_bind (m := truthy (.bool _)) (wpAny_truthy_bool ?_)) | wp_step)
theorem try_ne {Q : Option Value → Shared → Prop} (hu : A.units + 1 < cLine) (X : K.In s.heap) (I : W.InstAt s.heap x ox C od) (hm : W.mroIn K C (.type "object") = some true) (hs : W.findIn K (.ref C) "__ne__" = some (some (.builtin "object.__ne__")))
    (he : W.findIn K (.ref C) "__eq__" = some (some (.ref f))) (hf : W.isFn K (.ref f) = true)
    (h : wpAny (model prog w) A.in1 (call (.ref f) [.ref x, b]) (fun v s' => ∃ r, v = .bool r ∧ Q (some (.bool (!r))) s') E s) : wpAny (model prog w) A (tryCompare (.ref x) "__ne__" b) Q E s := by
  unfold tryCompare
  refine wpAny_bind (bound_ne X I hs (wpAny_call (codeAny_call_builtin F.cmp_object.ne.plain F.cmpEntry_ne (W.check_slot F.cmpKind_ne F.cmpSplit_ne (I.type.andThen (W.looks_mroIn X hm)) (F.cmpArgs_ne _ _) (body_ne (A := A.in1) hu X I he hf (wpAny_mono h (fun v s' z => ?_) fun _ _ z => z))))))
  obtain ⟨r, rfl, q⟩ := z
  first | exact ⟨r, rfl, wpAny_pure q⟩ | exact ⟨r, rfl, wpAny_pure (wpAny_pure q)⟩ | exact ⟨r, rfl, q⟩
theorem rich_ne {tb : Value} {Q : Value → Shared → Prop} (hu : A.units + 1 < cLine) (X : K.In s.heap) (I : W.InstAt s.heap x ox C od) (hb : W.Looks (model prog w) s.heap (typeOf b) tb) (hn : W.notFirst K C tb = true) (hm : W.mroIn K C (.type "object") = some true)
    (hs : W.findIn K (.ref C) "__ne__" = some (some (.builtin "object.__ne__"))) (he : W.findIn K (.ref C) "__eq__" = some (some (.ref f))) (hf : W.isFn K (.ref f) = true)
    (h : wpAny (model prog w) A.in1 (call (.ref f) [.ref x, b]) (fun v s' => ∃ r, v = .bool r ∧ Q (.bool (!r)) s') E s) : wpAny (model prog w) A (richCompare .NotEq (.ref x) b) Q E s := by
  have one : wpAny (model prog w) A (tryCompare (.ref x) "__ne__" b) (fun o s' => ∃ v, o = some v ∧ Q v s') E s :=
    try_ne hu X I hm hs he hf (wpAny_mono h (fun v s' z => by obtain ⟨r, rfl, q⟩ := z; exact ⟨r, rfl, _, rfl, q⟩) fun _ _ z => z)
  unfold richCompare
  simp only [oneThing_ref]
  refine wpAny_holding (wpAny_bind (wpAny_cRoomFor (Nat.lt_of_succ_lt hu) (wpAny_bind (I.type.here (wpAny_bind (hb.here ?_))))))
  have last : ∀ {o : Option Value} {s' : Shared}, (∃ v, o = some v ∧ Q v s') → ∃ v, o = some v ∧ Q v s' := id
  split
  · rename_i q
    have e : W.subIn K tb (.ref C) = some false := by
      rcases Bool.or_eq_true_iff.mp hn with e | e
      · rw [beq_iff_eq.mp e] at q; simp at q
      · exact beq_iff_eq.mp e
    refine wpAny_bind ((W.looks_subIn X e).here ?_)
    simp only [Bool.false_eq_true, if_false]
    refine wpAny_bind (wpAny_mono one (fun o s' z => ?_) fun _ _ z => z)
    obtain ⟨v, rfl, hq⟩ := last z
    exact wpAny_pure hq
  · refine wpAny_bind (wpAny_pure ?_)
    simp only [Bool.false_eq_true, if_false]
    refine wpAny_bind (wpAny_mono one (fun o s' z => ?_) fun _ _ z => z)
    obtain ⟨v, rfl, hq⟩ := last z
    exact wpAny_pure hq
end
end NeK
end PySem

namespace Rf
open PySem PySem.Spec L2 PyProof.Rows
def negD : D → Option D
  | .bl b => some (.bl !b)
  | _ => none
def vNeO (tab : Nat → Option (List DV → FO)) (ok : Nat → Bool) (x y : D) : Option D := match x with
  | .ins _ _ => (vEqO tab ok x y).bind negD
  | _ => vEqS true x y
structure NeM (K : PySem.W.Frag) (C : Nat → Addr) (tab : Nat → Option (List DV → FO)) : Prop where
  at_ : ∀ c F, tab c = some F → PySem.W.findIn K (.ref (C c)) "__ne__" = some (some (.builtin "object.__ne__")) ∧ PySem.W.mroIn K (C c) (.type "object") = some true
section
variable {X : Cx} {cc : Cc} {k : Nat} {tab : Nat → Option (List DV → FO)} {ok : Nat → Bool}
theorem run_in1 {f : Addr} {fd : FuncData} {ps : List Str} {sp : Sp} {pi : List (Addr × Obj)} {σ : L2.St} {H : Hp} {s : Shared} {Q : VK} {us : List Value} {vs : List V} (F : FnOk X.prog X.w X.K X.mg X.base (L2.CX X.prog X.w) k f fd ps sp) (hr : Room (k + 1) X.A) (hb : Binds X.K fd ps []) (I : Inv X pi σ H s)
    (r : Vals vs us) (h : sp vs H Q E0) : wpAny (model X.prog X.w) X.A.in1 (call (.ref f) us) (EP X pi σ Q) X.xe s := by
  have hl : us.length = ps.length := by rw [← r.length]; exact F.len _ _ _ _ h
  have b := hb s us I.kIn (by rw [List.append_nil]; exact hl)
  rw [List.append_nil] at b
  have e1 : Env0 X.prog X.w X.K X.mg X.base X.A.in1 X.stack s H := by
    have e := I.env0
    exact ⟨e.frames, e.mod, e.bs, e.bsz, e.funs, e.frf, e.hok, e.bare⟩
  refine wpAny_call (codeAny_mono (F.run X.A.in1 X.stack s H ⟨us, []⟩ us vs Q E0 hr.in1 e1 b r h) fun o s' hq => ?_)
  match o, hq with
  | .error e, hq => exact passL pi σ H s e s' I hq
  | .ok (.ret u), hq => exact I.after hq
def rNeO (X : Cx) (C : Nat → Addr) (k : Nat) : R2 := fun x y H Q => (rNe x y H Q ∨ rNeD X.K x y H Q) ∨ ∃ (a Ca dx : Addr) (fl : List (Str × V)) (tb : Value) (f : Addr) (fd : FuncData) (ps : List Str) (F : List DV → FO), x = .ref a ∧ H a = some (.ins Ca dx fl) ∧ Meth X.K Ca "__eq__" f ∧
  FnOk X.prog X.w X.K X.mg X.base (L2.CX X.prog X.w) k f fd ps (spF X.K C 2 F) ∧ Binds X.K fd ps [] ∧ TyX X.K H y tb ∧ PySem.W.notFirst X.K Ca tb = true ∧ (PySem.W.findIn X.K (.ref Ca) "__ne__" = some (some (.builtin "object.__ne__")) ∧ PySem.W.mroIn X.K Ca (.type "object") = some true) ∧
  spF X.K C 2 F [x, y] H (fun v H' => ∃ b, v = .bl b ∧ Q (.bl !b) H') E0
theorem op_neO {C : Nat → Addr} (hr : Room (k + 1) X.A) (hu : X.A.units + 65 < cLine) : OpR X (compareOp .NotEq) (rNeO X C k) := by
  intro pi s σ H x y v u Q I rx ry h
  rcases h with h | ⟨a, Ca, dx, fl, tb, f, fd, ps, F, rfl, ha, hm, G, hb, ty, nf, ⟨hne, hmr⟩, sp⟩
  · exact (op_ne.or (op_neD (by omega))) pi s σ H x y v u Q I rx ry h
  · obtain rfl : v = Value.ref a := rx
    obtain ⟨mA, J, _⟩ := ins_get I.hok ha
    obtain ⟨od, J, _⟩ := J.look
    obtain ⟨Pk, kx, hp, _⟩ := kit_of I ry ty
    show wpAny (model X.prog X.w) X.A (richCompare .NotEq (.ref a) u) (EP X pi σ Q) X.xe s
    refine PySem.NeK.rich_ne (tb := tb) (by omega) I.kIn J (kx.ty _ _ I.kIn hp) nf hmr hne hm.at_ hm.fn ?_
    refine wpAny_mono (run_in1 (us := [.ref a, u]) (vs := [.ref a, y]) G hr hb I (.cons rfl (.cons ry .nil)) sp) (fun v2 s2 z => ?_) fun _ _ z => z
    obtain ⟨vv, H2, I2, rv, b, rfl, q⟩ := z
    obtain rfl : v2 = Value.bool b := rv
    exact ⟨b, rfl, .bl !b, H2, I2, rfl, q⟩
theorem v2_neO (T : EqM X.prog X.w X.K X.mg X.base cc.C k tab ok) (N : NeM X.K cc.C tab) : V2 X.K cc.C (vNeO tab ok) (rNeO X cc.C k) := by
  intro G H x y dx dy d Q s px py e kq
  cases px with
  | @ins a d0 c fl fs hg r =>
    have e : (vEqO tab ok (.ins c fs) dy).bind negD = some d := e
    cases hv : vEqO tab ok (.ins c fs) dy with
    | none => rw [hv] at e; cases e
    | some d1 =>
      rw [hv] at e
      obtain ⟨⟨F0, ht⟩, a', Ca, dx', fl', tb, f, fd, ps, F, e1, e2, c2, c4, c5, ty, nf, sp⟩ := eqI_of T (Q := fun v H' => ∃ b, v = .bl b ∧ Q (.bl !b) H') s hg r py hv (fun v G' H' g p => by
        match d1, e, p with
        | .bl b, e, p =>
          cases p
          cases e
          exact ⟨b, rfl, kq _ G' H' g (.bl !b)⟩)
      cases e1
      have hins : H a = some (.ins (cc.C c) d0 fl) := s _ _ hg
      rw [hins] at e2
      cases e2
      refine .inr ⟨a, _, d0, fl, tb, f, fd, ps, F, rfl, hins, c2, c4, c5, ty, nf, N.at_ c F0 ht, ?_⟩
      obtain ⟨ds, B, G1, h1, h2, h3, h4, h5, h6⟩ := sp
      refine ⟨ds, B, G1, h1, h2, h3, h4, h5, ?_⟩
      revert h6
      cases F ds with
      | ok v ms => exact fun h6 xv G' H' ex k1 k2 os hv => (h6 xv G' H' ex k1 k2 os hv).2
      | exc e ms => exact id
      | bot => exact id
  | non => exact .inl (v2_neS s .non py e kq)
  | bl b => exact .inl (v2_neS s (.bl b) py e kq)
  | int b => exact .inl (v2_neS s (.int b) py e kq)
  | str b h => exact .inl (v2_neS s (.str b h) py e kq)
  | tup h r => exact .inl (v2_neS s (.tup h r) py e kq)
  | lst h r => exact .inl (v2_neS s (.lst h r) py e kq)
  | scr h r => exact .inl (v2_neS s (.scr h r) py e kq)
  | dic h r => exact .inl (v2_neS s (.dic h r) py e kq)
variable {a b : Expr} {da db : ENV → R D} {pos : Pos}
theorem de_neO (T : EqM X.prog X.w X.K X.mg X.base cc.C k tab ok) (N : NeM X.K cc.C tab) (hr : Room (k + 1) X.A) (hu : X.A.units + 65 < cLine) (ha : DE X cc a da) (hb : DE X cc b db) (hm : behindInMarks .NotEq b = false := by rfl) : DE X cc (.Compare a [.NotEq] [b] pos) (dOp (vNeO tab ok) da db) := de_cmp (op_neO hr hu) (v2_neO T N) hm ha hb
theorem dt_neO (T : EqM X.prog X.w X.K X.mg X.base cc.C k tab ok) (N : NeM X.K cc.C tab) (hr : Room (k + 1) X.A) (hu : X.A.units + 65 < cLine) (ha : DE X cc a da) (hb : DE X cc b db) (hm : behindInMarks .NotEq b = false := by rfl) : DT X cc (.Compare a [.NotEq] [b] pos) (dT (dOp (vNeO tab ok) da db)) := dt_cmp (op_neO hr hu) (v2_neO T N) hm ha hb
end
end Rf
set_option Elab.async false
set_option linter.all false
set_option maxRecDepth 100000
set_option maxHeartbeats 1000000
/-! Rf21: enumerate over tuples -/
namespace Rf
open PySem PySem.Spec L2 PyProof.Rows
theorem enum_new1 {v0 : Value} {ob : Obj} {Z : Heap → Prop} (BB : Begins v0 ob Z) :
    Meets (Builtin.«enumerate.__new__» ⟨[.type "enumerate", v0], []⟩) (fun _ R s => Z s.heap ∧ R (.ok (.ret (.ref (s.heap.push ob).objs.size)))
      { s with heap := (s.heap.push ob).push { cls := .type "enumerate", data := .fields #[.none, .bool false, .ref s.heap.objs.size, rawInt 0, .none, .none] } }) :=
  .of_wp fun pg ww AA RR st hst => by
    obtain ⟨hp, gg, dd, tkk, oss⟩ := st; obtain ⟨z1, hst⟩ := hst
    have hsu := sub_enumerate
    have qq : ∀ {A' : Around} {E' Q' : Value → Shared → Prop}, Q' (.ref hp.objs.size) ⟨hp.push ob, gg, dd, tkk, oss⟩ → wpAny (model pg ww) A' (pyIter v0) Q' E' ⟨hp, gg, dd, tkk, oss⟩ :=
      fun q' => BB.iter pg ww _ _ ⟨hp, gg, dd, tkk, oss⟩ _ z1 q'
    wp_walk using qq
    refine wpAny_stack_any fun _ => wpAny_pure ?_
    split
    · rename_i c _ _ _ _ _
      by_cases hc : (c == Value.type "enumerate") = true
      · rw [hc]; wp_walk using qq; exact ⟨_, rfl, hst⟩
      · rw [Bool.eq_false_iff.mpr hc]; wp_walk using qq; exact ⟨_, rfl, hst⟩
    · wp_walk using qq; exact ⟨_, rfl, hst⟩
theorem call_enum1 {pg : Program} {ww : World} {AA : Around} {EE QQ : Value → Shared → Prop} {st : Shared} {v0 : Value} {ob : Obj} {Z : Heap → Prop} (BB : Begins v0 ob Z) (z1 : Z st.heap)
    (hQ : ∀ h', IsEnum h' (st.heap.objs.size + 1) st.heap.objs.size 0 .none → h'.get? st.heap.objs.size = some ob → (∀ b o, st.heap.get? b = some o → h'.get? b = some o) → QQ (.ref (st.heap.objs.size + 1)) { st with heap := h' }) :
    wpAny (model pg ww) AA (call (.type "enumerate") [v0]) QQ EE st := by
  refine callType_new F.called_enumerate (by decide) (F.typeCall_enumerate_1 _) (F.newCall_enumerate_1 _) (fun obj => F.args_object_init_2 obj _) F.entry_enumerate_new (enum_new1 BB) ⟨z1, ?_⟩
  have sz : (st.heap.push ob).objs.size = st.heap.objs.size + 1 := Heap.size_push ..
  show _ ∧ _
  rw [sz]
  have ie : IsEnum ((st.heap.push ob).push { cls := .type "enumerate", data := .fields #[.none, .bool false, .ref st.heap.objs.size, rawInt 0, .none, .none] }) (st.heap.objs.size + 1) st.heap.objs.size 0 .none := by
    have := Heap.get?_push_size (st.heap.push ob) (o := { cls := .type "enumerate", data := .fields #[.none, .bool false, .ref st.heap.objs.size, rawInt 0, .none, .none] }) rfl
    rw [sz] at this; exact this
  exact ⟨⟨_, ie, rfl⟩, hQ _ ie (Heap.get?_push_of_some _ (Heap.get?_push_size _ BB.free)) fun b o x => Heap.get?_push_of_some _ (Heap.get?_push_of_some _ x)⟩
/-- enumerate over the tuple at a -/
def Itet (K : PySem.W.Frag) (a : Addr) : It := ⟨fun i H => ∃ (xs : List V) (x : V), SqT K H a xs ∧ xs[i]? = some x,
  fun i H v H' => ∃ T x, v = .ref T ∧ H T = none ∧ H' = upd H T (.tup [.int (i : Nat), x]) ∧ ∀ xs, SqT K H a xs → xs[i]? = some x, fun i H => ∃ xs : List V, SqT K H a xs ∧ xs.length = i⟩
theorem walk_enumT {K : PySem.W.Frag} {a : Addr} {xs : List V} : Walk (Itet K a) xs.length (fun H => SqT K H a xs) (YPair (fun i => some (.int (i : Nat))) (fun i => xs[i]?)) := by
  refine ⟨fun i _ hi q => ⟨xs, xs[i], q, by simp [hi]⟩, fun _ q => ⟨xs, q, rfl⟩, fun i H v H' _ q y => ?_⟩
  obtain ⟨T, x, h1, h2, h3, h4⟩ := y
  exact ⟨T, .int (i : Nat), x, h1, h2, h3, rfl, h4 xs q⟩
theorem turn_enumT {P : Program} {w : World} {K : PySem.W.Frag} {elts : List Expr} {kk : Nat} {tpos : Pos} (a e it : Addr) :
    Turn P w K (.Tuple elts kk tpos) (Itet K a) [e, it] e (fun i h => (∃ old, IsEnum h e it ((i : Nat) : Int) old) ∧ h.IsTupleIter it a i ∧ e ≠ it) where
  mem := by simp
  obj := fun i h st b hb => by
    obtain ⟨⟨old, he⟩, ⟨o, ho, hc, hd⟩, _⟩ := st
    rcases (show b = e ∨ b = it by simpa using hb) with z | z
    · rw [z]; exact ⟨_, he, fun v q => nomatch q⟩
    · rw [z]; exact ⟨o, ho, fun v q => by rw [hd] at q; cases q⟩
  keep := fun i h h' st k => let ⟨⟨old, he⟩, hi, hne⟩ := st; ⟨⟨old, k e (by simp) _ he⟩, hi.at fun o q => k it (by simp) o q, hne⟩
  item := by
    intro X hP hw hK hc i pins s σ H E I hf st hg
    subst hP hw hK
    obtain ⟨⟨old, he⟩, hit, hne⟩ := st
    obtain ⟨xs, x, hq, hx⟩ := hg
    obtain ⟨its, rv, p, hz⟩ := I.tuple hq
    obtain ⟨u, hu, ru⟩ := rv.get hx
    have p : s.heap.IsTuple a its.toArray := p
    have hel : e < s.heap.objs.size := Heap.lt_size he
    have hil : it < s.heap.objs.size := by obtain ⟨_, q, _⟩ := hit; exact Heap.lt_size q
    have hea : e ≠ a := fun z => by
      subst z
      obtain ⟨o, ho, hc, _⟩ := p
      rw [show s.heap.get? e = _ from he] at ho
      cases ho
      have hc : Value.type "enumerate" = Value.type "tuple" := hc
      exact absurd hc (by decide)
    have hia : a ≠ it := fun z => by
      subst z
      obtain ⟨o, ho, hc, _⟩ := p
      obtain ⟨o2, ho2, hc2, _⟩ := hit
      rw [ho] at ho2
      cases ho2
      rw [hc] at hc2
      exact absurd hc2 (by decide)
    have Dr := Draws.tuple (prog := X.prog) (w := X.w) (A := X.A.in1) (show X.A.in1.handled = none from I.ok.hd hc) it a hia its.toArray
    obtain ⟨hl, hu'⟩ := List.getElem?_eq_some_iff.mp hu
    refine wpAny_pyNext_enum_itemD Dr he ⟨hit, p⟩ (by simpa using hl) hne (by simp [hne, hea]) fun v h' tk hP ho hit' hT hsz hk => ?_
    have hv : v = u := by simpa [hu] using hP.symm
    subst hv
    refine ⟨_, rfl, wpAny_letOwnedTupleGo_enum (s := { s with heap := h', toks := tk + 1 }) ho fun h'' he' sb => ?_⟩
    have hT2 : h''.get? s.heap.objs.size = some { cls := .type "tuple", data := .seq #[.int i tk, v] } := (sb.2 _ (Nat.ne_of_gt hel)).trans hT
    have new : ObjOk X.prog X.w (upd H s.heap.objs.size (.tup [.int (i : Nat), x])) h'' s.heap.objs.size (.tup [.int (i : Nat), x]) :=
      ⟨by show 2 ≤ sizeLine; decide, [.int i tk, v], .cons ⟨_, rfl⟩ (.cons ru .nil), ⟨_, hT2, rfl, _, rfl⟩⟩
    have I1 : Inv X pins σ (upd H s.heap.objs.size (.tup [.int (i : Nat), x])) { s with heap := h'', toks := tk + 1 } :=
      I.turnedNew (ch := [e, it]) (fun b ob hb q => (sb.2 b (fun z => hb (by simp [z]))).trans (hk b ob (fun z => hb (by simp [z])) (fun z => hb (by simp [z])) q)) hf (Nat.le_refl _) new
    refine ⟨.ref s.heap.objs.size, _, I1, rfl, ⟨_, x, rfl, I.hok.fresh (Nat.le_refl _), rfl, fun ys hy => ?_⟩, ⟨⟨v, ?_⟩, hit'.1.at fun o q => (sb.2 it (Ne.symm hne)).trans q, hne⟩, fun b hb => ?_⟩
    · obtain rfl : ys = xs := I.tuple_inj hy hq
      exact hx
    · have e1 : ((i + 1 : Nat) : Int) = (i : Int) + 1 := by omega
      rw [e1]; exact he'
    · have hb' : b < s.heap.objs.size := by
        rcases (show b = e ∨ b = it by simpa using hb) with z | z
        · rw [z]; exact hel
        · rw [z]; exact hil
      rw [upd_ne (Nat.ne_of_lt hb')]
      exact (hf b hb).1
  done := by
    intro X hP hw hK hc i pins s σ H E I hf st hg
    subst hP hw hK
    obtain ⟨⟨old, he⟩, hit, hne⟩ := st
    obtain ⟨xs, hq, hx⟩ := hg
    obtain ⟨its, rv, p, hz⟩ := I.tuple hq
    have p : s.heap.IsTuple a its.toArray := p
    obtain ⟨f0, f1, f2, f3, f4, f5⟩ := hf it (by simp)
    have hl := rv.length
    have hia : a ≠ it := fun z => by
      subst z
      obtain ⟨o, ho, hc, _⟩ := p
      obtain ⟨o2, ho2, hc2, _⟩ := hit
      rw [ho] at ho2
      cases ho2
      rw [hc] at hc2
      exact absurd hc2 (by decide)
    have Dr := Draws.tuple (prog := X.prog) (w := X.w) (A := X.A.in1) (show X.A.in1.handled = none from I.ok.hd hc) it a hia its.toArray
    have hn : its.toArray.size = i := by simp; omega
    exact wpAny_pyNext_enum_endD Dr he ⟨by rw [hn]; exact hit, p⟩ fun h' eb => ⟨rfl, I.turned (t' := s.toks) (fun b o hb q => eb b o hb q) f0 f1 f3 f4 f5⟩
  self := fun A i s Q E st h => let ⟨⟨_, he⟩, _⟩ := st; wpAny_pyIter_enum he h
def iEnumT (K : PySem.W.Frag) (ta : TA) : TI := fun σ H R => ta σ H fun vs H1 => ∃ a, vs = [.ref a] ∧ ((∃ xs, SqL K H1 a xs ∧ R (Ite K a) H1) ∨ ∃ xs, SqT K H1 a xs ∧ R (Itet K a) H1)
theorem pi_enumT {X : Cx} {e : Expr} {ta : TA} {p pos tpos : Pos} {elts : List Expr} {kk : Nat} (hg : Gl X "enumerate") (hm : X.mg "enumerate" = none) (ha : PA X [e] ta) (hs : starEach [e] X.env = [(false, eval e X.env)] := by rfl) :
    PI X (.Tuple elts kk tpos) (.Call (.Name "enumerate" p) [e] [] pos) (iEnumT X.K ta) := by
  refine ⟨fun pins s σ H R I h => ?_⟩
  refine Call_ (ld_blt I hg hm boot_enumerate (PyProof.Rows.callWith_type1 (thn (ha.run pos pins s σ H _ I h) fun us s1 ⟨vs, H1, I1, r1, q1⟩ => ?_) hs rfl))
  obtain ⟨a, ex, q⟩ := q1
  subst ex
  cases r1 with
  | cons r rr =>
    cases rr
    cases r
    rcases q with ⟨xs, hq, q⟩ | ⟨xs, hq, q⟩
    · obtain ⟨its, rv, p', hz⟩ := I1.list hq
      refine call_enum1 (begins_list a its.toArray) p'.isList fun h' he hit hk => wpAny_pyIter_enum he ?_
      have I2 : Inv X pins σ H1 { s1 with heap := h' } := I1.kept (t' := s1.toks) hk
      refine ⟨s1.heap.objs.size + 1, [s1.heap.objs.size + 1, s1.heap.objs.size], _, _, H1, rfl, I2, turn_enum a (s1.heap.objs.size + 1) s1.heap.objs.size, ⟨⟨.none, he⟩, ⟨_, hit, rfl, rfl⟩, Nat.succ_ne_self _⟩, fun b hb => ?_, q⟩
      have hle : s1.heap.objs.size ≤ b := by
        rcases (show b = s1.heap.objs.size + 1 ∨ b = s1.heap.objs.size by simpa using hb) with z | z
        · rw [z]; exact Nat.le_add_right _ _
        · rw [z]; exact Nat.le_refl _
      exact I1.fpOk hle (I1.hok.fresh hle)
    · obtain ⟨its, rv, p', hz⟩ := I1.tuple hq
      refine call_enum1 (begins_tuple a its.toArray) (show s1.heap.IsTuple a its.toArray from p') fun h' he hit hk => wpAny_pyIter_enum he ?_
      have I2 : Inv X pins σ H1 { s1 with heap := h' } := I1.kept (t' := s1.toks) hk
      refine ⟨s1.heap.objs.size + 1, [s1.heap.objs.size + 1, s1.heap.objs.size], _, _, H1, rfl, I2, turn_enumT a (s1.heap.objs.size + 1) s1.heap.objs.size, ⟨⟨.none, he⟩, ⟨_, hit, rfl, rfl⟩, Nat.succ_ne_self _⟩, fun b hb => ?_, q⟩
      have hle : s1.heap.objs.size ≤ b := by
        rcases (show b = s1.heap.objs.size + 1 ∨ b = s1.heap.objs.size by simpa using hb) with z | z
        · rw [z]; exact Nat.le_add_right _ _
        · rw [z]; exact Nat.le_refl _
      exact I1.fpOk hle (I1.hok.fresh hle)
theorem wk_enumT {K : PySem.W.Frag} {C : Nat → Addr} {G : Hp} {a : Addr} {xs : List V} {ds : List D} (h : SqT K G a xs) (r : RpL K C G xs ds) : Wk K C G (Itet K a) (pairs ds) := by
  refine ⟨_, _, by rw [pairs_len, ← r.length]; exact walk_enumT (xs := xs), fun G2 H2 s s2 => same_seqT s2 (same_seqT s h), fun i G2 H2 x H3 hi s s2 y => ?_⟩
  obtain ⟨T, u, v, rfl, nT, rfl, e1, e2⟩ := y
  cases e1
  obtain ⟨d, hd, p⟩ := r.getV e2
  have g := Grow.new (o := .tup [V.int (i : Nat), v]) s2 nT
  refine ⟨.tup [.int (i : Nat), d], _, ?_, g, .tup (.inl (.inl upd_same)) (.cons (.int _) (.cons ((p.mono s).mono g.gg) .nil))⟩
  unfold pairs
  rw [List.getElem?_mapIdx, hd]
  rfl
def enumKT : D → ENV → R (List D) := fun x ρ1 => match x with
  | .lst ds => .ok (pairs ds) ρ1
  | .scr ds => .ok (pairs ds) ρ1
  | .tup ds => .ok (pairs ds) ρ1
  | _ => .bot
def dEnumT (da : ENV → R D) : ENV → R (List D) := fun ρ => (da ρ).bind enumKT
theorem di_enumT {X : Cx} {cc : Cc} {a : Expr} {da : ENV → R D} {pos p tpos : Pos} {elts : List Expr} {kk : Nat} (hg : Gl X "enumerate") (hm : X.mg "enumerate" = none) (ha : DE X cc a da) (hs : starEach [a] X.env = [(false, eval a X.env)] := by rfl)
    (hs2 : starEach [a] X.env = (false, eval a X.env) :: starEach [] X.env := by rfl) : DI X cc (.Tuple elts kk tpos) (.Call (.Name "enumerate" p) [a] [] pos) (dEnumT da) := by
  refine PI.imp (pi_enumT hg hm (pa_cons ha pa_nil hs2) hs) fun σ H Q ⟨B, ρ, G, R0, h⟩ => ⟨B, ρ, G, R0, Post.bind (V2 := fun G' J ds => Wk X.K cc.C G' J ds) h fun d1 ρ1 G1 H1 x e1 R1 p1 h1 => ?_⟩
  cases p1 with
  | lst h r => exact ⟨_, rfl, .inl ⟨_, .inl (.inl (R1.gk _ _ h)), h1 _ G1 H1 (Ext.refl _ _) R1 (wk_enum (.inl (.inl h)) r)⟩⟩
  | scr h r => exact ⟨_, rfl, .inl ⟨_, Same.seq R1.gk h, h1 _ G1 H1 (Ext.refl _ _) R1 (wk_enum h r)⟩⟩
  | tup h r => exact ⟨_, rfl, .inr ⟨_, same_seqT R1.gk h, h1 _ G1 H1 (Ext.refl _ _) R1 (wk_enumT h r)⟩⟩
  | _ => exact h1.elim
end Rf
set_option Elab.async false
set_option linter.all false
set_option maxRecDepth 100000
set_option maxHeartbeats 1000000
/-! Rf22: d.get(k) of a written dict, a list's item at a truth, repr, a text times a number, isinstance with two classes -/
namespace Rf
open PySem PySem.Spec L2 PyProof.Rows
/-! ### a written dict of texts -/
inductive RelD : D → Value → Prop
  | int (i : Int) (t : Tok) : RelD (.int i) (.int i t)
  | str (x : Str) (t : Tok) (h : x.length ≤ sizeLine) : RelD (.str x) (.str x t)
inductive KRows : List DictEntry → List (Str × D) → Prop
  | nil : KRows [] []
  | cons {h : Int} {x : Str} {t : Tok} {v : Value} {d : D} {es : List DictEntry} {tab : List (Str × D)} (q : RelD d v) (r : KRows es tab) : KRows (⟨h, .str x t, v⟩ :: es) ((x, d) :: tab)
structure KTb (K : PySem.W.Frag) (a : Addr) (tab : List (Str × D)) : Prop where
  low : (a == sysModules) = false
  ex : ∃ (es : Array DictEntry) (n : Nat), K.lookup a = some ⟨.type "dict", none, .dict es n, #[]⟩ ∧ KRows es.toList tab
def lkS (k : Str) : List (Str × D) → Option D
  | [] => none
  | (x, d) :: r => if k = x then some d else lkS k r
def kD (tab : List (Str × D)) : List (Str × KTD.Dat) := tab.map fun p => (p.1, .flat p.2.toPy)
theorem KRows.rows {h : Heap} : ∀ {es : List DictEntry} {tab : List (Str × D)}, KRows es tab → KTD.Rows (KTD.Dat.At h) es (kD tab)
  | _, _, .nil => .nil
  | _, _, .cons q r => by
    refine .cons rfl ?_ r.rows
    cases q with
    | int i t => exact PyProof.V.Flat.int i t
    | str x t _ => exact PyProof.V.Flat.str x t
theorem KRows.each {h : Heap} {k : Str} {P : Value → Prop} {els : Prop} : ∀ {es : List DictEntry} {tab : List (Str × D)}, KRows es tab → (∀ d u, lkS k tab = some d → RelD d u → P u) → (lkS k tab = none → els) → KTD.Each h k P els (kD tab)
  | _, _, .nil, _, h2 => h2 rfl
  | _, _, @KRows.cons _ x _ v d _ tab q r, h1, h2 => by
    unfold lkS at h1 h2
    show (if decide (k = x) = true then KTD.Opened h P (.flat d.toPy) else KTD.Each h k P els (kD tab))
    by_cases e : k = x
    · rw [if_pos (decide_eq_true e)]
      simp only [if_pos e] at h1
      cases q with
      | int i t => exact fun t' => h1 _ _ rfl (.int i t')
      | str y t hy => exact fun t' => h1 _ _ rfl (.str y t' hy)
    · rw [if_neg (by simp [e])]
      simp only [if_neg e] at h1 h2
      exact r.each h1 h2
def vOf : D → V
  | .int i => .int i
  | .str x => .str x
  | _ => .non
def tKGet (tab : List (Str × D)) (te : TE) : TE := fun σ H Q => te σ H fun y H2 => ∃ k, y = .str k ∧ (∀ v, (∀ d u, lkS k tab = some d → RelD d u → v = vOf d) → (lkS k tab = none → v = .non) → Q v H2)
theorem pe_kget {X : Cx} {o e : Expr} {te : TE} {a : Addr} {tab : List (Str × D)} {apos cpos : Pos} (T : KTb X.K a tab) (ho : PE X o (tC (.ref a))) (he : PE X e te) (m : M1 X o "get" apos e cpos) : PE X (.Call (.Attribute o "get" apos) [e] [] cpos) (tKGet tab te) := by
  refine ⟨fun pins s σ H Q I h => ?_⟩
  obtain ⟨es, n, hk, hr⟩ := T.ex
  have here : ∀ {H' : Hp} {s' : Shared}, L2.Inv X pins σ H' s' → KTD.Here s'.heap s'.heap a (kD tab) := fun J => ⟨⟨T.low, _, es, n, J.kIn _ _ hk, ⟨rfl, rfl, rfl⟩, rfl, hr.rows⟩, fun _ _ z => z⟩
  refine wpAny_Call_method m.base m.few m.line PySem.F.plainAttrs_dict PySem.F.slot_dict_get PySem.F.type_dict_get (thn (ho.run pins s σ H (fun x H1 => x = .ref a ∧ tKGet tab te σ H1 Q) I ⟨rfl, h⟩) fun u s1 ⟨x, H1, I1, rx, ex, q1⟩ => ?_)
  subst ex
  obtain rfl : u = Value.ref a := rx
  refine ⟨(here I1).typeIs, (here I1).noDict, ?_⟩
  rw [m.trees]
  refine Calls.callWith_builtin rfl (Calls.evalArgs_plain (Calls.spliced_cons (thn (he.run pins s1 σ H1 _ I1 q1) fun iv s2 ⟨y, H2, I2, ry, k, ek, q2⟩ => Calls.spliced_nil ?_)))
  subst ek
  obtain ⟨t, rfl⟩ := ry
  refine KTD.get1_text (here I2) (hr.each (fun d u hd hu => ?_) fun hn => ?_)
  · have q3 := q2 (vOf d) (fun d' u' e' _ => by rw [hd] at e'; cases e'; rfl) (fun e' => by rw [hd] at e'; cases e')
    cases hu with
    | int i t => exact ⟨.int i, H2, I2.tok _, ⟨_, rfl⟩, q3⟩
    | str x t hx => exact ⟨.str x, H2, I2.tok _, ⟨_, rfl⟩, q3⟩
  · exact ⟨.non, H2, I2.tok _, rfl, q2 .non (fun d' u' e' _ => by rw [hn] at e'; cases e') fun _ => rfl⟩
def getK (tab : List (Str × D)) : D → ENV → R D := fun x ρ1 => match x with
  | .str k => .ok ((lkS k tab).getD .non) ρ1
  | _ => .bot
def dGetK (tab : List (Str × D)) (da : ENV → R D) : ENV → R D := fun ρ => (da ρ).bind (getK tab)
theorem KRows.at_ {k : Str} {d : D} : ∀ {es : List DictEntry} {tab : List (Str × D)}, KRows es tab → lkS k tab = some d → ∃ u, RelD d u
  | _, _, .nil, e => nomatch e
  | _, _, @KRows.cons _ x _ v d _ tab q r, e => by
    unfold lkS at e
    by_cases z : k = x
    · rw [if_pos z] at e; cases e; exact ⟨_, q⟩
    · rw [if_neg z] at e; exact r.at_ e
theorem de_kget {X : Cx} {cc : Cc} {x : Str} {e : Expr} {a : Addr} {tab : List (Str × D)} {de : ENV → R D} {p apos cpos : Pos} (T : KTb X.K a tab) (hg : Gl X x) (hm : X.mg x = some (.ref a)) (he : DE X cc e de) (m : M1 X (.Name x p) "get" apos e cpos)
    (hd : (x == ("__debug__" : Str)) = false := by decide) : DE X cc (.Call (.Attribute (.Name x p) "get" apos) [e] [] cpos) (dGetK tab de) := by
  refine PE.imp (pe_kget T (pe_glob hg hm rfl hd) he m) fun σ H Q ⟨B, ρ, G, R0, h⟩ => ⟨B, ρ, G, R0, h.bind fun d1 ρ1 G1 H1 y e1 R1 p1 h1 => ?_⟩
  cases p1 with
  | str k hk =>
    refine ⟨k, rfl, fun v h2 h3 => ?_⟩
    obtain ⟨es, n, _, hr⟩ := T.ex
    cases hl : lkS k tab with
    | none =>
      have h1 : Post X.K cc (Rp X.K cc.C) B G1 σ Q (.ok ((lkS k tab).getD .non) ρ1) := h1
      rw [hl] at h1
      rw [h3 hl]
      exact h1 .non G1 H1 (Ext.refl _ _) R1 .non
    | some d =>
      have h1 : Post X.K cc (Rp X.K cc.C) B G1 σ Q (.ok ((lkS k tab).getD .non) ρ1) := h1
      rw [hl] at h1
      obtain ⟨u, hu⟩ := hr.at_ hl
      rw [h2 d u hl hu]
      cases hu with
      | int i t => exact h1 (.int i) G1 H1 (Ext.refl _ _) R1 (.int i)
      | str z t hz => exact h1 (.str z) G1 H1 (Ext.refl _ _) R1 (.str z hz)
  | _ => exact h1.elim
/-! ### xs[truth] -/
theorem list_sub_bool {M : Model} {A : Around} {E : Value → Shared → Prop} {s : Shared} {b : Bool} {Q : Option Int → Shared → Prop} (h : Q (some (if b then 1 else 0)) s) : wpAny M A (Builtin.List.listSubscript? (.bool b)) Q E s := by
  unfold Builtin.List.listSubscript?
  refine wpAny_bind (wpAny_specialOf (T := "bool") (PySem.typeIs_bool s b) F.slot_bool_index.lookup ?_)
  show wpAny M A (asIndex (.bool b) >>= _) Q E s
  refine wpAny_bind (wpAny_of_eq (a := if b then 1 else 0) (by cases b <;> rfl) ?_)
  show wpAny M A (if (!Builtin.List.listFitsIndex (if b then 1 else 0)) = true then _ else _) Q E s
  rw [if_neg (by cases b <;> decide)]
  exact wpAny_pure h
theorem getItem_list_bool {prog : Program} {w : World} {A : Around} {E : Value → Shared → Prop} {s : Shared} {l : Addr} {items : Array Value} {b : Bool} {x : Value} {Q : Value → Shared → Prop} (hl : s.heap.IsList l items)
    (hx : items[if b then 1 else 0]? = some x) (h : Q x s) : wpAny (model prog w) A (getItem (.ref l) (.bool b)) Q E s := by
  obtain ⟨o, ho, hc, ne, hd⟩ := id hl
  unfold getItem
  try with_reducible refine wpAny_holding ?_
  first | refine wpAny_bind (wpAny_pure ?_) | skip
  refine wpAny_bind (wpAny_sequenceKey hl.typeIs (by decide) ?_)
  refine wpAny_bind (wpAny_callSpecial?_slot (name := Str.ofString "__getitem__") hl.typeIs slot_list_getitem (wpAny_call_entry slot_list_getitem hl.typeIs entry_list_getitem ?_ (args_list_getitem _ _)))
  show wpAny _ _ (Builtin.List.listSubscript? (.bool b) >>= _) _ _ s
  refine wpAny_bind (list_sub_bool ?_)
  have e : ((if b then 1 else 0 : Int)) = ((if b then 1 else 0 : Nat) : Int) := by cases b <;> rfl
  rw [e]
  show wpAny _ _ ((seqItemAt l (if b then 1 else 0) >>= fun r => pure (r.map ((if b then 1 else 0), ·))) >>= _) _ _ s
  refine wpAny_bind (wpAny_bind (wpAny_seqItemAt ho hd (wpAny_pure ?_)))
  rw [hx]
  first
    | exact wpAny_bind (wpAny_pure (wpAny_pure ⟨x, rfl, wpAny_pure h⟩))
    | exact wpAny_pure ⟨x, rfl, wpAny_pure h⟩
def rIxLB (K : PySem.W.Frag) : R2 := fun x y H Q => ∃ p xs b z, x = .ref p ∧ y = .bl b ∧ SqL K H p xs ∧ xs[if b then 1 else 0]? = some z ∧ Q z H
theorem ix_listB {X : Cx} : IxR X (rIxLB X.K) := by
  intro value slice pins s σ H x y v u Q I rx ry h hs
  obtain ⟨p, xs, b, z, rfl, rfl, hq, he, q⟩ := h
  cases rx
  cases ry
  obtain ⟨its, r, pl, hz⟩ := I.list hq
  obtain ⟨w, ew, rw'⟩ := r.get he
  exact subscriptTail_builtinR (x := w) pl.isList.typeIs slot_list_getitem.lookup (getItem_list_bool (Q := fun r s' => r = w ∧ EP X pins σ Q r s') pl.isList (by simpa using ew) ⟨rfl, z, H, I, rw', q⟩) hs
def vIxB : D → D → Option D
  | .lst ds, .bl b => ds[if b then 1 else 0]?
  | _, _ => none
theorem v2_ixB {K : PySem.W.Frag} {C : Nat → Addr} : V2 K C vIxB (rIxLB K) := by
  intro G H x y dx dy d Q s px py e k
  cases px with
  | lst h r =>
    cases py with
    | bl b =>
      obtain ⟨z, h1, h2⟩ := r.get (show _ = some d from e)
      exact ⟨_, _, b, z, rfl, rfl, .inl (.inl (s _ _ h)), h1, Grow.here s k h2⟩
    | _ => cases e
  | _ => cases py <;> cases e
theorem de_ixB {X : Cx} {cc : Cc} {a b : Expr} {da db : ENV → R D} {pos : Pos} (ha : DE X cc a da) (hb : DE X cc b db) (hs : PlainIx b := by intro _ _; rfl) : DE X cc (.Subscript a b pos) (dOp vIxB da db) := PE.imp (pe_ix ix_listB ha hb hs) (op_core v2_ixB)
/-! ### repr -/
def rRepr : List V → Hp → VK → Prop := fun xs H Q => (∃ i, xs = [.int i] ∧ i.natAbs.log2 < 1920 ∧ Q (.str (toString i)) H) ∨ ∃ z, xs = [.str z] ∧ (reprText z).length ≤ sizeLine ∧ Q (.str (reprText z)) H
theorem call_reprS {X : Cx} : CallR X (.builtin "repr") rRepr := by
  intro pins s σ H xs us Q I r h
  rcases h with ⟨i, rfl, hz, q⟩ | ⟨z, rfl, hz, q⟩
  · obtain ⟨u, rfl, t, rfl⟩ := vals1 r
    exact PySem.P.repr_of_int hz ⟨.str _, H, I.tok _, ⟨_, rfl⟩, q⟩
  · obtain ⟨u, rfl, t, rfl⟩ := vals1 r
    exact PySem.P.repr_of_str ⟨.str _, H, I.tok _, ⟨_, rfl⟩, q⟩ hz
def fRepr : List D → Option D
  | [.int i] => if i.natAbs.log2 < 1920 ∧ (toString i : Str).length ≤ sizeLine then some (.str (toString i)) else none
  | [.str z] => if (reprText z).length ≤ sizeLine then some (.str (reprText z)) else none
  | _ => none
theorem vb_repr {K : PySem.W.Frag} {C : Nat → Addr} : VB K C fRepr rRepr := by
  intro G H xs ds d Q s r e k
  cases r with
  | nil => cases e
  | cons h t =>
    cases t with
    | cons _ _ => cases h <;> cases e
    | nil =>
      cases h with
      | int i =>
        have e : (if i.natAbs.log2 < 1920 ∧ (toString i : Str).length ≤ sizeLine then some (D.str (toString i)) else none) = some d := e
        split at e
        · rename_i q; cases e; exact .inl ⟨i, rfl, q.1, Grow.here s k (.str _ q.2)⟩
        · cases e
      | str z hz =>
        have e : (if (reprText z).length ≤ sizeLine then some (D.str (reprText z)) else none) = some d := e
        split at e
        · rename_i q; cases e; exact .inr ⟨z, rfl, q, Grow.here s k (.str _ q)⟩
        · cases e
      | _ => cases e
/-! ### text * number -/
def repS (z : Str) (n : Nat) : Str := ⟨(List.replicate n z.cps).foldl (· ++ ·) #[]⟩
def rMulS : R2 := fun x y H Q => ∃ z n, x = .str z ∧ y = .int n ∧ 1 < n ∧ n < 2 ^ 24 ∧ 0 < z.length ∧ z.length * n.toNat ≤ sizeLine ∧ (repS z n.toNat).length ≤ sizeLine ∧ Q (.str (repS z n.toNat)) H
theorem op_mulS {X : Cx} : OpR X (binaryOp .Mult) rMulS := by
  intro pins s σ H x y v u Q I rx ry h
  obtain ⟨z, n, rfl, rfl, h1, h2, h3, h4, h5, q⟩ := h
  obtain ⟨t, rfl⟩ := rx
  obtain ⟨t', rfl⟩ := ry
  have hz : (z.length : Int) ≤ 2 ^ 24 := by
    have : z.length ≤ z.length * n.toNat := Nat.le_mul_of_pos_right _ (by omega)
    rw [sizeLine_eq] at h4
    omega
  refine PySem.P.mul_str ?_ (fun _ _ => ?_) (fun _ _ => ?_) ?_
  · rw [decide_eq_false (by omega), decide_eq_false (by omega)]; rfl
  · have h6 : (2 ^ 24 : Int) ≤ (2 ^ 63 - 1) / n := by
      rw [Int.le_ediv_iff_mul_le (by omega)]
      have : (2 ^ 24 : Int) * n ≤ 2 ^ 24 * 2 ^ 24 := Int.mul_le_mul_of_nonneg_left (by omega) (by decide)
      omega
    omega
  · exact decide_eq_false (Nat.not_lt.mpr h4)
  · rw [if_neg (by omega), if_neg (by simp; omega)]
    exact ⟨h5, .str _, H, I.tok _, ⟨_, rfl⟩, q⟩
def vMulS : D → D → Option D
  | .str z, .int n => if 1 < n ∧ n < 2 ^ 24 ∧ 0 < z.length ∧ z.length * n.toNat ≤ sizeLine ∧ (repS z n.toNat).length ≤ sizeLine then some (.str (repS z n.toNat)) else none
  | _, _ => none
theorem v2_mulS {K : PySem.W.Frag} {C : Nat → Addr} : V2 K C vMulS rMulS := by
  intro G H x y dx dy d Q s px py e k
  cases px with
  | str z hz =>
    cases py with
    | int n =>
      have e : (if 1 < n ∧ n < 2 ^ 24 ∧ 0 < z.length ∧ z.length * n.toNat ≤ sizeLine ∧ (repS z n.toNat).length ≤ sizeLine then some (D.str (repS z n.toNat)) else none) = some d := e
      split at e
      · rename_i q; cases e; exact ⟨z, n, rfl, rfl, q.1, q.2.1, q.2.2.1, q.2.2.2.1, q.2.2.2.2, Grow.here s k (.str _ q.2.2.2.2)⟩
      · cases e
    | _ => cases e
  | _ => cases py <;> cases e
theorem de_mulS {X : Cx} {cc : Cc} {a b : Expr} {da db : ENV → R D} {pos : Pos} (ha : DE X cc a da) (hb : DE X cc b db) : DE X cc (.BinOp a .Mult b pos) (dOp vMulS da db) := de_op op_mulS v2_mulS ha hb
/-! ### isinstance(a, (y1, y2)) -/
def or2 (f g : D → Option Bool) : D → Option Bool := fun d => match f d, g d with
  | some a, some b => some (a || b)
  | _, _ => none
theorem de_is2 {X : Cx} {cc : Cc} {x y1 y2 : Str} {a : Expr} {da : ENV → R D} {p p1 p2 p3 pos : Pos} {k : Nat} {f1 f2 : D → Option Bool} {cv1 cv2 : V} {cu1 cu2 : Value}
    (hf : ∀ {G H : Hp} {v : V} {d : D} {b1 b2 : Bool}, Same G H → Rp X.K cc.C G v d → f1 d = some b1 → f2 d = some b2 → ∃ t, TyX X.K H v t ∧ PySem.W.kitOne X.K t cu1 = some b1 ∧ PySem.W.kitOne X.K t cu2 = some b2)
    (hc1 : PE X (.Name y1 p1) (tC cv1)) (hk1 : ClsV cv1 cu1) (hc2 : PE X (.Name y2 p2) (tC cv2)) (hk2 : ClsV cv2 cu2) (hg : Gl X x) (hm : X.mg x = none) (hv : bootBuiltins x = some (.builtin "isinstance")) (ha : DE X cc a da)
    (hn : x ≠ "__name__" := by decide) (hdb : (x == ("__debug__" : Str)) = false := by decide)
    (he : starEach [a, .Tuple [.Name y1 p1, .Name y2 p2] k p3] X.env = (false, eval a X.env) :: starEach [.Tuple [.Name y1 p1, .Name y2 p2] k p3] X.env := by rfl)
    (hpl : (backTo pos (starEach [.Tuple [.Name y1 p1, .Name y2 p2] k p3] X.env)).any (·.1) = false := by rfl)
    (hs2 : starEach [.Tuple [.Name y1 p1, .Name y2 p2] k p3] X.env = (false, eval (.Tuple [.Name y1 p1, .Name y2 p2] k p3) X.env) :: starEach [] X.env := by rfl)
    (hs3 : starEach [.Name y1 p1, .Name y2 p2] X.env = (false, eval (.Name y1 p1) X.env) :: starEach [.Name y2 p2] X.env := by rfl) (hs4 : starEach [.Name y2 p2] X.env = (false, eval (.Name y2 p2) X.env) :: starEach [] X.env := by rfl) :
    DE X cc (.Call (.Name x p) [a, .Tuple [.Name y1 p1, .Name y2 p2] k p3] [] pos) (dIs (or2 f1 f2) da) := by
  refine PE.imp (pe_callB call_isiT hg hm hv (pa_cons ha (pa_cons (pe_tup (pa_cons hc1 (pa_cons hc2 pa_nil hs4) hs3)) pa_nil hs2) he) hn hdb he hpl) fun σ H Q ⟨B, ρ, G, R0, h⟩ => ⟨B, ρ, G, R0, h.bind fun d1 ρ1 G1 H1 v e1 R1 p1 h1 => ?_⟩
  cases hb1 : f1 d1 with
  | none => simp only [or2, hb1, Option.map_none] at h1; exact h1.elim
  | some b1 =>
    cases hb2 : f2 d1 with
    | none => simp only [or2, hb1, hb2, Option.map_none] at h1; exact h1.elim
    | some b2 =>
      simp only [or2, hb1, hb2, Option.map_some] at h1
      refine ⟨by rw [sizeLine_eq]; show 2 ≤ _; decide, fun tp htp => ?_⟩
      have sG : Same G1 (upd H1 tp (.tup [cv1, cv2])) := R1.gk.trans (same_upd htp)
      obtain ⟨t, ht, hko, hko2⟩ := hf sG p1 hb1 hb2
      refine ⟨v, tp, [cv1, cv2], t, [cu1, cu2], b1 || b2, rfl, upd_same, .cons hk1 (.cons hk2 .nil), ht, ?_, Post.fin h1 R1 (Ext.refl _ _) (Grow.newO R1.gk htp) (.bl _)⟩
      refine kitAny_cons hko (fun e => ?_) (fun e => by rw [e]; rfl)
      subst e
      refine kitAny_cons hko2 (fun e => ?_) (fun e => by rw [e]; rfl)
      subst e
      exact kitAny_nil
theorem isTy2_ok {K : PySem.W.Frag} {C : Nat → Addr} {T1 T2 : String} {G H : Hp} {v : V} {d : D} {b1 b2 : Bool} (s : Same G H) (p : Rp K C G v d) (e1 : isTy T1 d = some b1) (e2 : isTy T2 d = some b2) :
    ∃ t, TyX K H v t ∧ PySem.W.kitOne K t (.type T1) = some b1 ∧ PySem.W.kitOne K t (.type T2) = some b2 := by
  cases p with
  | non => exact ⟨_, .base .non, kit_ty e1, kit_ty e2⟩
  | bl b => exact ⟨_, .base (.bl b), kit_ty e1, kit_ty e2⟩
  | int b => exact ⟨_, .base (.int b), kit_ty e1, kit_ty e2⟩
  | str b _ => exact ⟨_, .base (.str b), kit_ty e1, kit_ty e2⟩
  | tup h r => exact ⟨_, sqT_ty (same_seqT s h), kit_ty e1, kit_ty e2⟩
  | lst h r => exact ⟨_, .base (.lst (s _ _ h)), kit_ty e1, kit_ty e2⟩
  | scr h r => exact ⟨_, sqL_ty (Same.seq s h), kit_ty e1, kit_ty e2⟩
  | dic h r => exact ⟨_, .base (.dK (s _ _ h)), kit_ty e1, kit_ty e2⟩
  | ins h r => cases e1
theorem de_isT2 {X : Cx} {cc : Cc} {T1 T2 : String} {x y1 y2 : Str} {a : Expr} {da : ENV → R D} {p p1 p2 p3 pos : Pos} {k : Nat} (hg : Gl X x) (hm : X.mg x = none) (hv : bootBuiltins x = some (.builtin "isinstance")) (hg1 : Gl X y1) (hm1 : X.mg y1 = none) (hv1 : bootBuiltins y1 = some (.type T1))
    (hg2 : Gl X y2) (hm2 : X.mg y2 = none) (hv2 : bootBuiltins y2 = some (.type T2)) (ha : DE X cc a da)
    (hn : x ≠ "__name__" := by decide) (hdb : (x == ("__debug__" : Str)) = false := by decide) (hn1 : y1 ≠ "__name__" := by decide) (hdb1 : (y1 == ("__debug__" : Str)) = false := by decide) (hn2 : y2 ≠ "__name__" := by decide) (hdb2 : (y2 == ("__debug__" : Str)) = false := by decide)
    (he : starEach [a, .Tuple [.Name y1 p1, .Name y2 p2] k p3] X.env = (false, eval a X.env) :: starEach [.Tuple [.Name y1 p1, .Name y2 p2] k p3] X.env := by rfl)
    (hpl : (backTo pos (starEach [.Tuple [.Name y1 p1, .Name y2 p2] k p3] X.env)).any (·.1) = false := by rfl)
    (hs2 : starEach [.Tuple [.Name y1 p1, .Name y2 p2] k p3] X.env = (false, eval (.Tuple [.Name y1 p1, .Name y2 p2] k p3) X.env) :: starEach [] X.env := by rfl)
    (hs3 : starEach [.Name y1 p1, .Name y2 p2] X.env = (false, eval (.Name y1 p1) X.env) :: starEach [.Name y2 p2] X.env := by rfl) (hs4 : starEach [.Name y2 p2] X.env = (false, eval (.Name y2 p2) X.env) :: starEach [] X.env := by rfl) :
    DE X cc (.Call (.Name x p) [a, .Tuple [.Name y1 p1, .Name y2 p2] k p3] [] pos) (dIs (or2 (isTy T1) (isTy T2)) da) :=
  de_is2 (cv1 := .ty T1) (cv2 := .ty T2) (cu1 := .type T1) (cu2 := .type T2) (fun s p e1 e2 => isTy2_ok s p e1 e2) (pe_bltn hg1 hm1 hv1 rfl hn1 hdb1) (.ty T1) (pe_bltn hg2 hm2 hv2 rfl hn2 hdb2) (.ty T2) hg hm hv ha hn hdb he hpl hs2 hs3 hs4
theorem relS (x : Str) (t : Tok) : RelV (.str x) (.str x t) := ⟨t, rfl⟩
theorem relI (x : Int) (t : Tok) : RelV (.int x) (.int x t) := ⟨t, rfl⟩
/-- a written dict of the module -/
structure KG (K : PySem.W.Frag) (mg : Str → Option Value) (x : Str) (tab : List (Str × D)) : Prop where
  ex : ∃ a, mg x = some (.ref a) ∧ KTb K a tab
theorem de_kgetG {X : Cx} {cc : Cc} {x : Str} {e : Expr} {tab : List (Str × D)} {de : ENV → R D} {p apos cpos : Pos} (T : KG X.K X.mg x tab) (hg : Gl X x) (he : DE X cc e de) (m : M1 X (.Name x p) "get" apos e cpos)
    (hd : (x == ("__debug__" : Str)) = false := by decide) : DE X cc (.Call (.Attribute (.Name x p) "get" apos) [e] [] cpos) (dGetK tab de) := by
  obtain ⟨a, hm, t⟩ := T.ex
  exact de_kget t hg hm he m hd
end Rf
set_option Elab.async false
set_option linter.all false
set_option maxRecDepth 100000
set_option maxHeartbeats 4000000
/-! Rf23: several except clauses, some of them with 'as' -/
namespace Rf
open PySem PySem.Spec L2 PyProof.Rows
/-- an except clause: its class, its name's slot, what its suite asks -/
abbrev HdE := Value × Option Nat × (Addr → Value → Option Addr → TS)
def hdT : Option Nat → (Addr → Value → Option Addr → TS) → Addr → Value → Option Addr → TS
  | none, ts, a, cls, d => ts a cls d
  | some i, ts, a, cls, d => fun D σ H => ts a cls d { nx := fun σ' H' => D.nx (σ'.set i none) H', rt := D.rt, bk := fun σ' H' => D.bk (σ'.set i none) H', ct := fun σ' H' => D.ct (σ'.set i none) H' } (σ.set i (some (.ref a))) H
def wMany2 (K : PySem.W.Frag) (Wout : WX) (D : Ends) : List HdE → WX
  | [] => Wout
  | (c, o, ts) :: r => fun cls d σ H => ∃ b, PySem.W.exmOne K cls c = some b ∧ (b = true → ∀ a, H a = none → hdT o ts a cls d D σ H) ∧ (b = false → wMany2 K Wout D r cls d σ H)
inductive Hds2 (X : Cx) : List ExceptHandler → List HdE → Prop
  | nil : Hds2 X [] []
  | consP {x : Str} {c : Value} {ts : Addr → Value → Option Addr → TS} {b₀ : Stmt} {suite : List Stmt} {np pos' : Pos} {hds : List ExceptHandler} {l : List HdE} (hc : Names X x c)
      (hsu : ∀ (ad : Addr) (ox : Obj) (cl : Value) (dd : Option Addr) (pn : List (Addr × Obj)), Zc cl dd ox → (∃ vs, ox.data = .fields vs) → PSs (X.suite ad ((ad, ox) :: pn)) (b₀ :: suite) (ts ad cl dd)) (r : Hds2 X hds l) :
      Hds2 X (.ExceptHandler (some (.Name x np)) none (b₀ :: suite) pos' :: hds) ((c, none, ts) :: l)
  | consA {x n : Str} {c : Value} {i : Nat} {ts : Addr → Value → Option Addr → TS} {b₀ : Stmt} {suite : List Stmt} {np pos' : Pos} {hds : List ExceptHandler} {l : List HdE} (hc : Names X x c) (hi : X.N[i]? = some n) (hln : X.env.kindOf n = some .local)
      (hsu : ∀ (ad : Addr) (ox : Obj) (cl : Value) (dd : Option Addr) (pn : List (Addr × Obj)), Zc cl dd ox → (∃ vs, ox.data = .fields vs) → PSs (X.suite ad ((ad, ox) :: pn)) (b₀ :: suite) (ts ad cl dd)) (r : Hds2 X hds l) :
      Hds2 X (.ExceptHandler (some (.Name x np)) (some n) (b₀ :: suite) pos' :: hds) ((c, some i, ts) :: l)
section
variable {X : Cx} {body : List Stmt} {h₀ : ExceptHandler} {hds : List ExceptHandler} {l : List HdE} {pos : Pos} {tb : WX → TS} {Wout : WX}
theorem ps_try_many2 (hs : X.stack = X.env :: X.outer) (hf : X.env.frame = some X.env.locals) (hN : X.N.Nodup) (tk : Takes X Wout)
    (hb : ∀ (W : WX) (pns : List (Addr × Obj)) (xe : Value → Shared → Prop), Takes (X.tr pns xe) W → PassesOwn (model X.prog X.w) X.A X.env xe → PSs (X.tr pns xe) body (tb W))
    (hh : Hds2 X (h₀ :: hds) l) : PS X (.Try body (h₀ :: hds) [] [] pos) (fun D σ H => tb (wMany2 X.K Wout D l) D σ H) := by
  refine ⟨fun pz s σ H D I h => ?_⟩
  have ok := I.ok
  have hfq : X.A.frames = some (X.env :: X.outer) := by rw [ok.frames, hs]
  refine wpAny_Try_except ?_
  refine wpAny_mono ((hb (wMany2 X.K Wout D l) (X.pn ++ pz) (fun e s₁ => wpAny (model X.prog X.w) X.A (noteFrame e X.env) (fun _ s₂ => wpAny (model X.prog X.w) X.A (setFlight e none) (fun _ s₃ =>
    wpAny (model X.prog X.w) X.A (handleBy e X.env (h₀ :: hds)) (SP X pz D) X.xe s₃) X.xe s₂) X.xe s₁) (fun u s' cx => ?_) PassesOwn.looking).run [] s σ H D (I.toTry _) h) (fun f s1 hend => ?_) (fun e s1 he => he)
  · -- the catch
    obtain ⟨a, B, sz1, pins', σ', H', cls, d, rfl, J', nbq, upq, sk, na, osq, agr, w⟩ := cx
    have J : Inv X pz σ' H' sz1 := J'.ofTry ok
    have sky' : Sky B (X.env :: X.outer) a (Zc cls d) X.env.locals s'.heap := by rw [← hs]; exact sk
    show wpAny (model X.prog X.w) X.A (noteFrame (Value.ref a) X.env) _ _ _
    refine Sky.land Zc.steady hfq hf sky' fun hp3 fw3 uq3 => ?_
    have Jt : Inv X pz σ' H' { s' with heap := hp3 } := J.landed nbq fw3.1 (upq.trans uq3) osq agr
    obtain ⟨ob3, vz3, hq3, hy3, hw3⟩ := fw3.there
    have notF : ∀ {h : Heap} {o : Obj} {vs : Array Value}, h.FunFrames B (X.env :: X.outer) → h.get? a = some o → o.data = .fields vs → a ∉ frs (X.env :: X.outer) := fun {h o vs} ffq e dd hm => by
      obtain ⟨_, on, en, hnq⟩ := ffq.mem hm
      rw [e] at en; cases en
      exact hnq _ dd
    have nfq := notF fw3.2.2.1 hq3 hw3
    have nlc : a ≠ X.env.locals := fun z => nfq (List.mem_filterMap.mpr ⟨X.env, List.mem_cons_self, by rw [hf, z]⟩)
    have nfs : a ∉ X.fs := fun hm => by
      obtain ⟨ev, hev, q⟩ := List.mem_filterMap.mp hm
      exact nfq (List.mem_filterMap.mpr ⟨ev, List.mem_cons_of_mem _ hev, q⟩)
    have Su3 := Jt.suite hq3 hw3 na nlc nfs
    have go : ∀ {hds' : List ExceptHandler} {l' : List HdE}, Hds2 X hds' l' → wMany2 X.K Wout D l' cls d σ' H' →
        wpAny (model X.prog X.w) X.A (handleBy (.ref a) X.env hds') (SP X pz D) X.xe { s' with heap := hp3 } := by
      intro hds' l' hk
      induction hk with
      | nil =>
        intro w
        refine wpAny_handleBy_nil ?_
        obtain ⟨k1, k2, k3, oe, vs, Tb, oT, ts', he, hz, hd, hh1, hr⟩ := id fw3
        unfold PySem.passOn
        refine wpAny_bind (wpAny_field he hd hh1 ?_)
        rw [if_neg (show ¬ ((Value.ref Tb == Value.none) = true) from by simp)]
        have fiq : wpAny (model X.prog X.w) X.A (setFlight (.ref a) X.env.frame) (fun _ s4 => wpAny (model X.prog X.w) X.A (throw (.ref a) : Sem Flow) (SP X pz D) X.xe s4) X.xe { s' with heap := hp3 } := by
          rw [hf]
          refine HandSPX.setFlight_upZ fw3 fun hp4 hh4 uq4 => wpAny_throw (tk _ _ ?_)
          exact ⟨a, B, sz1, pz, σ', H', cls, d, rfl, J, nbq, (upq.trans uq3).trans uq4, .inr (.inr (by rw [hs]; exact hh4)), na, osq, agr, w⟩
        first
          | exact wpAny_bind (wpAny_pure (wpAny_bind fiq))
          | exact wpAny_bind fiq
      | @consP x c ts b₀ suite np pos' hdr2 l2 hc hsu r ih =>
        intro w
        obtain ⟨b, hbq, hyes, hno⟩ := w
        refine wpAny_handleBy_cons (codeAny_handlers_test ?_) (by intro qq; cases qq)
        have Lty : PySem.W.Looks (model X.prog X.w) hp3 (typeOf (.ref a)) cls := fun A Q E s k q => wpAny_typeOf_ref (k _ _ hq3) (by rw [hy3.1]; exact q)
        have Lma := PySem.W.exm_one (M := model X.prog X.w) (Jt.kIn) Lty hbq
        have test : ∀ {Q : Value → Shared → Prop} {E : Value → Shared → Prop}, Q c { s' with heap := hp3 } → wpAny (model X.prog X.w) (X.A.mark (some (.ref a))) (eval (.Name x np) X.env) Q E { s' with heap := hp3 } := fun {Q E} q => by
          obtain ⟨hg, hdq, hm | ⟨hm, hv, hnn⟩⟩ := hc
          · exact ld_glob (X := X.suite a ((a, ob3) :: (X.pn ++ pz))) Su3 hg hm q hdq
          · exact ld_blt (X := X.suite a ((a, ob3) :: (X.pn ++ pz))) Su3 hg hm hv q hnn hdq
        refine test (Lma.here ?_)
        cases b with
        | true =>
          refine (codeAny_handlers_suite ?_)
          refine HandSPX.lands_againZ fw3 fun hp4 fw4 uq4 => ?_
          have Jf : Inv X pz σ' H' { s' with heap := hp4 } := J.landed nbq fw4.1 ((upq.trans uq3).trans uq4) osq agr
          obtain ⟨ob4, vz4, hq4, hy4, hw4⟩ := fw4.there
          have Sf := Jf.suite hq4 hw4 na nlc nfs
          refine wpAny_mono ((hsu a ob4 cls d (X.pn ++ pz) hy4 ⟨_, hw4⟩).run [] _ _ H' _ Sf (hyes rfl a na)) (fun f sx6 hend => ?_) (fun _ _ z => False.elim z)
          cases f with
          | next =>
            obtain ⟨σx, Hx, Sx, qx⟩ := hend
            exact ⟨_, _, Sx.unsuite ok, qx⟩
          | brk =>
            obtain ⟨σx, Hx, Sx, qx⟩ := hend
            exact ⟨_, _, Sx.unsuite ok, qx⟩
          | cont =>
            obtain ⟨σx, Hx, Sx, qx⟩ := hend
            exact ⟨_, _, Sx.unsuite ok, qx⟩
          | ret u =>
            obtain ⟨vx, σx, Hx, Sx, rx6, qx⟩ := hend
            exact ⟨_, _, _, Sx.unsuite ok, rx6, qx⟩
        | false =>
          show wpAny _ X.A (handleBy (.ref a) X.env hdr2) _ _ _
          exact ih (hno rfl)
      | @consA x n c i ts b₀ suite np pos' hdr2 l2 hc hi hln hsu r ih =>
        intro w
        have hlq : Loc X.env.scope n := .inl hln
        obtain ⟨b, hbq, hyes, hno⟩ := w
        refine wpAny_handleBy_cons (codeAny_handlers_test ?_) (by intro qq; cases qq)
        have Lty : PySem.W.Looks (model X.prog X.w) hp3 (typeOf (.ref a)) cls := fun A Q E s k q => wpAny_typeOf_ref (k _ _ hq3) (by rw [hy3.1]; exact q)
        have Lma := PySem.W.exm_one (M := model X.prog X.w) (Jt.kIn) Lty hbq
        have test : ∀ {Q : Value → Shared → Prop} {E : Value → Shared → Prop}, Q c { s' with heap := hp3 } → wpAny (model X.prog X.w) (X.A.mark (some (.ref a))) (eval (.Name x np) X.env) Q E { s' with heap := hp3 } := fun {Q E} q => by
          obtain ⟨hg, hdq, hm | ⟨hm, hv, hnn⟩⟩ := hc
          · exact ld_glob (X := X.suite a ((a, ob3) :: (X.pn ++ pz))) Su3 hg hm q hdq
          · exact ld_blt (X := X.suite a ((a, ob3) :: (X.pn ++ pz))) Su3 hg hm hv q hnn hdq
        refine test (Lma.here ?_)
        cases b with
        | true =>
          refine (codeAny_handlers_suite_as ?_)
          refine HandSPX.lands_againZ fw3 fun hp4 fw4 uq4 => ?_
          have Jf : Inv X pz σ' H' { s' with heap := hp4 } := J.landed nbq fw4.1 ((upq.trans uq3).trans uq4) osq agr
          obtain ⟨ob4, vz4, hq4, hy4, hw4⟩ := fw4.there
          have Sf := Jf.suite hq4 hw4 na nlc nfs
          refine store_ok (X := X.suite a ((a, ob4) :: (X.pn ++ pz))) (v := .ref a) Sf hN hi hlq rfl (fun sv5 Sv5 => ?_) (.inr hln)
          refine wpAny_mono ((hsu a ob4 cls d (X.pn ++ pz) hy4 ⟨_, hw4⟩).run [] sv5 _ H' _ Sv5 (hyes rfl a na)) (fun f sx6 hend => ?_) (fun _ _ z => False.elim z)
          have end_ : ∀ {σx : L2.St} {Hx : Hp} {Q : Shared → Prop}, Inv (X.suite a ((a, ob4) :: (X.pn ++ pz))) [] σx Hx sx6 → (∀ ss7, Inv X pz (σx.set i none) Hx ss7 → Q ss7) →
              wpAny (model X.prog X.w) X.A (do bindName X.env n .none; unbindBehindTheSuite X.env n pos') (fun _ ss7 => Q ss7) X.xe sx6 := fun {σx Hx Q} Sx hq => gone_ok (Sx.unsuite ok) hN hi hln hq
          cases f with
          | next =>
            obtain ⟨σx, Hx, Sx, qx⟩ := hend
            exact end_ Sx fun ss7 Js => ⟨_, _, Js, qx⟩
          | brk =>
            obtain ⟨σx, Hx, Sx, qx⟩ := hend
            exact end_ Sx fun ss7 Js => ⟨_, _, Js, qx⟩
          | cont =>
            obtain ⟨σx, Hx, Sx, qx⟩ := hend
            exact end_ Sx fun ss7 Js => ⟨_, _, Js, qx⟩
          | ret u =>
            obtain ⟨vx, σx, Hx, Sx, rx6, qx⟩ := hend
            exact end_ Sx fun ss7 Js => ⟨_, _, _, Js, rx6, qx⟩
        | false =>
          show wpAny _ X.A (handleBy (.ref a) X.env hdr2) _ _ _
          exact ih (hno rfl)
    exact go hh w
  · cases f with
    | next =>
      obtain ⟨σ', H', Jn, q⟩ := hend
      exact wpAny_execs_nil ⟨σ', H', Jn.ofTry ok, q⟩
    | brk =>
      obtain ⟨σ', H', Jn, q⟩ := hend
      exact ⟨σ', H', Jn.ofTry ok, q⟩
    | cont =>
      obtain ⟨σ', H', Jn, q⟩ := hend
      exact ⟨σ', H', Jn.ofTry ok, q⟩
    | ret u =>
      obtain ⟨v, σ', H', Jn, r, q⟩ := hend
      exact ⟨v, σ', H', Jn.ofTry ok, r, q⟩
end
/-! ### the statement -/
abbrev HdD := Nat × Option Nat × (EX → ENV → R Fl)
def hdR (sub : Nat → Nat → Option Bool) : List HdD → EX → ENV → R Fl
  | [], e, ρ => .exc e ρ
  | (c, o, ss) :: r, e, ρ => match sub e.c c with
    | some true => match o with
      | none => match ss e ρ with
        | .ok f ρ2 => .ok f ρ2
        | _ => .bot
      | some i => if i < ρ.length then match ss e (ρ.set i none) with
        | .ok f ρ2 => .ok f (ρ2.set i none)
        | _ => .bot else .bot
    | some false => hdR sub r e ρ
    | none => .bot
def sTryM (sub : Nat → Nat → Option Bool) (sb : ENV → R Fl) (hs : List HdD) : ENV → R Fl := fun ρ => match sb ρ with
  | .exc e ρ1 => hdR sub hs e ρ1
  | r => r
/-- a clause of the text and its meaning -/
inductive HdsD (X : Cx) (cc : Cc) : List ExceptHandler → List HdD → Prop
  | nil : HdsD X cc [] []
  | pl {x : Str} {c : Nat} {b₀ : Stmt} {suite : List Stmt} {np pos' : Pos} {hds : List ExceptHandler} {l : List HdD} {ss : ENV → R Fl} (hc : Names X x (.ref (cc.C c)))
      (hsu : ∀ (ad : Addr) (ox : Obj) (pn : List (Addr × Obj)), DSs (X.suite ad ((ad, ox) :: pn)) cc.quiet (b₀ :: suite) ss) (r : HdsD X cc hds l) : HdsD X cc (.ExceptHandler (some (.Name x np)) none (b₀ :: suite) pos' :: hds) ((c, none, fun _ => ss) :: l)
  | as_ {x n : Str} {c i : Nat} {b₀ : Stmt} {suite : List Stmt} {np pos' : Pos} {hds : List ExceptHandler} {l : List HdD} {ss : EX → ENV → R Fl} (hc : Names X x (.ref (cc.C c)))
      (hsu : ∀ (e : EX) (ad : Addr) (ox : Obj) (d : Option Addr) (pn : List (Addr × Obj)) (G0 : Hp), Zc (.ref (cc.C e.c)) d ox → (∃ vs, ox.data = .fields vs) → ERp X.K cc.C G0 e (.ref (cc.C e.c)) d → DSs (X.suite ad ((ad, ox) :: pn)) (cc.hold i ad G0) (b₀ :: suite) (ss e)) (r : HdsD X cc hds l)
      (hi : X.N[i]? = some n := by rfl) (hln : X.env.kindOf n = some .local := by rfl) (hp : cc.pr.contains i = false := by rfl) : HdsD X cc (.ExceptHandler (some (.Name x np)) (some n) (b₀ :: suite) pos' :: hds) ((c, some i, ss) :: l)
def tsOf (X : Cx) (cc : Cc) : HdD → HdE
  | (c, none, ss) => (.ref (cc.C c), none, fun _ _ _ => rS X.K cc.quiet (ss ⟨0, []⟩))
  | (c, some i, ss) => (.ref (cc.C c), some i, fun a cls d D σ H => ∃ z : EX × Hp, (cls = .ref (cc.C z.1.c) ∧ ERp X.K cc.C z.2 z.1 cls d) ∧ rS X.K (cc.hold i a z.2) (ss z.1) D σ H)
theorem HdsD.hds {X : Cx} {cc : Cc} : ∀ {hds : List ExceptHandler} {l : List HdD}, HdsD X cc hds l → Hds2 X hds (l.map (tsOf X cc))
  | _, _, .nil => .nil
  | _, _, .pl hc hsu r => .consP hc (fun ad ox cl dd pn _ _ => hsu ad ox pn) r.hds
  | _, _, .as_ hc hsu r hi hln _ => .consA hc hi hln (fun ad ox cls d pn hz hfl => pss_ex fun z hzz => by obtain ⟨rfl, er⟩ := hzz; exact hsu z.1 ad ox d pn z.2 hz hfl er) r.hds
section
variable {X : Cx} {cc : Cc} {sub : Nat → Nat → Option Bool} {pos : Pos}
theorem hd_core {D : Ends} (hsub : ∀ i j b, sub i j = some b → PySem.W.exmOne X.K (.ref (cc.C i)) (.ref (cc.C j)) = some b) {B G G' : Hp} {H' : Hp} {ρ1 : ENV} {σ' : L2.St} {e : EX} {dd : Option Addr} (ex : Ext B G G') (R : Rl X.K cc B ρ1 σ' G' H') (er : ERp X.K cc.C G' e (.ref (cc.C e.c)) dd) :
    ∀ {hds : List ExceptHandler} {l : List HdD}, HdsD X cc hds l → PostS X.K cc B G D (hdR sub l e ρ1) → wMany2 X.K cc.W D (l.map (tsOf X cc)) (.ref (cc.C e.c)) dd σ' H' := by
  intro hds l hk
  induction hk with
  | nil => exact fun h => h _ _ _ _ _ ex R er
  | @pl x c b₀ suite np pos' hds l ss hc hsu r ih =>
    intro h
    cases hq : sub e.c c with
    | none => simp only [hdR, hq] at h; exact h.elim
    | some b =>
      refine ⟨b, hsub _ _ _ hq, fun hb a _ => ?_, fun hb => ?_⟩
      · subst hb
        simp only [hdR, hq] at h
        refine ⟨B, ρ1, G', R.toW _, ?_⟩
        have h := PostS.ext h ex
        show PostS X.K cc.quiet B G' _ (ss ρ1)
        cases hss : ss ρ1 with
        | bot => rw [hss] at h; exact h
        | exc _ _ => rw [hss] at h; exact h.elim
        | ok f ρ2 => rw [hss] at h; exact PostS.toW h fun e ρ q => by cases q
      · subst hb
        simp only [hdR, hq] at h
        exact ih h
  | @as_ x n c i b₀ suite np pos' hds l ss hc hsu r hi hln hp ih =>
    intro h
    have hpn : i ∉ cc.pr := Rf.np hp
    cases hq : sub e.c c with
    | none => simp only [hdR, hq] at h; exact h.elim
    | some b =>
      refine ⟨b, hsub _ _ _ hq, fun hb a _ => ?_, fun hb => ?_⟩
      · subst hb
        simp only [hdR, hq] at h
        obtain ⟨hlt, h⟩ := ite_postS h
        refine ⟨(e, G'), ⟨rfl, er⟩, B, ρ1.set i none, G', R.enter hlt, ?_⟩
        have h := PostS.ext h ex
        cases hss : ss e (ρ1.set i none) with
        | bot => rw [hss] at h; exact h
        | exc _ _ => rw [hss] at h; exact h.elim
        | ok f ρ2 =>
          rw [hss] at h
          exact PostS.leave h hpn R.kg
      · subst hb
        simp only [hdR, hq] at h
        exact ih h
theorem ds_try_m {body : List Stmt} {h₀ : ExceptHandler} {hds : List ExceptHandler} {l : List HdD} {sb : ENV → R Fl} (hs : X.stack = X.env :: X.outer) (hf : X.env.frame = some X.env.locals) (hN : X.N.Nodup) (tk : Takes X cc.W)
    (hsub : ∀ i j b, sub i j = some b → PySem.W.exmOne X.K (.ref (cc.C i)) (.ref (cc.C j)) = some b)
    (hb : ∀ (W : WX) (pn : List (Addr × Obj)) (xe : Value → Shared → Prop), Takes (X.tr pn xe) W → PassesOwn (model X.prog X.w) X.A X.env xe → DSs (X.tr pn xe) { cc with W := W } body sb)
    (hh : HdsD X cc (h₀ :: hds) l) : DS X cc (.Try body (h₀ :: hds) [] [] pos) (sTryM sub sb l) := by
  refine PS.imp (ps_try_many2 (tb := fun W => rS X.K { cc with W := W } sb) hs hf hN tk (fun W pn xe tk' po => hb W pn xe tk' po) hh.hds) fun Dn σ H ⟨B, ρ, G, R0, h⟩ => ⟨B, ρ, G, R0.toW _, ?_⟩
  unfold sTryM at h
  cases hr : sb ρ with
  | bot => rw [hr] at h; exact h
  | ok f ρ1 =>
    rw [hr] at h
    exact PostS.toW h fun e ρ q => by cases q
  | exc e ρ1 =>
    rw [hr] at h
    dsimp only at h
    refine fun cl dd σ' G' H' ex R er => ?_
    obtain ⟨rfl, _⟩ := id er
    exact hd_core hsub ex R.ofW er hh h
end
end Rf
set_option Elab.async false
set_option linter.all false
set_option maxRecDepth 100000
set_option maxHeartbeats 1000000
/-! Rf24: a def whose last parameter has a default; xs.index(text) -/
namespace Rf
open PySem PySem.Spec L2 PyProof.Rows
section
variable {P : Program} {w : World} {K : PySem.W.Frag} {mg : Str → Option Value} {base : Heap} {C : Nat → Addr}
/-- a def of the module whose last parameter has a default -/
structure DfD (K : PySem.W.Frag) (mg : Str → Option Value) (C : Nat → Addr) (x : Str) (st : Stmt) (ps : List Str) (d : D) : Prop where
  ex : ∃ (f : Addr) (fd : FuncData) (v : V) (ds : List Value), FunD K x x (defArgs st) (defBody st) (defScope st) [v] [] f fd ∧ mg x = some (.ref f) ∧ Binds K fd ps [] ∧ Binds K fd ps ds ∧ Vals [v] ds ∧ ∀ G, Rp K C G v d
theorem vals_nil {ds : List Value} (h : Vals [] ds) : ds = [] := by cases h; rfl
/-- the default is () -/
theorem dfd_tup {h : Heap} {x : Str} {st : Stmt} {ps : List Str} {f T e0 : Addr} {oc : Value} {od an odT ode : Option Addr} {osl slT sle : Array (Option Value)} {kV doc pm cdv ct : Value} {nT ne : Nat} (X : K.In h) (G : h.Ns mainGlobals mg)
    (a : PySem.W.nsIn K mainGlobals x = some (some (.ref f))) (l : K.lookup f = some ⟨oc, od, .func (PySem.W.fnOf x x (defArgs st) (defBody st) (defScope st) (.ref T) kV doc pm an cdv ct), osl⟩)
    (c : PySem.W.codeIn K cdv x = true) (k : PySem.W.keepIn K (.ref f) = true) (lT : K.lookup T = some ⟨.type "tuple", odT, .seq #[.ref e0] nT, slT⟩) (le : K.lookup e0 = some ⟨.type "tuple", ode, .seq #[] ne, sle⟩) (n : Nat) (hn : n + 1 = ps.length)
    (hb1 : ∀ (T : Addr) (kV doc pm : Value) (an : Option Addr) (cdv ct : Value) (us its : List Value), us.length = ps.length → its.length = 1 → ∃ k, bindArgs (PySem.W.fnOf x x (defArgs st) (defBody st) (defScope st) (.ref T) kV doc pm an cdv ct) ⟨us, []⟩ = seqItems? (.ref T) >>= k ∧ k (some its.toArray) = pure (ps.zip (us ++ its.drop 1)))
    (hb0 : ∀ (T : Addr) (kV doc pm : Value) (an : Option Addr) (cdv ct : Value) (us its : List Value), us.length = n → its.length = 1 → ∃ k, bindArgs (PySem.W.fnOf x x (defArgs st) (defBody st) (defScope st) (.ref T) kV doc pm an cdv ct) ⟨us, []⟩ = seqItems? (.ref T) >>= k ∧ k (some its.toArray) = pure (ps.zip (us ++ its.drop 0))) :
    DfD K mg C x st ps (.tup []) := by
  have F : FunD K x x (defArgs st) (defBody st) (defScope st) [.ref e0] [] f (PySem.W.fnOf x x (defArgs st) (defBody st) (defScope st) (.ref T) kV doc pm an cdv ct) :=
    ⟨⟨oc, od, .ref T, kV, doc, pm, an, cdv, ct, osl, rfl, l, c, .inr ⟨by simp, T, _, [.ref e0], nT, rfl, lT, rfl, .cons rfl .nil⟩, .inl rfl⟩, k⟩
  obtain ⟨d1, v1, b1⟩ := F.binds1 ps.length 1 (by simp) (by simp) hb1
  obtain ⟨d0, v0, b0⟩ := F.binds1 n 0 (by simp) (by simpa using hn) hb0
  have e1 := vals_nil v1
  subst e1
  exact ⟨f, _, .ref e0, d0, F, PySem.W.mg_of X G a, b1, b0, v0, fun _ => .tup (.inr ⟨_, _, _, le, rfl, rfl, (by rw [sizeLine_eq]; show 0 ≤ _; decide), .nil⟩) .nil⟩
structure FkD (P : Program) (w : World) (K : PySem.W.Frag) (mg : Str → Option Value) (base : Heap) (C : Nat → Addr) (x : Str) (n k : Nat) (F : List DV → FO) (d : D) : Prop where
  ex : ∃ (f : Addr) (fd : FuncData) (ps : List Str) (v : V) (ds : List Value), ps.length = n ∧ FnOk P w K mg base (L2.CX P w) k f fd ps (spF K C n F) ∧ mg x = some (.ref f) ∧ PySem.W.keepIn K (.ref f) = true ∧ Binds K fd ps [] ∧ Binds K fd ps ds ∧ Vals [v] ds ∧ ∀ G, Rp K C G v d
theorem FkD.mono {x : Str} {n k k' : Nat} {F : List DV → FO} {d : D} (h : FkD P w K mg base C x n k F d) (hk : k ≤ k') : FkD P w K mg base C x n k' F d := by
  obtain ⟨f, fd, ps, v, ds, h1, h2, h3⟩ := h.ex
  exact ⟨f, fd, ps, v, ds, h1, h2.mono hk, h3⟩
theorem FkD.fk {x : Str} {n k : Nat} {F : List DV → FO} {d : D} (h : FkD P w K mg base C x n k F d) : Fk P w K mg base C x n k F := by
  obtain ⟨f, fd, ps, v, ds, h1, h2, h3, h4, h5, _⟩ := h.ex
  exact ⟨f, fd, ps, h1, h2, h3, h4, h5⟩
theorem fkd_of {x : Str} {st : Stmt} {N ps : List Str} {k : Nat} {d : D} (D0 : DfD K mg C x st ps d) (S : FnScope N ps (defScope st)) (pr : List Nat) {den : ENV → R Fl} (hlen : ps.length ≤ N.length)
    (hb : ∀ (f : Addr) (cdv : Value) (A : Around) (outer : List Env) (s : Shared) (H : Hp) (E : XK) (ad : Nat → Addr), Room k (A.deeper (PyProof.Rows.envOfC x (defScope st) s.heap.objs.size f cdv)) →
      DSs (cxOf (L2.CX P w) P w K mg base N x (defScope st) f cdv A outer s H E) ⟨C, fun cl d _ H => E cl d H, pr, ad, fun _ => none⟩ (defBody st) den) : FkD P w K mg base C x ps.length (k + 1) (runF pr N.length den) d := by
  obtain ⟨f, fd, v, ds, F, hm, h0, h1, h2, h3⟩ := D0.ex
  exact ⟨f, fd, ps, v, ds, rfl, fn_core (fun _ l h => F.ok S l h) pr hlen (hb f), hm, F.kp, h0, h1, h2, h3⟩
end
section
variable {X : Cx} {cc : Cc} {dr : ENV → R (List Ag)} {pos p : Pos} {x : Str} {F : List DV → FO} {n : Nat} {d : D}
/-- the default behind the arguments -/
def defK (d : D) (as : List Ag) : ENV → R (List Ag) := fun ρ => .ok (as ++ [.inl d]) ρ
def aDef (d : D) (dr : ENV → R (List Ag)) : ENV → R (List Ag) := fun ρ => (dr ρ).bind (defK d)
theorem AgR.snoc {K : PySem.W.Frag} {C : Nat → Addr} {σ : L2.St} {G : Hp} {v : V} (h : Rp K C G v d) : ∀ {vs : List V} {as : List Ag}, AgR K C σ G vs as → AgR K C σ G (vs ++ [v]) (as ++ [.inl d])
  | _, _, .nil => .sh h .nil
  | _, _, .sh a r => .sh a (r.snoc h)
  | _, _, .io a r => .io a (r.snoc h)
theorem call_readD {σ : L2.St} {H : Hp} {Q : V → Hp → Prop} {v : V} (hv : ∀ G, Rp X.K cc.C G v d) (hn : Many n dr) {B G : Hp} {ρ : ENV} (R0 : Rl X.K cc B ρ σ G H) (h : PostV X.K cc B G σ Q ((aDef d dr ρ).bind (stepR F))) : tCallSD (spF X.K cc.C (n + 1) F) [v] (WE cc.W) (rAg X.K cc dr) σ H Q := by
  refine ⟨B, ρ, G, R0, ?_⟩
  unfold aDef at h
  cases hd : dr ρ with
  | exc e ρ1 => rw [hd] at h; exact h
  | bot => rw [hd] at h; exact h
  | ok as ρ1 =>
    rw [hd] at h
    intro vs G1 H1 e1 R1 ag
    exact call_core F R1 (ag.snoc (hv G1)) (by rw [List.length_append, ag.length, hn ρ as ρ1 hd]; rfl) (PostV.ext h e1)
theorem de_callD {k : Nat} {e : Expr} {es : List Expr} (c : FkD X.prog X.w X.K X.mg X.base cc.C x (n + 1) k F d) (hr : Room k X.A) (tk : Takes X cc.W) (ha : DAg X cc (e :: es) dr) (hn : Many n dr) (hg : Gl X x := by rfl)
    (hdb : (x == ("__debug__" : Str)) = false := by decide) (he : starEach (e :: es) X.env = (false, eval e X.env) :: starEach es X.env := by rfl) (hpl : (backTo pos (starEach es X.env)).any (·.1) = false := by rfl) :
    DE X cc (.Call (.Name x p) (e :: es) [] pos) (dCall F (aDef d dr)) := by
  obtain ⟨f, fd, ps, v, ds, h1, h2, h3, h4, h5, h6, h7, h8⟩ := c.ex
  exact PE.imp (pe_callSD h2 hr hg h3 h4 h6 h7 (fun σ => passAt tk σ) ha hdb he hpl) fun σ H Q ⟨B, ρ, G, R0, h⟩ => call_readD h8 hn R0 (PostV.sh h)
end
/-! ### xs.index(text) -/
def idxS (z : Str) : List D → Option Nat
  | [] => none
  | .str y :: r => if y = z then (if (r.all fun d => match d with | .str _ => true | _ => false) = true then some 0 else none) else (idxS z r).map (· + 1)
  | _ :: _ => none
def idxK (db : ENV → R D) : D → ENV → R D := fun x ρ1 => match x with
  | .lst ds => (db ρ1).bind fun y ρ2 => match y with
    | .str z => match idxS z ds with
      | some j => .ok (.int (j : Nat)) ρ2
      | none => .bot
    | _ => .bot
  | _ => .bot
def dIdx (da db : ENV → R D) : ENV → R D := fun ρ => (da ρ).bind (idxK db)
theorem flat_strs {K : PySem.W.Frag} {C : Nat → Addr} {G : Hp} : ∀ {vs : List V} {ds : List D}, RpL K C G vs ds → (ds.all fun d => match d with | .str _ => true | _ => false) = true → vs.all flatV = true
  | _, _, .nil, _ => rfl
  | _, _, .cons h r, e => by
    rw [List.all_cons, Bool.and_eq_true] at e
    rw [List.all_cons, flat_strs r e.2, Bool.and_true]
    cases h with
    | str x _ => rfl
    | _ => cases e.1
theorem idx_at {K : PySem.W.Frag} {C : Nat → Addr} {G : Hp} {z : Str} : ∀ {vs : List V} {ds : List D} {j : Nat}, RpL K C G vs ds → idxS z ds = some j → vs.all flatV = true ∧ vs[j]? = some (.str z) ∧ ∀ (m : Nat) (u : V), m < j → vs[m]? = some u → eqV u (.str z) = false
  | _, _, _, .nil, e => by cases e
  | _, _, j, @RpL.cons _ _ _ v d vs ds h r, e => by
    cases h with
    | str y hy =>
      unfold idxS at e
      by_cases q : y = z
      · subst q
        rw [if_pos rfl] at e
        split at e
        · rename_i ha
          cases e
          refine ⟨?_, rfl, fun m u hm => absurd hm (Nat.not_lt_zero _)⟩
          rw [List.all_cons, flat_strs r ha]; rfl
        · cases e
      · rw [if_neg q] at e
        cases hi : idxS z ds with
        | none => rw [hi] at e; cases e
        | some i =>
          rw [hi] at e; cases e
          obtain ⟨h1, h2, h3⟩ := idx_at r hi
          refine ⟨by rw [List.all_cons, h1]; rfl, h2, fun m u hm hu => ?_⟩
          cases m with
          | zero =>
            cases hu
            show (y == z) = false
            exact beq_false_of_ne q
          | succ m => exact h3 m u (Nat.lt_of_succ_lt_succ hm) hu
    | _ => cases e
theorem de_index {X : Cx} {cc : Cc} {o e : Expr} {da db : ENV → R D} {apos cpos : Pos} (ho : DE X cc o da) (he : DE X cc e db)
    (hbase : attributeBase o "index" X.env (eval o X.env) = eval o X.env := by rfl)
    (hfew : ((backTo cpos (starEach (e :: []) X.env)).all (fun x => !x.1) && (backToKw cpos (keywordEach [] X.env)).all (fun x => x.1.isSome)
      && decide ((e :: []).length + ([] : List Keyword).length + (if ([] : List Keyword).isEmpty then 0 else 1) < 30)) = true := by rfl)
    (hline : (apos.endLine == cpos.line) = true := by rfl) (hs : starEach (e :: []) X.env = (false, eval e X.env) :: starEach [] X.env := by rfl) (hpl : (backTo cpos (starEach [] X.env)).any (·.1) = false := by rfl) :
    DE X cc (.Call (.Attribute o "index" apos) [e] [] cpos) (dIdx da db) := by
  refine PE.imp (pe_bm PySem.F.plainAttrs_list PySem.F.slot_list_index PySem.F.type_list_index mt_index ho (pa_cons he pa_nil hs) hbase hfew hline hs hpl) fun σ H Q ⟨B, ρ, G, R0, h⟩ => ⟨B, ρ, G, R0, h.bind fun d1 ρ1 G1 H1 x e1 R1 p1 h1 => ?_⟩
  unfold idxK at h1
  cases p1 with
  | @lst a xs ds hG r =>
    have h1 : Post X.K cc (Rp X.K cc.C) B G1 σ Q ((db ρ1).bind fun y ρ2 => match y with
      | .str z => match idxS z ds with
        | some j => .ok (.int (j : Nat)) ρ2
        | none => .bot
      | _ => .bot) := h1
    refine ⟨.inl ⟨rfl, _, SqL.of (R1.gk _ _ hG)⟩, B, ρ1, G1, R1, h1.bind fun d2 ρ2 G2 H2 y e2 R2 p2 h2 => ?_⟩
    cases p2 with
    | str z hz =>
      have h2 : Post X.K cc (Rp X.K cc.C) B G2 σ Q (match idxS z ds with
        | some j => .ok (.int (j : Nat)) ρ2
        | none => .bot) := h2
      cases hi : idxS z ds with
      | none => rw [hi] at h2; exact h2.elim
      | some j =>
        rw [hi] at h2
        obtain ⟨g1, g2, g3⟩ := idx_at r hi
        exact ⟨a, xs, .str z, j, .str z, rfl, rfl, SqL.of (R2.gk _ _ (e2.gg _ _ hG)), rfl, g1, g2, beq_self_eq_true z, g3, h2 (.int _) G2 H2 (Ext.refl _ _) R2 (.int _)⟩
    | _ => exact h2.elim
  | _ => exact h1.elim
/-! ### a list times a number -/
def vMulL : D → D → Option D
  | .lst ds, .int n => if 0 ≤ n ∧ n < 2 ^ 63 ∧ ds.length * n.toNat ≤ sizeLine then some (.lst (List.replicate n.toNat ds).flatten) else none
  | _, _ => none
theorem RpL.rep {K : PySem.W.Frag} {C : Nat → Addr} {G : Hp} {vs : List V} {ds : List D} (r : RpL K C G vs ds) : ∀ n : Nat, RpL K C G (List.replicate n vs).flatten (List.replicate n ds).flatten
  | 0 => .nil
  | n + 1 => by
    rw [List.replicate_succ, List.replicate_succ, List.flatten_cons, List.flatten_cons]
    exact r.append (r.rep n)
theorem v2_mulL {K : PySem.W.Frag} {C : Nat → Addr} : V2 K C vMulL rRep := by
  intro G H x y dx dy d Q s px py e k
  cases px with
  | @lst a xs ds h1 r1 =>
    cases py with
    | int n =>
      have e : (if 0 ≤ n ∧ n < 2 ^ 63 ∧ ds.length * n.toNat ≤ sizeLine then some (D.lst (List.replicate n.toNat ds).flatten) else none) = some d := e
      split at e
      · rename_i q
        cases e
        refine ⟨a, n, xs, rfl, rfl, s _ _ h1, by omega, q.2.1, by rw [r1.length]; exact q.2.2, fun p hp => ?_⟩
        have g := Grow.new (o := .lst (List.replicate n.toNat xs).flatten) s hp
        exact k _ _ _ g (.lst upd_same ((r1.mono g.gg).rep _))
      · cases e
    | _ => cases e
  | _ => cases py <;> cases e
theorem de_mulL {X : Cx} {cc : Cc} {a b : Expr} {da db : ENV → R D} {pos : Pos} (ha : DE X cc a da) (hb : DE X cc b db) : DE X cc (.BinOp a .Mult b pos) (dOp vMulL da db) := de_op op_rep v2_mulL ha hb
end Rf
set_option Elab.async false
set_option linter.all false
set_option maxRecDepth 100000
set_option maxHeartbeats 2000000
/-! Rf25: an own exception's __init__ that says super().__init__(..), over ValueError -/
namespace Rf
open PySem PySem.Spec L2 PyProof.Rows PySem.Calls
/-! ### ValueError.__init__, bound, called -/
section
variable {prog : Program} {w : World} {A : Around} {E : Value → Shared → Prop} {s : Shared} {K : PySem.W.Frag} {x C u t : Addr} {us : List Value} {Q : Value → Shared → Prop}
theorem mw_call (X : K.In s.heap) (T : OexC K C) (hu : s.heap.get? u = some (PySem.W.kxs_mw "ValueError.__init__" x)) (he : s.heap.get? x = some (PySem.W.excObj C t none .none)) (hz : us.length ≤ sizeLine)
    (fin : ∀ h' t', (∀ b o, b ≠ x → s.heap.get? b = some o → h'.get? b = some o) → h'.get? x = some (PySem.W.excObj C t' none .none) → Q .none { s with heap := h' }) : wpAny (model prog w) A (call (.ref u) us) Q E s := by
  obtain ⟨nm, qn, N, bs, bm, sn, sub, ab, col, dd, k0, k1, k2, k3, k5, lC, hbm⟩ := T.cls
  have hC := X _ _ lC
  obtain ⟨hh, g, d, tk, os⟩ := s
  refine wpAny_call (codeAny_of_tree ?_)
  show wpAny _ A.in1 (callAny (.ref u) { pos := us, kw := [] }) _ _ _
  unfold callAny
  dsimp only
  refine wpAny_bind (wpAny_load hu ?_)
  dsimp only [PySem.W.kxs_mw]
  rw [if_pos (by decide)]
  refine PySem.W.KFB.if_so (by decide) ?_
  refine wpAny_bind (PySem.W.check_bound_init PySem.F.excBase_ValueError.toExcCallFacts hC he rfl (wpAny_bind (wpAny_pure (wpAny_pure ?_))))
  refine ⟨plainId_quiet PySem.F.excBase_ValueError.init.plain _, codeAny_builtin PySem.F.excBase_ValueError.initEntry ?_⟩
  exact PySem.W.exc_init_tree (cls := .ref C) (t0 := t) (dv := none) (c2 := .none) (c3 := .none) (b4 := .bool false) he hz (fun h' k e _ => fin h' _ k e)
end
/-! ### super().__init__(..) within such an __init__ -/
/-- what the text says of the class and of the def -/
structure SupF (P : Program) (K : PySem.W.Frag) (mg : Str → Option Value) (C f cda cc : Addr) (x0 : Str) : Prop where
  fn : ∃ (oc : Value) (od : Option Addr) (fd : FuncData) (osl : Array (Option Value)) (ar : Arg), K.lookup f = some ⟨oc, od, .func fd, osl⟩ ∧ (fd.params.posonlyargs ++ fd.params.args).head? = some ar ∧ ar.arg = x0
  code : ∃ (ccl : Value) (cdd : Option Addr) (vs : Array Value) (ccs : Array (Option Value)) (file : Str) (tf : Tok), K.lookup cda = some ⟨ccl, cdd, .fields vs, ccs⟩ ∧ vs[2]? = some (.str file tf) ∧ ((P.main.file : Str) == file) = true
  cell : ∃ (cl : Value) (cld : Option Addr) (csl : Array (Option Value)), K.lookup cc = some ⟨cl, cld, .cell (some (.ref C)), csl⟩
  sub : PySem.W.mroIn K C (.ref C) = some true
  mgS : mg "super" = none
  opq : PySem.W.nsIn K cStatics "thirdparty.any" = some none
  ini : PySem.W.ks_superIn K C C "__init__" = some (some (.builtin "ValueError.__init__"))
  exV : PySem.W.subIn K (.ref C) (.type "ValueError") = some true
  top : (P.main.scope.names.lookup ("super" : Str)).isSome = false
section
variable {X : Cx} {pins : List (Addr × Obj)} {σ : L2.St} {H : Hp} {s : Shared} {C f cda cc a : Addr} {x0 : Str}
theorem sup_eval {e : Expr} {es : List Expr} {ta : TA} {body : List Stmt} {p0 p1 p2 p3 : Pos} {pl : Sem Bool} {Q : Shared → Prop} (S : SupF X.prog X.K X.mg C f cda cc x0) (T : OexC X.K C) (I : Inv X pins σ H s)
    (k1 : X.env.kindOf "super" = some .globalImplicit) (k2 : X.env.kindOf "__class__" = some .free) (k3 : X.env.kindOf x0 = some .local) (k4 : X.env.func = some f) (k5 : X.env.code = .ref cda) (k6 : X.env.cells.lookup ("__class__" : Str) = some cc)
    (h0 : X.N[0]? = some x0) (s0 : σ[0]? = some (some (.ref a))) (hv : Vis X.env.scope x0) (ha : H a = some (exo a C none)) (pa : PA X (e :: es) ta) (hta : ta σ H fun vs H' => H' = H ∧ vs.length ≤ 1000)
    (hc : eval (.Call (.Attribute (.Call (.Name "super" p0) [] [] p1) "__init__" p2) (e :: es) [] p3) X.env = (do
      let ov ← attributeBase (.Call (.Name "super" p0) [] [] p1) "__init__" X.env (eval (.Call (.Name "super" p0) [] [] p1) X.env)
      standAt p2.atName
      let (g, first) ← holding [ov] (getMethod ov "__init__" pl)
      callWith p3 g first (backTo p3 (starEach (e :: es) X.env)) []) := by rfl)
    (he : starEach (e :: es) X.env = (false, eval e X.env) :: starEach es X.env := by rfl) (hpl : (backTo p3 (starEach es X.env)).any (·.1) = false := by rfl)
    (q : ∀ s', Inv X pins σ H s' → Q s') :
    _root_.PySem.wpAt (model X.prog X.w) X.A (.func body X.env) (eval (.Call (.Attribute (.Call (.Name "super" p0) [] [] p1) "__init__" p2) (e :: es) [] p3) X.env) (fun _ s' => Q s') X.xe s := by
  obtain ⟨oc, od, fd, osl, ar, lf, hp, rfl⟩ := S.fn
  obtain ⟨ccl, cdd, vs, ccs, file, tf, lc, hvs, hfile⟩ := S.code
  obtain ⟨cl, cld, csl, lcc⟩ := S.cell
  obtain ⟨m, hn, hl⟩ := I.loc
  obtain ⟨u, ru, lk⟩ := hl 0 _ _ h0 s0 hv
  obtain rfl : u = .ref a := ru
  have hm : m ar.arg = some (.ref a) := by
    rcases lk with ⟨_, z⟩ | ⟨z, _⟩
    · exact z
    · rw [k3] at z; rcases z with z | z <;> cases z
  obtain ⟨t1, ho⟩ := exo_at I.hok ha
  obtain ⟨nm, qn, N, bs, bm, sn, sub, ab, col, dd, g0, g1, g2, g3, g5, lC, hbm⟩ := T.cls
  have KX := I.kIn
  have hC := KX _ _ lC
  obtain ⟨mb, nb, hb⟩ := I.mod.blt
  have gl := I.ok.glob
  have bl := I.ok.blt
  have kd := I.ok.kind
  have aC : a ≠ C := by
    rintro rfl
    rw [ho] at hC
    cases hC
  have aL : a ≠ X.env.locals := fun z => by have := I.free; rw [← z, ha] at this; cases this
  obtain ⟨hh, g, d, tk, os⟩ := s
  refine ks_wpAt_MethodCall ?_ hc
  refine ks_wpAt_super_base k1 k2 rfl k4 (KX _ _ lf) rfl hp k5 (KX _ _ lc) rfl hvs hfile S.top ?_
  refine PySem.W.ks_loadName_global kd k1 (loadGlobal_builtin (mg := X.mg) (mb := mb) (by rw [gl]; exact I.mod.glob.keeps I.bk) S.mgS (by rw [bl]; exact nb.keeps I.bk) ((hb _ (by decide +kernel)).trans rfl) ⟨rfl, ?_⟩)
  refine wpAny_loadName_free kd k2 k6 ⟨_, KX _ _ lcc, rfl⟩ ?_
  refine wpAny_loadName_local kd k3 hn hm ?_
  refine ks_wpAny_isType_cls hC rfl ⟨rfl, ?_⟩
  refine ks_wpAny_call_super hC rfl ho rfl (fun c z => by cases z) (PySem.W.looks_mroIn KX S.sub) (fun h' eS kS => ?_)
  have KX' : X.K.In h' := KX.keeps kS
  have sz : hh.objs.size < h'.objs.size := Heap.lt_size eS
  have oa : PySem.W.InstAt h' a (PySem.W.excObj C t1 none .none) C none := ⟨kS _ _ ho, rfl, rfl, trivial⟩
  cases hcd : PySem.W.clsIn X.K C with
  | none =>
    have z := S.ini
    unfold PySem.W.ks_superIn at z
    rw [hcd] at z
    cases z
  | some cd =>
    have z := S.ini
    unfold PySem.W.ks_superIn at z
    rw [hcd] at z
    refine PySem.W.kxs_getMethod PySem.W.kxs_ValueError eS (PySem.W.looks_opaque KX' S.opq) (l₀ := cd.mro) (fun A Q E s k q => wpAny_bind ((PySem.W.looks_clsIn KX' hcd) A _ E s k (wpAny_pure q))) rfl KX' z (oa.type.andThen (PySem.W.looks_subIn KX' S.exV)) aC rfl ?_
    have J : Inv X pins σ H ⟨h'.push (PySem.W.kxs_mw "ValueError.__init__" a), g, d, tk + 1, os⟩ := I.kept (t' := tk + 1) fun b o e => Heap.get?_push_of_some _ (kS b o e)
    have uL : h'.objs.size ≠ X.env.locals := fun z => by
      have h1 : X.env.locals < hh.objs.size := I.lt
      rw [← z] at h1
      exact Nat.lt_irrefl _ (Nat.lt_trans h1 sz)
    have uB : X.base.get? h'.objs.size = none := by
      cases w : X.base.get? h'.objs.size with
      | none => rfl
      | some o =>
        have h1 := Heap.lt_size w
        have h2 := I.ok.bsz
        have h3 : X.s_0.heap.objs.size ≤ hh.objs.size := I.sz
        exact absurd (Nat.lt_of_lt_of_le h1 (Nat.le_trans h2 h3)) (Nat.not_lt.mpr (Nat.le_of_lt sz))
    have up : (h'.push (PySem.W.kxs_mw "ValueError.__init__" a)).get? h'.objs.size = some (PySem.W.kxs_mw "ValueError.__init__" a) := Heap.get?_push_at rfl rfl
    have J2 : Inv X ((h'.objs.size, PySem.W.kxs_mw "ValueError.__init__" a) :: pins) σ H ⟨h'.push (PySem.W.kxs_mw "ValueError.__init__" a), g, d, tk + 1, os⟩ := J.pins_of fun p hp => by
      rcases List.mem_cons.mp hp with rfl | hp
      · exact ⟨up, I.hok.fresh (show hh.objs.size ≤ _ by omega), uL, I.nofs (show hh.objs.size ≤ _ by omega), fun v z => by cases z⟩
      · exact J.pin p (List.mem_append_right _ hp)
    refine PySem.W.kxs_callWith1 (h₀ := X.base) (L := X.env.locals) (news := [(h'.objs.size, PySem.W.kxs_mw "ValueError.__init__" a)]) (i := "ValueError.__init__") (x := a) (fun p hp => ?_) (List.mem_singleton.mpr rfl) ?_ he hpl
    · rw [List.mem_singleton] at hp
      subst hp
      exact ⟨up, uL, uB⟩
    · refine thn (pa.run p3 _ _ σ H _ J2 hta) fun us s1 y => ?_
      obtain ⟨ws, H1, I1, rv, eH, hz⟩ := y
      subst eH
      have hu := (I1.pin _ (List.mem_append_right _ List.mem_cons_self)).1
      refine ⟨hu, ?_⟩
      obtain ⟨t2, ho1⟩ := exo_at I1.hok ha
      refine mw_call I1.kIn T hu ho1 (by rw [← Paired.length rv, sizeLine_eq]; omega) fun h2 t3 k2 e2 => q _ ?_
      have J3 := I1.write (t' := s1.toks) (x := a) (e := a) (o := exo a C none) (by rw [ha]; exact True.intro) (.inl rfl) k2 ⟨_, e2⟩ (exo_ok e2)
      have eu : upd H1 a (exo a C none) = H1 := by
        funext b
        by_cases hb : b = a
        · rw [hb, upd_same, ha]
        · rw [upd_ne hb]
      rw [eu] at J3
      exact J3.pins_of fun p hp => J3.pin p (List.mem_append_right _ (List.mem_cons_of_mem _ hp))
end
/-! ### such an __init__, as a def -/
theorem look_none {x : Str} : ∀ {l : List (Str × Value)}, (∀ y ∈ l, y.1 ≠ x) → l.lookup x = none
  | [], _ => rfl
  | (a, v) :: r, h => by
    unfold List.lookup
    rw [show (x == a) = false from beq_false_of_ne fun z => h _ List.mem_cons_self z.symm]
    exact look_none fun y hy => h y (List.mem_cons_of_mem _ hy)
theorem look_app {x : Str} : ∀ (l r : List (Str × Value)), (l ++ r).lookup x = match l.lookup x with | some v => some v | none => r.lookup x
  | [], _ => rfl
  | (a, v) :: l, r => by
    show (match x == a with | true => some v | false => List.lookup x (l ++ r)) = (match (match x == a with | true => some v | false => List.lookup x l) with | some v => some v | none => List.lookup x r)
    cases x == a with
    | true => rfl
    | false => exact look_app l r
theorem zip_rev {x : Str} : ∀ {ps : List Str} {us : List Value} {i : Nat} {u : Value}, ps.Nodup → ps[i]? = some x → us[i]? = some u → (ps.zip us).reverse.lookup x = some u
  | [], _, _, _, _, h, _ => by simp at h
  | _ :: _, [], _, _, _, _, h => by simp at h
  | p :: ps, v :: us, 0, u, nd, h1, h2 => by
    simp at h1 h2
    subst h1
    subst h2
    rw [List.zip_cons_cons, List.reverse_cons, look_app, look_none (x := p) fun y hy z => ?_]
    · show List.lookup p [(p, v)] = _
      unfold List.lookup
      rw [show (p == p) = true from beq_self_eq_true p]
    · have := (List.of_mem_zip (List.mem_reverse.mp hy)).1
      rw [z] at this
      exact (List.nodup_cons.mp nd).1 this
  | p :: ps, v :: us, i + 1, u, nd, h1, h2 => by
    rw [List.zip_cons_cons, List.reverse_cons, look_app, zip_rev (List.nodup_cons.mp nd).2 (by simpa using h1) (by simpa using h2)]
/-- the context of its body -/
def cxS (CX : CXT) (P : Program) (w : World) (K : PySem.W.Frag) (mg : Str → Option Value) (base : Heap) (N : List Str) (qual : Str) (scope : Scope) (f cda cc : Addr) (A : Around) (outer : List Env) (s : Shared) (H : Hp) (E : XK) : Cx where
  prog := P
  w := w
  K := K
  mg := mg
  base := base
  A := A.deeper (PySem.W.ksEnv qual scope s.heap.objs.size f (.ref cda) cc)
  N := N
  s_0 := s
  H_0 := H
  env := PySem.W.ksEnv qual scope s.heap.objs.size f (.ref cda) cc
  outer := outer
  stack := PySem.W.ksEnv qual scope s.heap.objs.size f (.ref cda) cc :: outer
  ex := []
  calm := true
  fn := fun _ => false
  pn := []
  xe := fun e s' => wpAny (model P w) (A.deeper (PySem.W.ksEnv qual scope s.heap.objs.size f (.ref cda) cc)) (leaving (PySem.W.ksEnv qual scope s.heap.objs.size f (.ref cda) cc) e) (fun _ s'' => CX outer H s E e s'') (fun e' s'' => CX outer H s E e' s'') s'
/-- a look at the scope -/
structure ScS (ps : List Str) (sc : Scope) : Prop where
  kind : sc.kind = .function
  co : sc.isCoroutine = false
  gen : sc.isGenerator = false
  nd : ps.Nodup
  loc : ∀ x ∈ ps, sc.names.lookup x = some .local
  nocell : ∀ y ∈ sc.names, y.2 ≠ .cell
  free : ∀ y ∈ sc.names, y.2 = .free → y.1 = "__class__"
  sup : sc.names.lookup ("super" : Str) = some .globalImplicit
  cls : sc.names.lookup ("__class__" : Str) = some .free
section
variable {CX : CXT} {P : Program} {w : World} {K : PySem.W.Frag} {mg : Str → Option Value} {base : Heap} {ps : List Str} {qual : Str} {scope : Scope} {f cda cc : Addr} {A : Around} {outer : List Env} {s : Shared} {H : Hp} {E : XK} {us : List Value} {vs : List V}
theorem inv_startS {cl : Value} {cld : Option Addr} {v0 : Option Value} {csl : Array (Option Value)} {h1 : Heap} {tk : Nat} (S : ScS ps scope) (hd : A.handled = none) (e0 : Env0 P w K mg base A outer s H) (hl : vs.length = ps.length) (r : Vals vs us)
    (hc : K.lookup cc = some ⟨cl, cld, .cell v0, csl⟩) (ns : h1.Ns s.heap.objs.size fun x => (ps.zip us).reverse.lookup x) (kp : ∀ b o, s.heap.get? b = some o → h1.get? b = some o) :
    Inv (cxS CX P w K mg base ps qual scope f cda cc A outer s H E) [] (L2.start ps vs) H { s with heap := h1, toks := tk } := by
  have hb := e0.mod.kin _ _ hc
  have lcell : ∀ {y : Str} {c : Addr}, (cxS CX P w K mg base ps qual scope f cda cc A outer s H E).env.cells.lookup y = some c → y = "__class__" ∧ c = cc := fun {y c} h => by
    have h : List.lookup y [(("__class__" : Str), cc)] = some c := h
    unfold List.lookup at h
    cases e : (y == ("__class__" : Str)) with
    | true => rw [e] at h; cases h; exact ⟨beq_iff_eq.mp e, rfl⟩
    | false => rw [e] at h; cases h
  refine ⟨⟨e0.mod, S.kind, rfl, rfl, Nat.le_refl _, fun y z c a b => (lcell a).1.trans (lcell b).1.symm, fun y hy => ?_, fun y c z _ => Bool.noConfusion (show false = true from z), fun _ => hd, Around.frames_deeper e0.frames, .inr ⟨rfl, rfl⟩, fun b z => absurd (show b ∈ ([] : List Addr) from z) (by simp), e0.bs, e0.bsz, fun b _ _ z => absurd (show b ∈ ([] : List Addr) from z) (by simp), fun b z => absurd (show b ∈ ([] : List Addr) from z) (by simp), e0.funs, e0.frf⟩,
    rfl, e0.bare, Un.kept kp, ⟨_, ns, fun i y v h1 h2 h3 => ?_⟩, fun y c h => ⟨v0, ?_⟩, e0.hok.fresh (Nat.le_refl _), fun y c h => ?_, fun p hp => absurd (show p ∈ ([] : List (Addr × Obj)) from hp) (by simp), e0.hok.kept kp, ?_⟩
  · have hy : scope.names.lookup y = some .cell ∨ scope.names.lookup y = some .free := hy
    rcases hy with hy | hy
    · exact absurd rfl (S.nocell _ (PySem.mem_of_lookup hy))
    · have := S.free _ (PySem.mem_of_lookup hy) rfl
      subst this
      exact ⟨cc, rfl⟩
  · have e : (L2.start ps vs) = vs.map some := by unfold L2.start; rw [hl, Nat.sub_self]; simp
    rw [e, List.getElem?_map] at h2
    cases ea : vs[i]? with
    | none => rw [ea] at h2; cases h2
    | some a =>
      rw [ea] at h2
      cases h2
      obtain ⟨u, hu, rv⟩ := r.get ea
      exact ⟨u, rv, .inl ⟨S.loc y (List.mem_of_getElem? h1), zip_rev S.nd h1 hu⟩⟩
  · obtain ⟨_, rfl⟩ := lcell h
    exact ⟨_, kp _ _ (e0.bs _ _ hb).1, rfl⟩
  · obtain ⟨_, rfl⟩ := lcell h
    exact (e0.bs _ _ hb).2
  · unfold L2.start
    show _ = ps.length
    rw [List.length_append, List.length_map, List.length_replicate, hl]
    omega
theorem fn_sup {C : Addr} {x0 name : Str} {fs : List Str} {k : Nat} {params : Arguments} {e : Expr} {es : List Expr} {rest : List Stmt} {dV kV doc pm ct oc : Value} {an od : Option Addr} {osl : Array (Option Value)} {p0 p1 p2 p3 p4 : Pos} {pl : Sem Bool}
    (lk : K.lookup f = some ⟨oc, od, .func (PySem.W.ksFn name qual params (.Expr (.Call (.Attribute (.Call (.Name "super" p0) [] [] p1) "__init__" p2) (e :: es) [] p3) p4 :: rest) scope dV kV doc pm an (.ref cda) ct cc), osl⟩) (hcd : PySem.W.codeIn K (.ref cda) qual = true)
    (S : ScS ps scope) (F : SupF P K mg C f cda cc x0) (T : OexC K C) (h0 : ps[0]? = some x0) (hl : ps.length = fs.length + 1) {ta : TA} (hta : ∀ σ H, ta σ H fun vs H' => H' = H ∧ vs.length ≤ 1000)
    (pa : ∀ (A : Around) (outer : List Env) (s : Shared) (H : Hp) (E : XK), PA (cxS CX P w K mg base ps qual scope f cda cc A outer s H E) (e :: es) ta)
    (hc : ∀ (A : Around) (outer : List Env) (s : Shared) (H : Hp) (E : XK), eval (.Call (.Attribute (.Call (.Name "super" p0) [] [] p1) "__init__" p2) (e :: es) [] p3) (cxS CX P w K mg base ps qual scope f cda cc A outer s H E).env = (do
      let ov ← attributeBase (.Call (.Name "super" p0) [] [] p1) "__init__" (cxS CX P w K mg base ps qual scope f cda cc A outer s H E).env (eval (.Call (.Name "super" p0) [] [] p1) (cxS CX P w K mg base ps qual scope f cda cc A outer s H E).env)
      standAt p2.atName
      let (g, first) ← holding [ov] (getMethod ov "__init__" pl)
      callWith p3 g first (backTo p3 (starEach (e :: es) (cxS CX P w K mg base ps qual scope f cda cc A outer s H E).env)) []))
    (he : ∀ env : Env, starEach (e :: es) env = (false, eval e env) :: starEach es env) (hpl : ∀ env : Env, (backTo p3 (starEach es env)).any (·.1) = false)
    (hsw : ∀ (L : Addr), interactive (PySem.W.ksEnv qual scope L f (.ref cda) cc) = false ∧ swapsWith (.Call (.Attribute (.Call (.Name "super" p0) [] [] p1) "__init__" p2) (e :: es) [] p3) none p4.line (PySem.W.ksEnv qual scope L f (.ref cda) cc) = pure false)
    (hb : ∀ (A : Around) (outer : List Env) (s : Shared) (H : Hp) (vs : List V) (Q : VK) (E : XK), spI C fs vs H Q E → ∃ t, PSs (cxS CX P w K mg base ps qual scope f cda cc A outer s H E) rest t ∧ t { nx := fun _ H' => Q .non H', rt := Q } (L2.start ps vs) H) :
    FnOk P w K mg base CX (k + 1) f (PySem.W.ksFn name qual params (.Expr (.Call (.Attribute (.Call (.Name "super" p0) [] [] p1) "__init__" p2) (e :: es) [] p3) p4 :: rest) scope dV kV doc pm an (.ref cda) ct cc) ps (spI C fs) := by
  refine ⟨fun vs H Q E h => (spI_len h).trans hl.symm, fun A outer s H args us vs Q E hr e0 hbind rv hsp => ?_⟩
  have KX : K.In s.heap := e0.mod.kin.keeps fun b o e => (e0.bs b o e).1
  have lim : s.heap.NoLimit := e0.mod.nolimit.keeps fun b o e => (e0.bs b o e).1
  obtain ⟨cl, cld, csl, lcc⟩ := F.cell
  obtain ⟨t, ht, hq⟩ := hb A outer s H vs Q E hsp
  have hlv : vs.length = ps.length := (spI_len hsp).trans hl.symm
  refine ks_codeAny_call_defAt (binds := ps.zip us) hr.depth (KX _ _ lk) rfl lim (PySem.W.codeRec_of KX hcd) rfl hbind S.nocell (fun y hy => S.loc y.1 (List.of_mem_zip hy).1) (fun h1 ns kp => ?_) S.co S.gen S.kind
  have I : Inv (cxS CX P w K mg base ps qual scope f cda cc A outer s H E) [] (L2.start ps vs) H { s with heap := h1, toks := s.toks + (ps.zip us).length } := inv_startS S hr.hd e0 hlv rv lcc ns kp
  obtain ⟨a, ys, rfl, hyl, ea, _⟩ := hsp
  show _root_.PySem.wpAt (model P w) (cxS CX P w K mg base ps qual scope f cda cc A outer s H E).A (.func _ (cxS CX P w K mg base ps qual scope f cda cc A outer s H E).env) (execs _ (cxS CX P w K mg base ps qual scope f cda cc A outer s H E).env) _ (cxS CX P w K mg base ps qual scope f cda cc A outer s H E).xe _
  refine ks_wpAt_execs_cons (ks_wpAt_Expr_any (sup_eval (X := cxS CX P w K mg base ps qual scope f cda cc A outer s H E) F T I S.sup S.cls (S.loc _ (List.mem_of_getElem? h0)) rfl rfl rfl h0 rfl (.inl (S.loc _ (List.mem_of_getElem? h0))) ea (pa A outer s H E) (hta _ _) (hc A outer s H E) (he _) (hpl _) fun s' J => ?_) (hsw _).1 (hsw _).2)
  have fin : ∀ {σ' : L2.St} {H' : Hp} {v : V} {u : Value} {s2 : Shared}, Inv (cxS CX P w K mg base ps qual scope f cda cc A outer s H E) [] σ' H' s2 → RelV v u → Q v H' → CE outer P w H s Q u s2 :=
    fun {σ' H' v u s2} J rv q => ⟨v, H', J.os, J.bare, J.base, J.hok, rv, q⟩
  refine wpAt_of_wpAny (wpAny_mono (ht.run [] s' _ H _ J hq) (fun fl s2 hs => ?_) fun e s2 hs => hs)
  cases fl with
  | ret u =>
    obtain ⟨v, σ', H', J, rv, q⟩ := hs
    exact fin J rv q
  | next =>
    obtain ⟨σ', H', J, q⟩ := hs
    exact fin (v := V.non) (u := Value.none) J rfl q
  | brk =>
    obtain ⟨_, _, _, q⟩ := hs
    exact q.elim
  | cont =>
    obtain ⟨_, _, _, q⟩ := hs
    exact q.elim
/-- what the text says of such a def -/
structure DmS (P : Program) (K : PySem.W.Frag) (mg : Str → Option Value) (C : Addr) (qual : Str) (st : Stmt) (ps : List Str) (x0 : Str) : Prop where
  ex : ∃ (f cda cc : Addr) (oc kV doc pm ct : Value) (od an : Option Addr) (osl : Array (Option Value)), K.lookup f = some ⟨oc, od, .func (PySem.W.ksFn "__init__" qual (defArgs st) (defBody st) (defScope st) .none kV doc pm an (.ref cda) ct cc), osl⟩ ∧ PySem.W.codeIn K (.ref cda) qual = true ∧
    PySem.W.findIn K (.ref C) "__init__" = some (some (.ref f)) ∧ PySem.W.isFn K (.ref f) = true ∧ SupF P K mg C f cda cc x0 ∧
    ∀ us : List Value, us.length = ps.length → bindArgs (PySem.W.ksFn "__init__" qual (defArgs st) (defBody st) (defScope st) .none kV doc pm an (.ref cda) ct cc) ⟨us, []⟩ = pure (ps.zip us)
theorem dms_mk {C : Addr} {st : Stmt} {x0 : Str} {ar : Arg} {oc kV doc pm ct ccl cl : Value} {od an cdd cld : Option Addr} {osl ccs csl : Array (Option Value)} {cvs : Array Value} {file : Str} {tf : Tok}
    (a : PySem.W.findIn K (.ref C) "__init__" = some (some (.ref f))) (l : K.lookup f = some ⟨oc, od, .func (PySem.W.ksFn "__init__" qual (defArgs st) (defBody st) (defScope st) .none kV doc pm an (.ref cda) ct cc), osl⟩) (c : PySem.W.codeIn K (.ref cda) qual = true) (fn : PySem.W.isFn K (.ref f) = true)
    (lc : K.lookup cda = some ⟨ccl, cdd, .fields cvs, ccs⟩) (hv : cvs[2]? = some (.str file tf)) (lcc : K.lookup cc = some ⟨cl, cld, .cell (some (.ref C)), csl⟩)
    (sub : PySem.W.mroIn K C (.ref C) = some true) (mgS : mg "super" = none) (opq : PySem.W.nsIn K cStatics "thirdparty.any" = some none) (ini : PySem.W.ks_superIn K C C "__init__" = some (some (.builtin "ValueError.__init__"))) (exV : PySem.W.subIn K (.ref C) (.type "ValueError") = some true)
    (hf : ((P.main.file : Str) == file) = true) (top : (P.main.scope.names.lookup ("super" : Str)).isSome = false) (ha : ((defArgs st).posonlyargs ++ (defArgs st).args).head? = some ar) (hx : ar.arg = x0)
    (hb : ∀ (kV doc pm : Value) (an : Option Addr) (cdv ct : Value) (us : List Value), us.length = ps.length → bindArgs (PySem.W.ksFn "__init__" qual (defArgs st) (defBody st) (defScope st) .none kV doc pm an cdv ct cc) ⟨us, []⟩ = pure (ps.zip us)) : DmS P K mg C qual st ps x0 :=
  ⟨f, cda, cc, oc, kV, doc, pm, ct, od, an, osl, l, c, a, fn, ⟨⟨oc, od, _, osl, ar, l, ha, hx⟩, ⟨ccl, cdd, cvs, ccs, file, tf, lc, hv, hf⟩, ⟨cl, cld, csl, lcc⟩, sub, mgS, opq, ini, exV, top⟩, fun us hu => hb _ _ _ _ _ _ us hu⟩
theorem exi_sup {Ca : Addr} {x x0 : Str} {fs : List Str} {st : Stmt} {e : Expr} {es : List Expr} {rest : List Stmt} {p0 p1 p2 p3 p4 : Pos} {ta : TA} {pl : Sem Bool}
    (g : ExN K mg Ca x) (cl : OexC K Ca) (d : DmS P K mg Ca qual st ps x0) (S : ScS ps (defScope st)) (hbody : defBody st = .Expr (.Call (.Attribute (.Call (.Name "super" p0) [] [] p1) "__init__" p2) (e :: es) [] p3) p4 :: rest) (h0 : ps[0]? = some x0) (hl : ps.length = fs.length + 1)
    (hta : ∀ σ H, ta σ H fun vs H' => H' = H ∧ vs.length ≤ 1000)
    (pa : ∀ (f cda cc : Addr) (A : Around) (outer : List Env) (s : Shared) (H : Hp) (E : XK), PA (cxS CX0 P w K mg base ps qual (defScope st) f cda cc A outer s H E) (e :: es) ta)
    (hc : ∀ (f cda cc : Addr) (A : Around) (outer : List Env) (s : Shared) (H : Hp) (E : XK), eval (.Call (.Attribute (.Call (.Name "super" p0) [] [] p1) "__init__" p2) (e :: es) [] p3) (cxS CX0 P w K mg base ps qual (defScope st) f cda cc A outer s H E).env = (do
      let ov ← attributeBase (.Call (.Name "super" p0) [] [] p1) "__init__" (cxS CX0 P w K mg base ps qual (defScope st) f cda cc A outer s H E).env (eval (.Call (.Name "super" p0) [] [] p1) (cxS CX0 P w K mg base ps qual (defScope st) f cda cc A outer s H E).env)
      standAt p2.atName
      let (g, first) ← holding [ov] (getMethod ov "__init__" pl)
      callWith p3 g first (backTo p3 (starEach (e :: es) (cxS CX0 P w K mg base ps qual (defScope st) f cda cc A outer s H E).env)) []))
    (he : ∀ env : Env, starEach (e :: es) env = (false, eval e env) :: starEach es env) (hpl : ∀ env : Env, (backTo p3 (starEach es env)).any (·.1) = false)
    (hsw : ∀ (f cda cc L : Addr), interactive (PySem.W.ksEnv qual (defScope st) L f (.ref cda) cc) = false ∧ swapsWith (.Call (.Attribute (.Call (.Name "super" p0) [] [] p1) "__init__" p2) (e :: es) [] p3) none p4.line (PySem.W.ksEnv qual (defScope st) L f (.ref cda) cc) = pure false)
    (hb : ∀ (f cda cc : Addr) (A : Around) (outer : List Env) (s : Shared) (H : Hp) (vs : List V) (Q : VK) (E : XK), spI Ca fs vs H Q E → ∃ t, PSs (cxS CX0 P w K mg base ps qual (defScope st) f cda cc A outer s H E) rest t ∧ t { nx := fun _ H' => Q .non H', rt := Q } (L2.start ps vs) H) :
    ExI P w K mg base Ca x fs 1 := by
  obtain ⟨f, cda, cc, oc, kV, doc, pm, ct, od, an, osl, l, c, a, fn, F, hbd⟩ := d.ex
  rw [hbody] at l hbd
  exact ⟨g.gC, cl, f, _, ps, a, beq_iff_eq.mp fn, fn_sup l c S F cl h0 hl hta (pa f cda cc) (hc f cda cc) he hpl (hsw f cda cc) (hb f cda cc), .all hbd⟩
end
end Rf
set_option Elab.async false
set_option linter.all false
set_option maxRecDepth 100000
set_option maxHeartbeats 2000000
/-! Rf26: tuple(reversed(a tuple)) -/
namespace Rf
open PySem PySem.Spec L2 PyProof.Rows RT
section
variable {prog : Program} {w : World} {A : Around} {E : Value → Shared → Prop} {s : Shared}
theorem rv_len0 : typeLookup (.type "reversed") "__len__" = pure none := by rw [typeLookup_type, builtinLookup_eq_fast]; kernel_rfl
theorem rv_hint : typeLookup (.type "reversed") "__length_hint__" = pure (some (.builtin "reversed.__length_hint__")) := by rw [typeLookup_type, builtinLookup_eq_fast]; kernel_rfl
theorem tup_keep {h h' : Heap} {t : Addr} {xs : Array Value} (x : IsTup h t xs) (e : ∀ o, h.get? t = some o → h'.get? t = some o) : IsTup h' t xs := by
  obtain ⟨o, ho, r⟩ := x
  exact ⟨o, e o ho, r⟩
theorem slot_rh : Slot "reversed" "__length_hint__" "reversed.__length_hint__" :=
  .of (owner := "reversed") (n := "__length_hint__") rv_hint (by decide +kernel) (by decide +kernel) (by decide +kernel) (by first | exact .inl (by decide +kernel) | exact .inr (by decide +kernel)) (by rw [isSubtype_type]; kernel_rfl)
theorem entry_rh : entryFor table "reversed.__length_hint__" = some Builtin.«reversed.__length_hint__» := entryFor_of_tree (by kernel_rfl)
theorem args_rh (a : Value) : argsOk "reversed.__length_hint__" { pos := [a], kw := [] } := by
  unfold argsOk; rw [signature?_of (id := "reversed.__length_hint__") (n := ['_', '_', 't', 'n', 'i', 'h', '_', 'h', 't', 'g', 'n', 'e', 'l', '_', '_']) (o := ['d', 'e', 's', 'r', 'e', 'v', 'e', 'r']) (by kernel_rfl) owner_rt]; kernel_rfl
theorem hint_rt {it t : Addr} {xs : Array Value} {Q : Value → Shared → Prop} (hit : IsRt s.heap it t ((xs.size : Int) - 1)) (ht : IsTup s.heap t xs) (hz : xs.size ≤ sizeLine)
    (q : ∀ tk tk2, Q (.int (xs.size : Nat) tk) { s with toks := tk2 }) : wpAny (model prog w) A (call (.builtin "reversed.__length_hint__") [.ref it]) Q E s := by
  obtain ⟨o, ho, hc, hd⟩ := id hit
  refine wpAny_call_entry slot_rh hit.typeIs entry_rh ?_ (args_rh _)
  unfold Builtin.«reversed.__length_hint__»
  refine wpAny_bind (wpAny_of_eq (a := Value.ref it) rfl (wpAny_bind (wpAny_field ho hd (x := .ref t) rfl ?_)))
  rw [if_neg (by simp)]
  have z63 : (xs.size : Int) < 2 ^ 63 := by rw [sizeLine_eq] at hz; omega
  refine wpAny_bind (len_tuple ht z63 (wpAny_bind (wpAny_of_eq (a := some (xs.size : Int)) rfl ?_)))
  refine wpAny_bind (wpAny_field ho hd (x := rawInt ((xs.size : Int) - 1)) rfl ?_)
  show wpAny _ _ (if (xs.size : Int) < (xs.size : Int) - 1 + 1 then _ else retInt ((xs.size : Int) - 1 + 1)) _ _ _
  rw [if_neg (by omega), show (xs.size : Int) - 1 + 1 = (xs.size : Int) by omega]
  exact wpAny_bind (wpAny_mkInt (wpAny_pure ⟨_, rfl, q _ _⟩))
theorem walks_rt (hh : A.handled = none) (I t : Addr) (hne : t ≠ I) (xs : Array Value) (hz : xs.size ≤ sizeLine) :
    Walks prog w A I [I, t] [I] xs.size (fun i v => xs[xs.size - 1 - i]? = some v) (fun i h => i ≤ xs.size ∧ IsRt h I t ((xs.size : Int) - 1 - (i : Int)) ∧ IsTup h t xs) where
  sub := fun b hb => List.mem_cons.mpr (.inl (List.mem_singleton.mp hb))
  frame := fun i h h' st k => ⟨st.1, st.2.1.at fun o e => k I List.mem_cons_self o e, tup_keep st.2.2 fun o e => k t (List.mem_cons_of_mem _ List.mem_cons_self) o e⟩
  item := fun i s Q E hi st q => by
    obtain ⟨_, h1, h2⟩ := st
    have e : (xs.size : Int) - 1 - (i : Int) = ((xs.size - 1 - i : Nat) : Int) := by omega
    rw [e] at h1
    have hx : xs[xs.size - 1 - i]? = some (xs[xs.size - 1 - i]'(by omega)) := Array.getElem?_eq_getElem (by omega)
    refine next_rt_item h1 h2 hx hz fun h' h3 sb => ?_
    have e2 : ((xs.size - 1 - i : Nat) : Int) - 1 = (xs.size : Int) - 1 - ((i + 1 : Nat) : Int) := by omega
    rw [e2] at h3
    exact q _ h' (s.toks + 1) hx ⟨hi, h3, tup_keep h2 fun o e => (sb.2 t hne).trans e⟩ fun b o hb e => (sb.2 b fun z => hb (List.mem_singleton.mpr z)).trans e
  done := fun s Q E st q => by
    obtain ⟨_, h1, h2⟩ := st
    rw [show (xs.size : Int) - 1 - (xs.size : Int) = -1 by omega] at h1
    exact next_rt_end hh h1 fun h' eb => q h' s.toks fun b o hb e => eb b o (fun z => hb (List.mem_singleton.mpr z)) e
  self := fun i s Q E st q => iter_rt st.2.1 q
theorem collect_rt {it t : Addr} {xs : Array Value} {Q : List Value → Shared → Prop} (hh : A.handled = none) (hit : IsRt s.heap it t ((xs.size : Int) - 1)) (ht : IsTup s.heap t xs) (hne : t ≠ it) (hz : xs.size ≤ sizeLine)
    (q : ∀ (h' : Heap) (tk : Nat) (acc : Array Value), (∀ b o, b ≠ it → s.heap.get? b = some o → h'.get? b = some o) → ItemsOf (fun i v => xs[xs.size - 1 - i]? = some v) acc xs.size → Q acc.toList { s with heap := h', toks := tk }) : wpAny (model prog w) A (collect (.ref it)) Q E s := by
  have W := (walks_rt (prog := prog) (w := w) (A := A.in1) hh it t hne xs hz).toS
  have l1 : s.heap.objs.size ≠ it := by obtain ⟨o, ho, _⟩ := id hit; exact Nat.ne_of_gt (Heap.lt_size ho)
  have l2 : s.heap.objs.size ≠ t := by obtain ⟨o, ho, _⟩ := id ht; exact Nat.ne_of_gt (Heap.lt_size ho)
  have lf : s.heap.objs.size ∉ [it, t] := by simp only [List.mem_cons, List.not_mem_nil, or_false, not_or]; exact ⟨l1, l2⟩
  unfold collect; refine wpAny_bind (wpAny_runValue (codeAny_builtin F.entry_proto_collect ?_)); rw [Around.under_plainId F.plain_proto_collect _]
  show wpAny _ A.in1 (newList [] >>= fun l => again (.builtin "list.__iadd__" { pos := [l, .ref it], kw := [] })) _ _ s
  refine wpAny_bind (wpAny_newObj_type ?_); refine wpAny_pure ⟨plainId_quiet F.plain_list_iadd _, codeAny_builtin F.entry_list_iadd ?_⟩; rw [Around.under_plainId F.plain_list_iadd _]
  generalize hL : ({ cls := .type "list", data := .seq ([] : List Value).toArray } : Obj) = Lo
  have hS : (s.heap.push Lo).get? s.heap.objs.size = some Lo := by subst hL; exact Heap.get?_push_size _ rfl
  have hi1 : IsRt (s.heap.push Lo) it t ((xs.size : Int) - 1) := hit.at fun o e => Heap.get?_push_of_some _ e
  have ht1 : IsTup (s.heap.push Lo) t xs := tup_keep ht fun o e => Heap.get?_push_of_some _ e
  have hT : ({ s with heap := s.heap.push Lo } : Shared).TypeIs (.ref it) "reversed" := IsRt.typeIs (s := { s with heap := s.heap.push Lo }) hi1
  have hr : Builtin.List.listSameRef (.ref s.heap.objs.size) (.ref it) = false := by simp [Builtin.List.listSameRef, l1]
  show wpAny _ A.in1 (Builtin.List.listExtendWith (.ref s.heap.objs.size) (.ref it) (.ref s.heap.objs.size)) _ _ { s with heap := s.heap.push Lo }
  unfold Builtin.List.listExtendWith; refine wpAny_bind (wpAny_typeOf hT ?_); rw [if_neg (by rw [hr]; decide)]
  refine wpAny_bind (iter_rt (s := { s with heap := s.heap.push Lo }) hi1 (wpAny_bind (wpAny_holding ?_)))
  unfold Builtin.List.listLengthHint; refine wpAny_bind (wpAny_specialOf hT rv_len0 ?_)
  show wpAny _ A.in1 (specialOf (Value.ref it) (Str.ofString "__length_hint__") >>= _) _ _ { s with heap := s.heap.push Lo }
  refine wpAny_bind (wpAny_specialOf hT rv_hint ?_)
  generalize hid : ("reversed.__length_hint__" : String) = id0
  wp_delta
  rw [show splitId id0 = some ("reversed", "__length_hint__") from by subst hid; decide +kernel]; subst hid
  refine wpAny_bind (wpAny_isInstance (b := true) hT (by rw [isSubtype_type]; kernel_rfl) ?_); rw [if_neg (by decide)]
  show wpAny _ _ (if _ then _ else _) _ _ _
  rw [if_neg (by decide +kernel)]
  refine wpAny_bind (wpAny_rule (wpAny_bind (wpAny_of_eq (slot_rh.bind _) (wpAny_bind (wpAny_attempt (hint_rt (s := { s with heap := s.heap.push Lo }) hi1 ht1 hz fun tk tk2 => ?_))))))
  have n0 : (0 : Int) ≤ (xs.size : Int) := Int.natCast_nonneg _
  have f1 : Builtin.List.listFitsIndex (xs.size : Int) = true := by unfold Builtin.List.listFitsIndex; rw [sizeLine_eq] at hz; simp; omega
  have f2 : Builtin.List.listTooLong ((xs.size : Int)).toNat = false := by unfold Builtin.List.listTooLong; simp; exact hz
  generalize hn : (xs.size : Int) = n at f1 f2 n0 ⊢
  dsimp only
  have ea : asInt? (.int n tk) = pure (some n) := rfl
  rw [ea]
  refine wpAny_bind (wpAny_pure ?_)
  dsimp only
  rw [f1, if_neg (by decide), if_neg (Int.not_lt.mpr n0), f2, if_neg (by decide)]
  refine wpAny_pure ?_
  have e0 : ((xs.size : Nat) : Int) - 1 - ((0 : Nat) : Int) = (xs.size : Int) - 1 := by omega
  have fin : ∀ (h3 : Heap) (c : Nat), (∀ b o, b ≠ s.heap.objs.size → (s.heap.push Lo).get? b = some o → h3.get? b = some o) → h3.get? s.heap.objs.size = some { cls := .type "list", dict := none, data := .seq ([] : List Value).toArray c, slots := #[] } →
      codeAny (model prog w) A (.builtin "list.extend.loop" { pos := [.ref s.heap.objs.size, .ref it, .ref s.heap.objs.size], kw := [] }) (fun r s' => match r with
        | .ok (.ret v) => wpAny (model prog w) A (match v with
          | .ref a => do
            let o ← load a
            match o.data with
            | .seq ys _ => pure ys.toList
            | _ => unsupported "internal:collect"
          | _ => unsupported "internal:collect") Q E s'
        | .ok _ => False
        | .error e => E e s') { s with heap := h3, toks := tk2 } := fun h3 c k3 h3S => by
    refine codeAny_extend_loopS W hz _ lf _ xs.size 0 { s with heap := h3, toks := tk2 } _ c rfl (Nat.zero_le _) ⟨Nat.zero_le _, by rw [e0]; exact hi1.at fun o e => k3 it o l1.symm e, tup_keep ht1 fun o e => k3 t o l2.symm e⟩ h3S (ItemsOf.nil _) fun s2 acc2 c2 mv hS2 ha2 => ?_
    show wpAny _ A (load s.heap.objs.size >>= _) _ _ s2
    refine wpAny_bind (wpAny_load hS2 (wpAny_pure ?_))
    rw [Moved.eq_with mv]
    refine q s2.heap s2.toks acc2 (fun b o hb e => mv.heap b o (fun hm => ?_) (k3 b o (Nat.ne_of_lt (Heap.lt_size e)) (Heap.get?_push_of_some _ e))) ha2
    rcases List.mem_cons.mp hm with z | hm
    · rw [z] at e; exact absurd (Heap.lt_size e) (Nat.lt_irrefl _)
    · exact hb (List.mem_singleton.mp hm)
  by_cases hn0 : n = 0
  · rw [show (n != 0) = false by rw [hn0]; rfl, if_neg (by decide +kernel)]
    subst hL
    exact wpAny_pure ⟨plainId_quiet F.plain_extend_loop _, fin _ _ (fun b o _ e => e) hS⟩
  · rw [show (n != 0) = true by simp [hn0], Bool.true_or, if_pos rfl]
    subst hL
    refine wpAny_bind (wpAny_rule ?_)
    refine wpAny_bind ?_
    show wpAny _ _ (updateSeq s.heap.objs.size (·.push .none) >>= fun _ => updateSeq s.heap.objs.size (·.pop)) _ _ _
    refine wpAny_bind (wpAny_updateSeq hS rfl ?_)
    have hS1 := Heap.get?_update_self (Obj.mapSeq (·.push .none)) hS rfl
    refine wpAny_updateSeq hS1 rfl ?_
    have hS2 := Heap.get?_update_self (Obj.mapSeq (·.pop)) hS1 rfl
    refine wpAny_pure ⟨plainId_quiet F.plain_extend_loop _, fin _ _ (fun b o hb e => ?_) hS2⟩
    exact (Heap.get?_update_other _ _ (Ne.symm hb)).trans ((Heap.get?_update_other _ _ (Ne.symm hb)).trans e)
theorem code_rt {it t : Addr} {xs : Array Value} {Q₁ : Value → Shared → Prop} (hh : A.handled = none) (hit : IsRt s.heap it t ((xs.size : Int) - 1)) (ht : IsTup s.heap t xs) (hne : t ≠ it) (hz : xs.size ≤ sizeLine)
    (q : ∀ (h' : Heap) (tk : Nat) (acc : Array Value), (∀ b o, b ≠ it → s.heap.get? b = some o → h'.get? b = some o) → ItemsOf (fun i v => xs[xs.size - 1 - i]? = some v) acc xs.size → Q₁ (.ref h'.objs.size) { s with heap := h'.push { cls := .type "tuple", data := .seq acc }, toks := tk }) :
    codeAny (model prog w) A (.call (.builtin "tuple.__new__") { pos := [.type "tuple", .ref it], kw := [] }) (wants Q₁ E) s := by
  refine codeAny_of_tree ?_
  show wpAny _ A.in1 (do checkBuiltinCall "tuple.__new__" { pos := [.type "tuple", .ref it], kw := [] }; again (.builtin "tuple.__new__" { pos := [.type "tuple", .ref it], kw := [] })) _ _ s
  refine wpAny_bind (wpAny_of_eq (F.newCall_tuple_1 (.ref it)) (wpAny_pure ⟨plainId_quiet F.plain_tuple_new _, codeAny_builtin F.entry_tuple_new ?_⟩)); rw [Around.under_plainId F.plain_tuple_new _]
  have hsub := sub_tuple_self
  have hinit := init_tuple_lookup
  have hmh := madeHere_tuple
  have hTI : s.TypeIs (.ref it) "reversed" := hit.typeIs
  have h1 : A.in1.handled = none := hh
  wp_walk using wpAny_typeOf hTI, collect_rt (A := A.in1) h1 hit ht hne hz
  intro h' tk acc hk ha
  show wpAny _ _ (Builtin.Tuple.tupleExact acc.toList.toArray >>= fun v => ret v) _ _ _
  unfold Builtin.Tuple.tupleExact; refine wpAny_bind (wpAny_newObj_type ?_ (by show acc.toList.toArray.size ≤ sizeLine; rw [Array.toArray_toList, ha.1]; exact hz)); refine wpAny_pure ?_
  rw [show acc.toList.toArray = acc from Array.toArray_toList]
  exact q h' tk acc hk ha
theorem call_rt {it t : Addr} {xs : Array Value} {Q : Value → Shared → Prop} (hh : A.handled = none) (hit : IsRt s.heap it t ((xs.size : Int) - 1)) (ht : IsTup s.heap t xs) (hne : t ≠ it) (hz : xs.size ≤ sizeLine)
    (q : ∀ (h' : Heap) (tk : Nat) (acc : Array Value), (∀ b o, b ≠ it → s.heap.get? b = some o → h'.get? b = some o) → ItemsOf (fun i v => xs[xs.size - 1 - i]? = some v) acc xs.size → Q (.ref h'.objs.size) { s with heap := h'.push { cls := .type "tuple", data := .seq acc }, toks := tk }) :
    wpAny (model prog w) A (call (.type "tuple") [.ref it]) Q E s := by
  refine callType_codes (Q₁ := fun o s1 => s1.TypeIs o "tuple" ∧ Q o s1) F.called_tuple (F.typeCall_tuple_1 _) F.entry_object_init (code_rt (A := A.in1) hh hit ht hne hz fun h' tk acc hk ha => ⟨⟨_, Heap.get?_push_size _ rfl, rfl⟩, q h' tk acc hk ha⟩) fun o s1 h1 => ?_
  exact ⟨h1.1, F.args_object_init_2 o _, object_init_meets F.called_tuple.init.lookup F.called_tuple.made (by decide) prog w A.in1 _ s1 ⟨h1.1, rfl, h1.2⟩⟩
end
/-- tuple(reversed(x)), x a tuple -/
def tTupRt (K : PySem.W.Frag) (te : TE) : TE := fun σ H Q => te σ H fun v H1 => ∃ (a : Addr) (xs : List V), v = .ref a ∧ SqT K H1 a xs ∧ ∀ q, H1 q = none → Q (.ref q) (upd H1 q (.tup xs.reverse))
theorem pe_tupRt {X : Cx} {e : Expr} {te : TE} {p p2 pos pos2 : Pos} (hc : X.calm = true) (hg : Gl X "tuple") (hm : X.mg "tuple" = none) (hg2 : Gl X "reversed") (hm2 : X.mg "reversed" = none) (he : PE X e te)
    (hs : starEach [e] X.env = (false, eval e X.env) :: starEach [] X.env := by rfl) (hs2 : starEach [.Call (.Name "reversed" p2) [e] [] pos2] X.env = (false, eval (.Call (.Name "reversed" p2) [e] [] pos2) X.env) :: starEach [] X.env := by rfl) :
    PE X (.Call (.Name "tuple" p) [.Call (.Name "reversed" p2) [e] [] pos2] [] pos) (tTupRt X.K te) := by
  refine ⟨fun pins s σ H Q I h => ?_⟩
  refine Call_ (ld_blt I hg hm boot_tuple (PyProof.Rows.callWith_type1 (args_cons (Call_ (ld_blt I hg2 hm2 PyProof.Rows.boot_reversed (PyProof.Rows.callWith_type1 (args_cons (thn (he.run pins s σ H _ I h) fun u s1 y => args_nil ?_) hs) hs rfl))) hs2) hs2 rfl))
  obtain ⟨v, H1, I1, r1, a, xs, rfl, hq, q⟩ := y
  obtain rfl : u = Value.ref a := r1
  obtain ⟨its, rv, pl, hz⟩ := I1.tuple hq
  have hn : its.toArray.size ≤ sizeLine := by rw [List.size_toArray, ← rv.length]; exact hz
  refine call_reversed_tup pl (fun A E Q k => len_tuple pl (by rw [sizeLine_eq] at hn; omega) k) (args_nil ?_)
  have k0 : ∀ b o, s1.heap.get? b = some o → (s1.heap.push (rtObj a ((its.toArray.size : Int) - 1))).get? b = some o := fun b o e => Heap.get?_push_of_some _ e
  have I2 : Inv X pins σ H1 { s1 with heap := s1.heap.push (rtObj a ((its.toArray.size : Int) - 1)), toks := s1.toks + 1 + 1 } := I1.kept (t' := s1.toks + 1 + 1) k0
  obtain ⟨f0, f1, f2, f3, f4, f5⟩ := I1.fpOk (H' := H1) (b := s1.heap.objs.size) (Nat.le_refl _) (I1.hok.fresh (Nat.le_refl _))
  have hne : a ≠ s1.heap.objs.size := by obtain ⟨o, ho, _⟩ := id pl; exact Nat.ne_of_lt (Heap.lt_size ho)
  refine call_rt (s := { s1 with heap := s1.heap.push (rtObj a ((its.toArray.size : Int) - 1)), toks := s1.toks + 1 + 1 }) (I1.ok.hd hc) ⟨_, Heap.get?_push_size _ rfl, rfl, rfl⟩ (tup_keep pl (k0 a)) hne hn fun h' tk acc hk hi => ?_
  have I3 : Inv X pins σ H1 { s1 with heap := h', toks := tk } := I2.turned (t' := tk) (fun b o hb e => hk b o hb e) f0 f1 f3 f4 f5
  have vr := vals_rev rv hi
  refine ⟨.ref h'.objs.size, upd H1 h'.objs.size (.tup xs.reverse), I3.laid (t' := tk) (fun c o e => Heap.get?_push_of_some _ e) (Nat.le_refl _) (show ObjOk X.prog X.w _ _ _ (.tup xs.reverse) from ⟨by rw [List.length_reverse]; exact hz, acc.toList, vr, by rw [Array.toArray_toList]; exact IsTup.new _ _⟩), rfl, q _ (I3.hok.fresh (Nat.le_refl _))⟩
theorem RpL.reverse {K : PySem.W.Frag} {C : Nat → Addr} {G : Hp} : ∀ {vs : List V} {ds : List D}, RpL K C G vs ds → RpL K C G vs.reverse ds.reverse
  | _, _, .nil => .nil
  | _, _, .cons h r => by
    rw [List.reverse_cons, List.reverse_cons]
    exact (RpL.reverse r).append (.cons h .nil)
def revT : D → Option D
  | .tup ds => some (.tup ds.reverse)
  | _ => none
theorem de_tupRt {X : Cx} {cc : Cc} {a : Expr} {da : ENV → R D} {p p2 pos pos2 : Pos} (hc : X.calm = true) (hg : Gl X "tuple") (hm : X.mg "tuple" = none) (hg2 : Gl X "reversed") (hm2 : X.mg "reversed" = none) (ha : DE X cc a da)
    (hs : starEach [a] X.env = (false, eval a X.env) :: starEach [] X.env := by rfl) (hs2 : starEach [.Call (.Name "reversed" p2) [a] [] pos2] X.env = (false, eval (.Call (.Name "reversed" p2) [a] [] pos2) X.env) :: starEach [] X.env := by rfl) :
    DE X cc (.Call (.Name "tuple" p) [.Call (.Name "reversed" p2) [a] [] pos2] [] pos) (dUn revT da) := by
  refine PE.imp (pe_tupRt hc hg hm hg2 hm2 ha hs hs2) fun σ H Q ⟨B, ρ, G, R0, h⟩ => ⟨B, ρ, G, R0, h.bind fun d1 ρ1 G1 H1 x e1 R1 p1 h1 => ?_⟩
  cases p1 with
  | @tup a xs ds h r =>
    refine ⟨a, xs, rfl, same_seqT R1.gk h, fun p hp => ?_⟩
    have g := Grow.new (o := .tup xs.reverse) R1.gk hp
    exact Post.fin h1 R1 (Ext.refl _ _) g (.tup (.inl (.inl upd_same)) ((RpL.reverse r).mono g.gg))
  | _ => exact h1.elim
/-! ### a tuple times a number -/
def vMulT : D → D → Option D
  | .tup ds, .int n => if 1 ≤ ds.length ∧ ds.length ≤ 1000 ∧ 2 ≤ n ∧ n ≤ 1000 then some (.tup (List.replicate n.toNat ds).flatten) else none
  | _, _ => none
theorem v2_mulT {K : PySem.W.Frag} {C : Nat → Addr} : V2 K C vMulT (rRepT K) := by
  intro G H x y dx dy d Q s px py e k
  cases px with
  | @tup a xs ds h1 r1 =>
    cases py with
    | int n =>
      have e : (if 1 ≤ ds.length ∧ ds.length ≤ 1000 ∧ 2 ≤ n ∧ n ≤ 1000 then some (D.tup (List.replicate n.toNat ds).flatten) else none) = some d := e
      split at e
      · rename_i q
        cases e
        have hl := r1.length
        refine ⟨a, n, xs, rfl, rfl, same_seqT s h1, fun z => ?_, q.2.2.1, q.2.2.2, by omega, fun p hp => ?_⟩
        · rw [z] at hl
          have : ds.length = 0 := hl.symm
          omega
        · have g := Grow.new (o := .tup (List.replicate n.toNat xs).flatten) s hp
          exact k _ _ _ g (.tup (.inl (.inl upd_same)) ((r1.mono g.gg).rep _))
      · cases e
    | _ => cases e
  | _ => cases py <;> cases e
theorem de_mulT {X : Cx} {cc : Cc} {a b : Expr} {da db : ENV → R D} {pos : Pos} (ha : DE X cc a da) (hb : DE X cc b db) : DE X cc (.BinOp a .Mult b pos) (dOp vMulT da db) := de_op op_repT v2_mulT ha hb
end Rf
set_option Elab.async false
set_option linter.all false
set_option maxRecDepth 100000
set_option maxHeartbeats 2000000
/-! Rf27: defs called while an exception is handled (in an except suite) -/
namespace Rf
open PySem PySem.Spec L2 PyProof.Rows L2H
abbrev RoomH := L2H.RoomH
/-- what a def promises there -/
structure FnQ (P : Program) (w : World) (K : PySem.W.Frag) (mg : Str → Option Value) (base : Heap) (CX : CXT) (k : Nat) (f : Addr) (fd : FuncData) (ps : List Str) (sp : Sp) : Prop where
  len : ∀ vs H Q E, sp vs H Q E → vs.length = ps.length
  run : ∀ (A : Around) (outer : List Env) (s : Shared) (H : Hp) (as : Args) (us : List Value) (vs : List V) (Q : VK) (E : XK), RoomH k A → Env0 P w K mg base A outer s H → BindsTo s fd as (ps.zip us) → Vals vs us → sp vs H Q E → codeAny (model P w) A (.call (.ref f) as) (CR CX outer P w H s Q E) s
theorem FnQ.mono {P : Program} {w : World} {K : PySem.W.Frag} {mg : Str → Option Value} {base : Heap} {CX : CXT} {j k : Nat} {f : Addr} {fd : FuncData} {ps : List Str} {sp : Sp} (F : FnQ P w K mg base CX j f fd ps sp) (h : j ≤ k) : FnQ P w K mg base CX k f fd ps sp :=
  ⟨F.len, fun A outer s H as us vs Q E hr => F.run A outer s H as us vs Q E (hr.mono h)⟩
/-- the context of its body -/
def cxQ (CX : CXT) (P : Program) (w : World) (K : PySem.W.Frag) (mg : Str → Option Value) (base : Heap) (N : List Str) (qual : Str) (scope : Scope) (f : Addr) (cd : Value) (A : Around) (outer : List Env) (s : Shared) (H : Hp) (E : XK) : Cx where
  prog := P
  w := w
  K := K
  mg := mg
  base := base
  A := A.deeper (PySem.W.envX qual scope s.heap.objs.size f cd [])
  N := N
  s_0 := s
  H_0 := H
  env := PySem.W.envX qual scope s.heap.objs.size f cd []
  outer := outer
  stack := PySem.W.envX qual scope s.heap.objs.size f cd [] :: outer
  ex := []
  calm := false
  fn := fun _ => false
  pn := []
  xe := fun e s' => wpAny (model P w) (A.deeper (PySem.W.envX qual scope s.heap.objs.size f cd [])) (leaving (PySem.W.envX qual scope s.heap.objs.size f cd []) e) (fun _ s'' => CX outer H s E e s'') (fun e' s'' => CX outer H s E e' s'') s'
/-- a look at the scope -/
structure ScQ (N ps : List Str) (sc : Scope) : Prop where
  kind : sc.kind = .function
  co : sc.isCoroutine = false
  gen : sc.isGenerator = false
  nd : N.Nodup
  pre : N.take ps.length = ps
  loc : ∀ x ∈ ps, sc.names.lookup x = some .local
  nocell : ∀ y ∈ sc.names, y.2 ≠ .cell
  nofree : ∀ y ∈ sc.names, y.2 ≠ .free
section
variable {CX : CXT} {P : Program} {w : World} {K : PySem.W.Frag} {mg : Str → Option Value} {base : Heap} {N ps : List Str} {qual : Str} {scope : Scope} {f : Addr} {cd : Value} {A : Around} {outer : List Env} {s : Shared} {H : Hp} {E : XK} {us : List Value} {vs : List V}
theorem inv_startQ {h1 : Heap} {tk : Nat} (S : ScQ N ps scope) (e0 : Env0 P w K mg base A outer s H) (hl : vs.length = ps.length) (r : Vals vs us)
    (ns : h1.Ns s.heap.objs.size fun x => (ps.zip us).reverse.lookup x) (kp : ∀ b o, s.heap.get? b = some o → h1.get? b = some o) :
    Inv (cxQ CX P w K mg base N qual scope f cd A outer s H E) [] (L2.start N vs) H { s with heap := h1, toks := tk } := by
  have pl : ps.length ≤ N.length := by have := congrArg List.length S.pre; rw [List.length_take] at this; omega
  have ndP : ps.Nodup := by rw [← S.pre]; exact S.nd.sublist (List.take_sublist _ _)
  refine ⟨⟨e0.mod, S.kind, rfl, rfl, Nat.le_refl _, fun y z c a b => (by cases a), fun y hy => ?_, fun y c z _ => Bool.noConfusion (show false = true from z), fun z => Bool.noConfusion (show false = true from z), Around.frames_deeper e0.frames, .inr ⟨rfl, rfl⟩, fun b z => absurd (show b ∈ ([] : List Addr) from z) (by simp), e0.bs, e0.bsz, fun b _ _ z => absurd (show b ∈ ([] : List Addr) from z) (by simp), fun b z => absurd (show b ∈ ([] : List Addr) from z) (by simp), e0.funs, e0.frf⟩,
    rfl, e0.bare, Un.kept kp, ⟨_, ns, fun i y v h1 h2 h3 => ?_⟩, fun y c h => (by cases h), e0.hok.fresh (Nat.le_refl _), fun y c h => (by cases h), fun p hp => absurd (show p ∈ ([] : List (Addr × Obj)) from hp) (by simp), e0.hok.kept kp, ?_⟩
  · have hy : scope.names.lookup y = some .cell ∨ scope.names.lookup y = some .free := hy
    rcases hy with hy | hy
    · exact absurd rfl (S.nocell _ (PySem.mem_of_lookup hy))
    · exact absurd rfl (S.nofree _ (PySem.mem_of_lookup hy))
  · unfold L2.start at h2
    by_cases hi : i < vs.length
    · rw [List.getElem?_append_left (by rw [List.length_map]; exact hi), List.getElem?_map] at h2
      cases ea : vs[i]? with
      | none => rw [ea] at h2; cases h2
      | some a =>
        rw [ea] at h2
        cases h2
        obtain ⟨u, hu, rv⟩ := r.get ea
        have hp : ps[i]? = some y := by rw [← S.pre, List.getElem?_take_of_lt (by omega)]; exact h1
        exact ⟨u, rv, .inl ⟨S.loc y (List.mem_of_getElem? hp), zip_rev ndP hp hu⟩⟩
    · rw [List.getElem?_append_right (by rw [List.length_map]; omega), List.getElem?_replicate] at h2
      split at h2 <;> cases h2
  · unfold L2.start
    show _ = N.length
    rw [List.length_append, List.length_map, List.length_replicate]
    omega
theorem fn_ofQ {k : Nat} {name : Str} {params : Arguments} {body : List Stmt} {dV kV doc pm cdv ct oc : Value} {an od : Option Addr} {osl : Array (Option Value)} {sp : Sp}
    (lk : K.lookup f = some ⟨oc, od, .func (PySem.W.fnOf name qual params body scope dV kV doc pm an cdv ct), osl⟩) (hcd : PySem.W.codeIn K cdv qual = true) (S : ScQ N ps scope) (len : ∀ vs H Q E, sp vs H Q E → vs.length = ps.length)
    (hb : ∀ (cdv : Value) (A : Around) (outer : List Env) (s : Shared) (H : Hp) (vs : List V) (Q : VK) (E : XK), RoomH k (A.deeper (PySem.W.envX qual scope s.heap.objs.size f cdv [])) → sp vs H Q E → ∃ t, PSs (cxQ CX P w K mg base N qual scope f cdv A outer s H E) body t ∧ t { nx := fun _ H' => Q .non H', rt := Q } (L2.start N vs) H) :
    FnQ P w K mg base CX (k + 1) f (PySem.W.fnOf name qual params body scope dV kV doc pm an cdv ct) ps sp := by
  refine ⟨len, fun A outer s H as us vs Q E hr e0 hbind rv hsp => ?_⟩
  have KX : K.In s.heap := e0.mod.kin.keeps fun b o e => (e0.bs b o e).1
  have lim : s.heap.NoLimit := e0.mod.nolimit.keeps fun b o e => (e0.bs b o e).1
  have hlv := len _ _ _ _ hsp
  obtain ⟨t, ht, hq⟩ := hb cdv A outer s H vs Q E (hr.deeper _) hsp
  refine ks_codeAny_call_defAt (binds := ps.zip us) hr.depth (KX _ _ lk) rfl lim (PySem.W.codeRec_of KX hcd) rfl hbind S.nocell (fun y hy => S.loc y.1 (List.of_mem_zip hy).1) (fun h1 ns kp => ?_) S.co S.gen S.kind
  have I : Inv (cxQ CX P w K mg base N qual scope f cdv A outer s H E) [] (L2.start N vs) H { s with heap := h1, toks := s.toks + (ps.zip us).length } := inv_startQ S e0 hlv rv ns kp
  have fin : ∀ {σ' : L2.St} {H' : Hp} {v : V} {u : Value} {s2 : Shared}, Inv (cxQ CX P w K mg base N qual scope f cdv A outer s H E) [] σ' H' s2 → RelV v u → Q v H' → CE outer P w H s Q u s2 :=
    fun {σ' H' v u s2} J rv q => ⟨v, H', J.os, J.bare, J.base, J.hok, rv, q⟩
  refine wpAt_of_wpAny (wpAny_mono (ht.run [] _ _ H _ I hq) (fun fl s2 hs => ?_) fun e s2 hs => hs)
  cases fl with
  | ret u =>
    obtain ⟨v, σ', H', J, rv, q⟩ := hs
    exact fin J rv q
  | next =>
    obtain ⟨σ', H', J, q⟩ := hs
    exact fin (v := V.non) (u := Value.none) J rfl q
  | brk =>
    obtain ⟨_, _, _, q⟩ := hs
    exact q.elim
  | cont =>
    obtain ⟨_, _, _, q⟩ := hs
    exact q.elim
end
section
variable {X : Cx} {CX : CXT} {k : Nat} {f : Addr} {fd : FuncData} {ps : List Str} {sp : Sp} {E : L2.St → XK} {x : Str} {q pos : Pos} {e : Expr} {es : List Expr} {t : TA}
theorem pe_callQ (F : FnQ X.prog X.w X.K X.mg X.base CX k f fd ps sp) (hr : RoomH k X.A) (hg : Gl X x) (hm : X.mg x = some (.ref f)) (hk : PySem.W.keepIn X.K (.ref f) = true) (hb : Binds X.K fd ps []) (hx : ∀ σ, PassesAt CX X σ (E σ))
    (ha : PA X (e :: es) t) (hdb : (x == ("__debug__" : Str)) = false := by decide) (he : starEach (e :: es) X.env = (false, eval e X.env) :: starEach es X.env := by rfl) (hpl : (backTo pos (starEach es X.env)).any (·.1) = false := by rfl) :
    PE X (.Call (.Name x q) (e :: es) [] pos) (tCallS sp E t) := by
  refine ⟨fun pins s σ H Q I h => wpAny_Call_Name_kw (ld_glob I hg hm ?_ hdb)⟩
  refine PySem.W.callWith_K (h₀ := X.base) I.ok.mod.kin hk (thn (ha.run pos pins s σ H _ I h) fun us s1 y => ?_) he hpl
  obtain ⟨vs, H1, I1, r, hs⟩ := y
  refine ⟨I1.kIn, ?_⟩
  have hl : us.length = ps.length := by rw [← r.length]; exact F.len _ _ _ _ hs
  have b := hb s1 us I1.kIn (by rw [List.append_nil]; exact hl)
  rw [List.append_nil] at b
  refine wpAny_call (codeAny_mono (F.run X.A X.stack s1 H1 { pos := us, kw := [] } us vs Q (E σ) hr I1.env0 b r hs) fun r s' hq => ?_)
  cases r with
  | error e => exact hx σ pins H1 s1 e s' I1 hq
  | ok fl =>
    cases fl with
    | ret u => exact I1.after hq
    | next => exact hq.elim
    | brk => exact hq.elim
    | cont => exact hq.elim
end
section
variable {P : Program} {w : World} {K : PySem.W.Frag} {mg : Str → Option Value} {base : Heap} {C : Nat → Addr}
/-- THE RULE: a def by the denotation of its body -/
theorem fn_coreQ {qual : Str} {body : List Stmt} {sc : Scope} {f : Addr} {fd : FuncData} {N ps : List Str} {k : Nat}
    (rule : ∀ sp : Sp, (∀ vs H Q E, sp vs H Q E → vs.length = ps.length) → (∀ (cdv : Value) (A : Around) (outer : List Env) (s : Shared) (H : Hp) (vs : List V) (Q : VK) (E : XK), RoomH k (A.deeper (PySem.W.envX qual sc s.heap.objs.size f cdv [])) → sp vs H Q E →
      ∃ t, PSs (cxQ (L2.CX P w) P w K mg base N qual sc f cdv A outer s H E) body t ∧ t { nx := fun _ H' => Q .non H', rt := Q } (L2.start N vs) H) → FnQ P w K mg base (L2.CX P w) (k + 1) f fd ps sp)
    (pr : List Nat) {den : ENV → R Fl} (hlen : ps.length ≤ N.length)
    (hb : ∀ (cdv : Value) (A : Around) (outer : List Env) (s : Shared) (H : Hp) (E : XK) (ad : Nat → Addr), RoomH k (A.deeper (PySem.W.envX qual sc s.heap.objs.size f cdv [])) →
      DSs (cxQ (L2.CX P w) P w K mg base N qual sc f cdv A outer s H E) ⟨C, fun cl d _ H => E cl d H, pr, ad, fun _ => none⟩ body den) : FnQ P w K mg base (L2.CX P w) (k + 1) f fd ps (spF K C ps.length (runF pr N.length den)) := by
  refine rule _ (fun vs H Q E h => ?_) (fun cdv A outer s H vs Q E hr h => ?_)
  · obtain ⟨ds, B, G, e, _⟩ := h
    exact e
  · obtain ⟨ds, B, G, hn, sB, sG, ar, ap, hF⟩ := h
    have hpos : owPos 0 ds = pr := by
      unfold runF at hF
      by_cases q : owPos 0 ds = pr
      · exact q
      · rw [if_neg q] at hF; exact hF.elim
    have hl := ar.length
    have R0 : Rl K ⟨C, fun cl d _ H => E cl d H, pr, adOf vs, fun _ => none⟩ B (startE N.length ds) (L2.start N vs) G H := by
      refine ⟨sB, sG, ?_, fun i d e => ?_, fun i m e => ?_, fun i j m m' p e1 e2 e3 e4 => ?_, fun i hi => ?_, fun _ _ e => nomatch e⟩
      · unfold L2.start startE
        rw [List.length_append, List.length_append, List.length_map, List.length_map, List.length_replicate, List.length_replicate, hl]
      · obtain ⟨v, h1, h2⟩ := ar.getSh (startE_get e)
        exact ⟨v, start_get h1, h2⟩
      · obtain ⟨p, h1, h2⟩ := ar.getOw (startE_get e)
        exact ⟨p, start_get h1, h2⟩
      · have g1 := startE_get e1
        have g2 := startE_get e2
        obtain ⟨p1, h1, _⟩ := ar.getOw g1
        obtain ⟨p2, h2, _⟩ := ar.getOw g2
        rw [start_get h1] at e3
        rw [start_get h2] at e4
        cases e3; cases e4
        exact ap i j m m' _ g1 g2 h1 h2
      · have hi : i ∈ pr := hi
        rw [← hpos] at hi
        obtain ⟨j, m, e, q⟩ := owPos_at ds 0 i hi
        rw [Nat.zero_add] at e
        subst e
        obtain ⟨p, h1, _⟩ := ar.getOw q
        rw [start_get h1]
        show _ = some (some (V.ref (adOf vs i)))
        unfold adOf
        rw [h1]
    refine ⟨_, hb cdv A outer s H E (adOf vs) hr, B, startE N.length ds, G, R0, ?_⟩
    unfold runF at hF
    rw [if_pos hpos] at hF
    have pos : ∀ {j : Nat} {m : M}, ds[j]? = some (.ow m) → j ∈ pr := by
      have go : ∀ (ds : List DV) (k j : Nat) (m : M), ds[j]? = some (.ow m) → k + j ∈ owPos k ds := by
        intro ds
        induction ds with
        | nil => intro k j m h; simp at h
        | cons a r ih =>
          intro k j m h
          cases j with
          | zero => simp at h; subst h; simp [owPos]
          | succ j =>
            have := ih (k + 1) j m (by simpa using h)
            rw [show k + 1 + j = k + (j + 1) by omega] at this
            cases a with
            | sh d => exact this
            | ow m' => exact List.mem_cons_of_mem _ this
      intro j m h
      have := go ds 0 j m h
      rw [hpos, Nat.zero_add] at this
      exact this
    have hσ : ∀ {σ' : L2.St} {ρ : ENV} {G' H' : Hp}, Rl K ⟨C, fun cl d _ H => E cl d H, pr, adOf vs, fun _ => none⟩ B ρ σ' G' H' → ∀ (j : Nat) (p : Addr), vs[j]? = some (.ref p) → (∃ m, ds[j]? = some (.ow m)) → σ'[0 + j]? = some (some (.ref p)) := by
      intro σ' ρ G' H' R j p h1 ⟨m, h2⟩
      have := R.pa j (pos h2)
      rw [Nat.zero_add, this]
      show some (some (V.ref (adOf vs j))) = _
      unfold adOf
      rw [h1]
    have fin : ∀ {v : DV} {ρ : ENV}, (match (match outsE 0 ds ρ with | some ms => FO.ok v ms | none => .bot) with
        | .ok v ms => ∀ x G' H', Ext B G G' → Same B H' → Same G' H' → Outs K C B G' H' vs ds ms → ValR K C B G' H' vs ds x v → Q x H'
        | .exc e ms => ∀ cl dd G' H', Ext B G G' → Same B H' → Same G' H' → Outs K C B G' H' vs ds ms → ERp K C G' e cl dd → E cl dd H'
        | .bot => False) → ∀ x σ' G' H', Ext B G G' → Rl K ⟨C, fun cl d _ H => E cl d H, pr, adOf vs, fun _ => none⟩ B ρ σ' G' H' → ValR K C B G' H' vs ds x v → Q x H' := by
      intro v ρ h x σ' G' H' ex R hv
      cases ho : outsE 0 ds ρ with
      | none => rw [ho] at h; exact h.elim
      | some ms => rw [ho] at h; exact h x G' H' ex R.bk R.gk (outs_of R ar (hσ R) ho) hv
    cases hd : den (startE N.length ds) with
    | ok fl ρ =>
      rw [hd] at hF
      cases fl with
      | nx => exact fun σ' G' H' ex R => fin hF .non σ' G' H' ex R .non
      | bk => exact hF.elim
      | ct => exact hF.elim
      | ret v =>
        cases v with
        | sh d => exact fun v σ' G' H' ex R p => fin hF v σ' G' H' ex R p
        | ow m =>
          refine fun p σ' G' H' ex R o n => ?_
          have hF' := hF
          dsimp only at hF'
          cases ho : outsE 0 ds ρ with
          | none => simp only [ho] at hF'
          | some ms =>
            have os := outs_of R ar (hσ R) ho
            refine fin hF (.ref p) σ' G' H' ex R ⟨p, rfl, o, fun i m' e z => ?_⟩
            -- the argument at i is owned at the end
            have own : ∀ {vs : List V} {ds : List DV} {k i : Nat} {ms : List M} {m' : M}, outsE k ds ρ = some ms → ds[i]? = some (.ow m') → ∃ m'', ρ[k + i]? = some (some (.ow m'')) := by
              intro vs ds
              induction ds with
              | nil => intro k i ms m' _ h; simp at h
              | cons a r ih =>
                intro k i ms m' h1 h2
                cases a with
                | sh d =>
                  cases i with
                  | zero => simp at h2
                  | succ i =>
                    obtain ⟨m'', q⟩ := ih (k := k + 1) (i := i) (m' := m') h1 (by simpa using h2)
                    exact ⟨m'', by rw [show k + (i + 1) = k + 1 + i by omega]; exact q⟩
                | ow m0 =>
                  unfold outsE at h1
                  split at h1
                  · rename_i m1 hm
                    cases i with
                    | zero => exact ⟨m1, hm⟩
                    | succ i =>
                      cases ho : outsE (k + 1) r ρ with
                      | none => rw [ho] at h1; cases h1
                      | some ms' =>
                        obtain ⟨m'', q⟩ := ih (k := k + 1) (i := i) (m' := m') ho (by simpa using h2)
                        exact ⟨m'', by rw [show k + (i + 1) = k + 1 + i by omega]; exact q⟩
                  · cases h1
            obtain ⟨m'', q⟩ := own (vs := vs) ho e
            have h3 := hσ R i p z ⟨m', e⟩
            exact n _ m'' q h3
    | exc e ρ =>
      rw [hd] at hF
      refine fun cl dd σ' G' H' ex R er => ?_
      dsimp only at hF
      cases ho : outsE 0 ds ρ with
      | none => simp only [ho] at hF
      | some ms =>
        simp only [ho] at hF
        exact hF cl dd G' H' ex R.bk R.gk (outs_of R ar (hσ R) ho) er
    | bot => rw [hd] at hF; exact hF.elim

structure FkQ (P : Program) (w : World) (K : PySem.W.Frag) (mg : Str → Option Value) (base : Heap) (C : Nat → Addr) (x : Str) (n k : Nat) (F : List DV → FO) : Prop where
  ex : ∃ f fd ps, ps.length = n ∧ FnQ P w K mg base (L2.CX P w) k f fd ps (spF K C n F) ∧ mg x = some (.ref f) ∧ PySem.W.keepIn K (.ref f) = true ∧ Binds K fd ps []
theorem fkQ_of {x : Str} {st : Stmt} {N ps : List Str} {k : Nat} (d : Df K mg x st ps) (S : ScQ N ps (defScope st)) (pr : List Nat) {den : ENV → R Fl} (hlen : ps.length ≤ N.length)
    (hb : ∀ (f : Addr) (cdv : Value) (A : Around) (outer : List Env) (s : Shared) (H : Hp) (E : XK) (ad : Nat → Addr), RoomH k (A.deeper (PySem.W.envX x (defScope st) s.heap.objs.size f cdv [])) →
      DSs (cxQ (L2.CX P w) P w K mg base N x (defScope st) f cdv A outer s H E) ⟨C, fun cl d _ H => E cl d H, pr, ad, fun _ => none⟩ (defBody st) den) : FkQ P w K mg base C x ps.length (k + 1) (runF pr N.length den) := by
  obtain ⟨f, fd, F, hm, hbd⟩ := d.ex
  obtain ⟨oc, od, kV, doc, pm, an, cdv, ct, osl, rfl, l, c⟩ := F.ex
  exact ⟨f, _, ps, rfl, fn_coreQ (fun sp len h => fn_ofQ l c S len h) pr hlen (hb f), hm, F.kp, .all hbd⟩
end
section
variable {X : Cx} {cc : Cc} {x : Str} {n k : Nat} {F : List DV → FO} {dr : ENV → R (List Ag)} {p pos : Pos}
theorem hu65Q {X : Cx} {k : Nat} {A : Around} (hr : Room k A) (hu : X.A.units = A.units) : X.A.units + 65 < cLine := by have := hr.un; rw [hu]; omega
theorem roomQ {X : Cx} {j k : Nat} {A : Around} (hr : Room k A) (hd : X.A.depth = A.depth) (hu : X.A.units = A.units) (h : j ≤ k) : RoomH j X.A := ⟨by have := hr.dp; rw [hd]; omega, by have := hr.un; rw [hu]; omega⟩
theorem de_callQ {e : Expr} {es : List Expr} (c : FkQ X.prog X.w X.K X.mg X.base cc.C x n k F) (hr : RoomH k X.A) (tk : Takes X cc.W) (ha : DAg X cc (e :: es) dr) (hn : Many n dr) (hg : Gl X x := by rfl)
    (hdb : (x == ("__debug__" : Str)) = false := by decide) (he : starEach (e :: es) X.env = (false, eval e X.env) :: starEach es X.env := by rfl) (hpl : (backTo pos (starEach es X.env)).any (·.1) = false := by rfl) :
    DE X cc (.Call (.Name x p) (e :: es) [] pos) (dCall F dr) := by
  obtain ⟨f, fd, ps, h1, h2, h3, h4, h5⟩ := c.ex
  exact PE.imp (pe_callQ h2 hr hg h3 h4 h5 (fun σ => passAt tk σ) ha hdb he hpl) fun σ H Q ⟨B, ρ, G, R0, h⟩ => call_read hn R0 (PostV.sh h)
end
end Rf
set_option Elab.async false
set_option linter.all false
set_option maxRecDepth 100000
/-! RfS: rewriting a denotation on given slots, as an interpreter does -/
namespace Rf
open PySem PySem.Spec L2
section
variable {α β : Type}
theorem e_bind (a : α) (ρ : ENV) (f : α → ENV → R β) : (R.ok a ρ).bind f = f a ρ := rfl
theorem e_bindX (e : EX) (ρ : ENV) (f : α → ENV → R β) : (R.exc e ρ).bind f = .exc e ρ := rfl
theorem e_bindB (f : α → ENV → R β) : (R.bot : R α).bind f = .bot := rfl
theorem e_of (a : α) (ρ : ENV) : R.of (some a) ρ = .ok a ρ := rfl
theorem c_bind {r r' : R α} {f : α → ENV → R β} (h : r = r') : r.bind f = r'.bind f := by rw [h]
/-! ### expressions -/
def look (o : Option (Option DV)) (i : Nat) (ρ : ENV) : R D := match o with
  | some (some (.sh d)) => .ok d ρ
  | some (some (.ow m)) => .ok m.toD (ρ.set i (some (.sh m.toD)))
  | _ => .bot
theorem e_var (i : Nat) (ρ : ENV) : dVar i ρ = look ρ[i]? i ρ := rfl
theorem e_lookS (d : D) (i : Nat) (ρ : ENV) : look (some (some (.sh d))) i ρ = .ok d ρ := rfl
theorem e_lookO (m : M) (i : Nat) (ρ : ENV) : look (some (some (.ow m))) i ρ = .ok m.toD (ρ.set i (some (.sh m.toD))) := rfl
theorem e_C (d : D) (ρ : ENV) : dC d ρ = .ok d ρ := rfl
def op2 (f : D → D → Option D) (db : ENV → R D) : D → ENV → R D := fun x ρ1 => (db ρ1).bind fun y ρ2 => R.of (f x y) ρ2
theorem e_op (f : D → D → Option D) (da db : ENV → R D) (ρ : ENV) : dOp f da db ρ = (da ρ).bind (op2 f db) := rfl
def op1 (f : D → Option D) : D → ENV → R D := fun y ρ2 => R.of (f y) ρ2
theorem e_op2 (f : D → D → Option D) (db : ENV → R D) (x : D) (ρ : ENV) : op2 f db x ρ = (db ρ).bind (op1 (f x)) := rfl
theorem e_op1 (f : D → Option D) (y : D) (ρ : ENV) : op1 f y ρ = R.of (f y) ρ := rfl
theorem e_un (f : D → Option D) (da : ENV → R D) (ρ : ENV) : dUn f da ρ = (da ρ).bind (op1 f) := rfl
theorem e_is (f : D → Option Bool) (da : ENV → R D) (ρ : ENV) : dIs f da ρ = (da ρ).bind (op1 fun d => (f d).map D.bl) := rfl
def toB : D → ENV → R Bool
  | .bl b, ρ => .ok b ρ
  | _, _ => .bot
theorem e_T (da : ENV → R D) (ρ : ENV) : dT da ρ = (da ρ).bind toB := by
  unfold dT asT
  cases da ρ with
  | ok d ρ => cases d <;> rfl
  | exc e ρ => rfl
  | bot => rfl
theorem e_toB (b : Bool) (ρ : ENV) : toB (.bl b) ρ = .ok b ρ := rfl
def truB : D → ENV → R Bool := fun d ρ => R.of (tru d) ρ
theorem e_Tru (da : ENV → R D) (ρ : ENV) : dTru da ρ = (da ρ).bind truB := rfl
theorem e_truB (d : D) (ρ : ENV) : truB d ρ = R.of (tru d) ρ := rfl
def andK (db : ENV → R Bool) : Bool → ENV → R Bool := fun x ρ1 => if x = true then db ρ1 else .ok false ρ1
def orK (db : ENV → R Bool) : Bool → ENV → R Bool := fun x ρ1 => if x = true then .ok true ρ1 else db ρ1
theorem e_And (da db : ENV → R Bool) (ρ : ENV) : dAnd da db ρ = (da ρ).bind (andK db) := rfl
theorem e_Or (da db : ENV → R Bool) (ρ : ENV) : dOr da db ρ = (da ρ).bind (orK db) := rfl
theorem e_andT (db : ENV → R Bool) (ρ : ENV) : andK db true ρ = db ρ := rfl
theorem e_andF (db : ENV → R Bool) (ρ : ENV) : andK db false ρ = .ok false ρ := rfl
theorem e_orT (db : ENV → R Bool) (ρ : ENV) : orK db true ρ = .ok true ρ := rfl
theorem e_orF (db : ENV → R Bool) (ρ : ENV) : orK db false ρ = db ρ := rfl
def notK : Bool → ENV → R Bool := fun x ρ1 => .ok (!x) ρ1
theorem e_Not (da : ENV → R Bool) (ρ : ENV) : dNot da ρ = (da ρ).bind notK := rfl
theorem e_notK (x : Bool) (ρ : ENV) : notK x ρ = .ok (!x) ρ := rfl
def andVK (db : ENV → R D) : D → ENV → R D := fun x ρ1 => match tru x with
  | some true => db ρ1
  | some false => .ok x ρ1
  | none => .bot
def orVK (db : ENV → R D) : D → ENV → R D := fun x ρ1 => match tru x with
  | some true => .ok x ρ1
  | some false => db ρ1
  | none => .bot
theorem e_AndV (da db : ENV → R D) (ρ : ENV) : dAndV da db ρ = (da ρ).bind (andVK db) := rfl
theorem e_OrV (da db : ENV → R D) (ρ : ENV) : dOrV da db ρ = (da ρ).bind (orVK db) := rfl
theorem e_andVT (db : ENV → R D) (ρ : ENV) : andVK db (.bl true) ρ = db ρ := rfl
theorem e_andVF (db : ENV → R D) (ρ : ENV) : andVK db (.bl false) ρ = .ok (.bl false) ρ := rfl
theorem e_orVT (db : ENV → R D) (ρ : ENV) : orVK db (.bl true) ρ = .ok (.bl true) ρ := rfl
theorem e_orVF (db : ENV → R D) (ρ : ENV) : orVK db (.bl false) ρ = db ρ := rfl
def notVK : D → ENV → R D := fun x ρ1 => R.of ((tru x).map fun k => .bl (!k)) ρ1
theorem e_NotV (da : ENV → R D) (ρ : ENV) : dNotV da ρ = (da ρ).bind notVK := rfl
theorem e_notVK (x : Bool) (ρ : ENV) : notVK (.bl x) ρ = .ok (.bl (!x)) ρ := rfl
def ifK (da db : ENV → R D) : Bool → ENV → R D := fun x ρ1 => if x = true then da ρ1 else db ρ1
theorem e_If (t : ENV → R Bool) (da db : ENV → R D) (ρ : ENV) : dIf t da db ρ = (t ρ).bind (ifK da db) := rfl
theorem e_ifT (da db : ENV → R D) (ρ : ENV) : ifK da db true ρ = da ρ := rfl
theorem e_ifF (da db : ENV → R D) (ρ : ENV) : ifK da db false ρ = db ρ := rfl
theorem e_Nil (ρ : ENV) : dNil ρ = .ok [] ρ := rfl
def consK (dr : ENV → R (List D)) : D → ENV → R (List D) := fun x ρ1 => (dr ρ1).bind fun xs ρ2 => .ok (x :: xs) ρ2
def consK2 (x : D) : List D → ENV → R (List D) := fun xs ρ2 => .ok (x :: xs) ρ2
theorem e_Cons (da : ENV → R D) (dr : ENV → R (List D)) (ρ : ENV) : dCons da dr ρ = (da ρ).bind (consK dr) := rfl
theorem e_consK (dr : ENV → R (List D)) (x : D) (ρ : ENV) : consK dr x ρ = (dr ρ).bind (consK2 x) := rfl
theorem e_consK2 (x : D) (xs : List D) (ρ : ENV) : consK2 x xs ρ = .ok (x :: xs) ρ := rfl
def tupK : List D → ENV → R D := fun xs ρ1 => if xs.length ≤ sizeLine then .ok (.tup xs) ρ1 else .bot
def lstK : List D → ENV → R D := fun xs ρ1 => if xs.length ≤ sizeLine then .ok (.lst xs) ρ1 else .bot
def lstF : List D → ENV → R M := fun xs ρ1 => if xs.length ≤ sizeLine then .ok (.lst xs) ρ1 else .bot
theorem e_Tup (dr : ENV → R (List D)) (ρ : ENV) : dTup dr ρ = (dr ρ).bind tupK := rfl
theorem e_Lst (dr : ENV → R (List D)) (ρ : ENV) : dLst dr ρ = (dr ρ).bind lstK := rfl
theorem e_LstF (dr : ENV → R (List D)) (ρ : ENV) : fLst dr ρ = (dr ρ).bind lstF := rfl
theorem e_tupK (xs : List D) (ρ : ENV) (h : xs.length ≤ sizeLine) : tupK xs ρ = .ok (.tup xs) ρ := by unfold tupK; rw [if_pos h]
theorem e_lstK (xs : List D) (ρ : ENV) (h : xs.length ≤ sizeLine) : lstK xs ρ = .ok (.lst xs) ρ := by unfold lstK; rw [if_pos h]
theorem e_lstF (xs : List D) (ρ : ENV) (h : xs.length ≤ sizeLine) : lstF xs ρ = .ok (.lst xs) ρ := by unfold lstF; rw [if_pos h]
/-- short written displays -/
theorem e_tup0 (ρ : ENV) : tupK [] ρ = .ok (.tup []) ρ := rfl
theorem e_lst0 (ρ : ENV) : lstK [] ρ = .ok (.lst []) ρ := rfl
theorem e_lstF0 (ρ : ENV) : lstF [] ρ = .ok (.lst []) ρ := rfl
def bK (f : List D → Option D) : List D → ENV → R D := fun xs ρ1 => R.of (f xs) ρ1
theorem e_B (f : List D → Option D) (dr : ENV → R (List D)) (ρ : ENV) : dB f dr ρ = (dr ρ).bind (bK f) := rfl
theorem e_bK (f : List D → Option D) (xs : List D) (ρ : ENV) : bK f xs ρ = R.of (f xs) ρ := rfl
/-- owned lists -/
def ixO (i : Nat) : D → ENV → R D := fun k ρ1 => match k, ρ1[i]? with
  | .int k, some (some (.ow (.lst ds))) => R.of (atI ds k) ρ1
  | _, _ => .bot
theorem e_ixO (i : Nat) (dk : ENV → R D) (ρ : ENV) (ds : List D) (h : ρ[i]? = some (some (.ow (.lst ds)))) : dIxO i dk ρ = (dk ρ).bind (ixO i) := by
  unfold dIxO; rw [h]; rfl
theorem e_ixO2 (i : Nat) (k : Int) (ρ : ENV) (ds : List D) (h : ρ[i]? = some (some (.ow (.lst ds)))) : ixO i (.int k) ρ = R.of (atI ds k) ρ := by
  unfold ixO; rw [h]
theorem e_lenO (i : Nat) (ρ : ENV) (ds : List D) (h : ρ[i]? = some (some (.ow (.lst ds)))) : dLenO i ρ = .ok (.int ds.length) ρ := by unfold dLenO; rw [h]
theorem at0 {α : Type} (x : α) (xs : List α) : L2.atI (x :: xs) 0 = some x := by
  unfold L2.atI ixN
  rw [if_pos (Int.le_refl 0), if_pos (by simp only [List.length_cons]; omega)]; rfl
theorem at1 {α : Type} (x y : α) (xs : List α) : L2.atI (x :: y :: xs) 1 = some y := by
  unfold L2.atI ixN
  rw [if_pos (by decide), if_pos (by simp only [List.length_cons]; omega)]; rfl
theorem at2 {α : Type} (x y z : α) (xs : List α) : L2.atI (x :: y :: z :: xs) 2 = some z := by
  unfold L2.atI ixN
  rw [if_pos (by decide), if_pos (by simp only [List.length_cons]; omega)]; rfl
theorem at3 {α : Type} (x y z u : α) (xs : List α) : L2.atI (x :: y :: z :: u :: xs) 3 = some u := by
  unfold L2.atI ixN
  rw [if_pos (by decide), if_pos (by simp only [List.length_cons]; omega)]; rfl
theorem atN {α : Type} {xs : List α} {i : Int} {x : α} (h0 : 0 ≤ i) (h : xs[i.toNat]? = some x) : L2.atI xs i = some x := by
  obtain ⟨hl, _⟩ := List.getElem?_eq_some_iff.mp h
  unfold L2.atI ixN
  rw [if_pos h0, if_pos (by omega)]
  exact h
theorem e_vEq (neg : Bool) (i j : Int) : vEq neg (.int i) (.int j) = some (.bl (if neg then !(i == j) else (i == j))) := by cases neg <;> rfl
theorem e_eqI (i j : Int) : CK.f .eq (.int i) (.int j) = some (.bl (i == j)) := rfl
theorem e_neI (i j : Int) : CK.f .ne (.int i) (.int j) = some (.bl (!(i == j))) := rfl
theorem e_ltI (i j : Int) : CK.f .lt (.int i) (.int j) = some (.bl (decide (i < j))) := rfl
theorem e_leI (i j : Int) : CK.f .le (.int i) (.int j) = some (.bl (decide (i ≤ j))) := rfl
theorem e_gtI (i j : Int) : CK.f .gt (.int i) (.int j) = some (.bl (decide (j < i))) := rfl
theorem e_geI (i j : Int) : CK.f .ge (.int i) (.int j) = some (.bl (decide (j ≤ i))) := rfl
theorem e_add (i j : Int) : vAdd (.int i) (.int j) = some (.int (i + j)) := rfl
theorem e_vI (f : Int → Int → Int) (i j : Int) : vI f (.int i) (.int j) = some (.int (f i j)) := rfl
theorem e_vIc (c : Int → Int → Bool) (f : Int → Int → Int) (i j : Int) (h : c i j = true) : vIc c f (.int i) (.int j) = some (.int (f i j)) := by
  show (if c i j = true then some (D.int (f i j)) else none) = _
  rw [if_pos h]
theorem e_neg (i : Int) : vNeg (.int i) = some (.int (-i)) := rfl
theorem e_fInt (i : Int) : fInt [.int i] = some (.int i) := rfl
theorem e_fIntB (b : Bool) : fInt [.bl b] = some (.int (if b then 1 else 0)) := rfl
theorem e_lenL (ds : List D) : fLen [.lst ds] = some (.int ds.length) := rfl
theorem e_lenT (ds : List D) : fLen [.tup ds] = some (.int ds.length) := rfl
theorem e_lenR (ds : List D) : fLen [.scr ds] = some (.int ds.length) := rfl
theorem e_lenS (z : Str) : fLen [.str z] = some (.int z.length) := rfl
theorem e_ixL (ds : List D) (i : Int) : vIxI (.lst ds) (.int i) = atI ds i := rfl
theorem e_ixT (ds : List D) (i : Int) : vIxI (.tup ds) (.int i) = atI ds i := rfl
theorem e_tupL (ds : List D) : fTuple [.lst ds] = some (.tup ds) := rfl
theorem e_tupT (ds : List D) : fTuple [.tup ds] = some (.tup ds) := rfl
theorem e_lstT (ds : List D) : fList [.tup ds] = some (.lst ds) := rfl
/-! ### statements -/
def sqK (b : ENV → R Fl) : Fl → ENV → R Fl
  | .nx, ρ => b ρ
  | f, ρ => .ok f ρ
theorem e_Seq (a b : ENV → R Fl) (ρ : ENV) : sSeq a b ρ = (a ρ).bind (sqK b) := by
  unfold sSeq
  cases a ρ with
  | ok f ρ => cases f <;> rfl
  | exc e ρ => rfl
  | bot => rfl
theorem e_sqN (b : ENV → R Fl) (ρ : ENV) : sqK b .nx ρ = b ρ := rfl
theorem e_sqR (b : ENV → R Fl) (v : DV) (ρ : ENV) : sqK b (.ret v) ρ = .ok (.ret v) ρ := rfl
theorem e_sqB (b : ENV → R Fl) (ρ : ENV) : sqK b .bk ρ = .ok .bk ρ := rfl
theorem e_sqC (b : ENV → R Fl) (ρ : ENV) : sqK b .ct ρ = .ok .ct ρ := rfl
theorem e_sNil (ρ : ENV) : sNil ρ = .ok .nx ρ := rfl
def sifK (a b : ENV → R Fl) : Bool → ENV → R Fl := fun x ρ1 => if x = true then a ρ1 else b ρ1
theorem e_sIf (c : ENV → R Bool) (a b : ENV → R Fl) (ρ : ENV) : sIf c a b ρ = (c ρ).bind (sifK a b) := rfl
theorem e_sifT (a b : ENV → R Fl) (ρ : ENV) : sifK a b true ρ = a ρ := rfl
theorem e_sifF (a b : ENV → R Fl) (ρ : ENV) : sifK a b false ρ = b ρ := rfl
def retK : D → ENV → R Fl := fun d ρ1 => .ok (.ret (.sh d)) ρ1
def retFK : M → ENV → R Fl := fun d ρ1 => .ok (.ret (.ow d)) ρ1
theorem e_Ret (da : ENV → R D) (ρ : ENV) : sRet da ρ = (da ρ).bind retK := rfl
theorem e_retK (d : D) (ρ : ENV) : retK d ρ = .ok (.ret (.sh d)) ρ := rfl
theorem e_RetF (da : ENV → R M) (ρ : ENV) : sRetF da ρ = (da ρ).bind retFK := rfl
theorem e_retFK (d : M) (ρ : ENV) : retFK d ρ = .ok (.ret (.ow d)) ρ := rfl
def exprK : D → ENV → R Fl := fun _ ρ1 => .ok .nx ρ1
theorem e_Expr (da : ENV → R D) (ρ : ENV) : sExpr da ρ = (da ρ).bind exprK := rfl
theorem e_exprK (d : D) (ρ : ENV) : exprK d ρ = .ok .nx ρ := rfl
def stK (o : Option ENV) : R Fl := match o with
  | some ρ => .ok .nx ρ
  | none => .bot
def asgK (g : D → ENV → Option ENV) : D → ENV → R Fl := fun d ρ1 => stK (g d ρ1)
theorem e_Asg (da : ENV → R D) (g : D → ENV → Option ENV) (ρ : ENV) : sAsg da g ρ = (da ρ).bind (asgK g) := by
  unfold sAsg
  cases da ρ with
  | ok d ρ => show (match g d ρ with | some ρ2 => R.ok Fl.nx ρ2 | none => .bot) = stK (g d ρ); unfold stK; cases g d ρ <;> rfl
  | exc e ρ => rfl
  | bot => rfl
theorem e_asgK (g : D → ENV → Option ENV) (d : D) (ρ : ENV) : asgK g d ρ = stK (g d ρ) := rfl
theorem e_stK (ρ : ENV) : stK (some ρ) = .ok .nx ρ := rfl
theorem e_gSet (i : Nat) (d : D) (ρ : ENV) (h : i < ρ.length) : gSet i d ρ = some (ρ.set i (some (.sh d))) := by unfold gSet; rw [if_pos h]
def ownK (i : Nat) : M → ENV → R Fl := fun m ρ1 => if i < ρ1.length then .ok .nx (ρ1.set i (some (.ow m))) else .bot
theorem e_Own (fa : ENV → R M) (i : Nat) (ρ : ENV) : sOwn fa i ρ = (fa ρ).bind (ownK i) := rfl
theorem e_ownK (i : Nat) (m : M) (ρ : ENV) (h : i < ρ.length) : ownK i m ρ = .ok .nx (ρ.set i (some (.ow m))) := by unfold ownK; rw [if_pos h]
/-- xs[k] = e -/
def subK (i : Nat) (di : ENV → R D) : D → ENV → R Fl := fun d ρ1 => match ρ1[i]? with
  | some (some (.ow (.lst _))) => (di ρ1).bind fun k ρ2 => match k, ρ2[i]? with
    | .int k, some (some (.ow (.lst ds))) => match ixN ds.length k with
      | some j => .ok .nx (ρ2.set i (some (.ow (.lst (ds.set j d)))))
      | none => .bot
    | _, _ => .bot
  | _ => .bot
theorem e_Sub (i : Nat) (da di : ENV → R D) (ρ : ENV) : sSub i da di ρ = (da ρ).bind (subK i di) := rfl
/-- .. at a written place -/
theorem e_subK (i : Nat) (k : Int) (d : D) (ρ : ENV) (ds : List D) (h : ρ[i]? = some (some (.ow (.lst ds)))) (hk : 0 ≤ k) (hl : k < ds.length) : subK i (dC (.int k)) d ρ = .ok .nx (ρ.set i (some (.ow (.lst (ds.set k.toNat d))))) := by
  unfold subK
  rw [h]
  dsimp only [dC, R.bind]
  rw [h]
  dsimp only [ixN]
  rw [if_pos hk, if_pos hl]
def appK (i : Nat) : D → ENV → R Fl := fun d ρ1 => match ρ1[i]? with
  | some (some (.ow (.lst ds))) => if ds.length < sizeLine then .ok .nx (ρ1.set i (some (.ow (.lst (ds ++ [d]))))) else .bot
  | _ => .bot
theorem e_App (i : Nat) (da : ENV → R D) (ρ : ENV) (ds : List D) (h : ρ[i]? = some (some (.ow (.lst ds)))) : sApp i da ρ = (da ρ).bind (appK i) := by
  unfold sApp; rw [h]; rfl
theorem e_appK (i : Nat) (d : D) (ρ : ENV) (ds : List D) (h : ρ[i]? = some (some (.ow (.lst ds)))) (hl : ds.length < sizeLine) : appK i d ρ = .ok .nx (ρ.set i (some (.ow (.lst (ds ++ [d]))))) := by
  unfold appK; rw [h]; dsimp only; rw [if_pos hl]
def forK (g : D → ENV → Option ENV) (body : ENV → R Fl) : List D → ENV → R Fl := fun ds ρ1 => forL g body ds ρ1
theorem e_For (di : ENV → R (List D)) (g : D → ENV → Option ENV) (body : ENV → R Fl) (ρ : ENV) : sFor di g body ρ = (di ρ).bind (forK g body) := rfl
def itK : D → ENV → R (List D) := fun x ρ1 => R.of (items x) ρ1
theorem e_Items (da : ENV → R D) (ρ : ENV) : dItems da ρ = (da ρ).bind itK := rfl
theorem e_itL (ds : List D) (ρ : ENV) : itK (.lst ds) ρ = .ok ds ρ := rfl
theorem e_itT (ds : List D) (ρ : ENV) : itK (.tup ds) ρ = .ok ds ρ := rfl
theorem e_itR (ds : List D) (ρ : ENV) : itK (.scr ds) ρ = .ok ds ρ := rfl
/-! ### calls -/
theorem e_Call (F : List DV → FO) (dr : ENV → R (List Ag)) (ρ : ENV) : dCall F dr ρ = ((dr ρ).bind (stepR F)).bind onSh := rfl
theorem e_CallF (F : List DV → FO) (dr : ENV → R (List Ag)) (ρ : ENV) : fCall F dr ρ = ((dr ρ).bind (stepR F)).bind onOw := rfl
theorem e_aNil (ρ : ENV) : aNil ρ = .ok [] ρ := rfl
def aVK (dr : ENV → R (List Ag)) : D → ENV → R (List Ag) := fun x ρ1 => (dr ρ1).bind fun xs ρ2 => .ok (.inl x :: xs) ρ2
def aVK2 (x : Ag) : List Ag → ENV → R (List Ag) := fun xs ρ2 => .ok (x :: xs) ρ2
theorem e_aVal (da : ENV → R D) (dr : ENV → R (List Ag)) (ρ : ENV) : aVal da dr ρ = (da ρ).bind (aVK dr) := rfl
theorem e_aVK (dr : ENV → R (List Ag)) (x : D) (ρ : ENV) : aVK dr x ρ = (dr ρ).bind (aVK2 (.inl x)) := rfl
theorem e_aVK2 (x : Ag) (xs : List Ag) (ρ : ENV) : aVK2 x xs ρ = .ok (x :: xs) ρ := rfl
theorem e_aIo (i : Nat) (dr : ENV → R (List Ag)) (ρ : ENV) (m : M) (h : ρ[i]? = some (some (.ow m))) : aIo i dr ρ = (dr ρ).bind (aVK2 (.inr i)) := by unfold aIo; rw [h]; rfl
def outK (as : List Ag) (ρ : ENV) : FO → R DV
  | .ok v ms => match putB as ms ρ with | some ρ2 => .ok v ρ2 | none => .bot
  | .exc e ms => match putB as ms ρ with | some ρ2 => .exc e ρ2 | none => .bot
  | .bot => .bot
/-- values alone -/
def vals : List Ag → Option (List DV)
  | [] => some []
  | .inl d :: r => (vals r).map (.sh d :: ·)
  | .inr _ :: _ => none
theorem step0 (F : List DV → FO) (ρ : ENV) : stepR F [] ρ = outK [] ρ (F []) := by show (match F [] with | .ok v ms => _ | .exc e ms => _ | .bot => _) = _; cases F [] <;> rfl
theorem step1 (F : List DV → FO) (a : D) (ρ : ENV) : stepR F [.inl a] ρ = outK [.inl a] ρ (F [.sh a]) := by show (match F [.sh a] with | .ok v ms => _ | .exc e ms => _ | .bot => _) = _; cases F [.sh a] <;> rfl
theorem step2 (F : List DV → FO) (a b : D) (ρ : ENV) : stepR F [.inl a, .inl b] ρ = outK [.inl a, .inl b] ρ (F [.sh a, .sh b]) := by show (match F [.sh a, .sh b] with | .ok v ms => _ | .exc e ms => _ | .bot => _) = _; cases F [.sh a, .sh b] <;> rfl
theorem step3 (F : List DV → FO) (a b c : D) (ρ : ENV) : stepR F [.inl a, .inl b, .inl c] ρ = outK [.inl a, .inl b, .inl c] ρ (F [.sh a, .sh b, .sh c]) := by show (match F [.sh a, .sh b, .sh c] with | .ok v ms => _ | .exc e ms => _ | .bot => _) = _; cases F [.sh a, .sh b, .sh c] <;> rfl
theorem stepO1 (F : List DV → FO) (i : Nat) (ρ : ENV) (m : M) (h : ρ[i]? = some (some (.ow m))) : stepR F [.inr i] ρ = outK [.inr i] ρ (F [.ow m]) := by
  unfold stepR
  have e : (if nodupB (slots [Sum.inr i]) = true then reso ρ [Sum.inr i] else none) = some [.ow m] := by
    have : nodupB (slots [(Sum.inr i : Ag)]) = true := by simp [slots, nodupB]
    rw [if_pos this]; unfold reso; rw [h]; rfl
  rw [e]
  show (match F [.ow m] with | .ok v ms => (match putB [.inr i] ms ρ with | some ρ2 => R.ok v ρ2 | none => .bot) | .exc e ms => (match putB [.inr i] ms ρ with | some ρ2 => .exc e ρ2 | none => .bot) | .bot => .bot) = outK [.inr i] ρ (F [.ow m])
  cases F [.ow m] <;> rfl
theorem stepO2 (F : List DV → FO) (i : Nat) (a : D) (ρ : ENV) (m : M) (h : ρ[i]? = some (some (.ow m))) : stepR F [.inr i, .inl a] ρ = outK [.inr i, .inl a] ρ (F [.ow m, .sh a]) := by
  unfold stepR
  have e : (if nodupB (slots [Sum.inr i, Sum.inl a]) = true then reso ρ [Sum.inr i, Sum.inl a] else none) = some [.ow m, .sh a] := by
    have : nodupB (slots [(Sum.inr i : Ag), Sum.inl a]) = true := by simp [slots, nodupB]
    rw [if_pos this]; unfold reso; rw [h]; rfl
  rw [e]
  show (match F [.ow m, .sh a] with | .ok v ms => (match putB [.inr i, .inl a] ms ρ with | some ρ2 => R.ok v ρ2 | none => .bot) | .exc e ms => (match putB [.inr i, .inl a] ms ρ with | some ρ2 => .exc e ρ2 | none => .bot) | .bot => .bot) = outK [.inr i, .inl a] ρ (F [.ow m, .sh a])
  cases F [.ow m, .sh a] <;> rfl
theorem stepO3 (F : List DV → FO) (i : Nat) (a b : D) (ρ : ENV) (m : M) (h : ρ[i]? = some (some (.ow m))) : stepR F [.inr i, .inl a, .inl b] ρ = outK [.inr i, .inl a, .inl b] ρ (F [.ow m, .sh a, .sh b]) := by
  unfold stepR
  have e : (if nodupB (slots [Sum.inr i, Sum.inl a, Sum.inl b]) = true then reso ρ [Sum.inr i, Sum.inl a, Sum.inl b] else none) = some [.ow m, .sh a, .sh b] := by
    have : nodupB (slots [(Sum.inr i : Ag), Sum.inl a, Sum.inl b]) = true := by simp [slots, nodupB]
    rw [if_pos this]; unfold reso; rw [h]; rfl
  rw [e]
  show (match F [.ow m, .sh a, .sh b] with | .ok v ms => (match putB [.inr i, .inl a, .inl b] ms ρ with | some ρ2 => R.ok v ρ2 | none => .bot) | .exc e ms => (match putB [.inr i, .inl a, .inl b] ms ρ with | some ρ2 => .exc e ρ2 | none => .bot) | .bot => .bot) = outK [.inr i, .inl a, .inl b] ρ (F [.ow m, .sh a, .sh b])
  cases F [.ow m, .sh a, .sh b] <;> rfl
/-- out of a call without owned arguments -/
theorem out1 (a : D) (ρ : ENV) (v : DV) : outK [.inl a] ρ (.ok v []) = .ok v ρ := rfl
theorem out0 (ρ : ENV) (v : DV) : outK [] ρ (.ok v []) = .ok v ρ := rfl
theorem out2 (a b : D) (ρ : ENV) (v : DV) : outK [.inl a, .inl b] ρ (.ok v []) = .ok v ρ := rfl
theorem out3 (a b c : D) (ρ : ENV) (v : DV) : outK [.inl a, .inl b, .inl c] ρ (.ok v []) = .ok v ρ := rfl
theorem outX1 (a : D) (ρ : ENV) (v : EX) : outK [.inl a] ρ (.exc v []) = .exc v ρ := rfl
theorem outX2 (a b : D) (ρ : ENV) (v : EX) : outK [.inl a, .inl b] ρ (.exc v []) = .exc v ρ := rfl
theorem outO1 (i : Nat) (ρ : ENV) (v : DV) (m : M) : outK [.inr i] ρ (.ok v [m]) = .ok v (ρ.set i (some (.ow m))) := rfl
theorem outO2 (i : Nat) (a : D) (ρ : ENV) (v : DV) (m : M) : outK [.inr i, .inl a] ρ (.ok v [m]) = .ok v (ρ.set i (some (.ow m))) := rfl
theorem outO3 (i : Nat) (a b : D) (ρ : ENV) (v : DV) (m : M) : outK [.inr i, .inl a, .inl b] ρ (.ok v [m]) = .ok v (ρ.set i (some (.ow m))) := rfl
theorem e_onSh (d : D) (ρ : ENV) : onSh (.sh d) ρ = .ok d ρ := rfl
theorem e_onOw (d : M) (ρ : ENV) : onOw (.ow d) ρ = .ok d ρ := rfl
/-! ### defs -/
def finF (ds : List DV) : R Fl → FO
  | .ok (.ret v) ρ => match outsE 0 ds ρ with | some ms => .ok v ms | none => .bot
  | .ok .nx ρ => match outsE 0 ds ρ with | some ms => .ok (.sh .non) ms | none => .bot
  | .exc e ρ => match outsE 0 ds ρ with | some ms => .exc e ms | none => .bot
  | _ => .bot
theorem e_run (pr : List Nat) (n : Nat) (den : ENV → R Fl) (ds : List DV) (h : owPos 0 ds = pr) : runF pr n den ds = finF ds (den (startE n ds)) := by
  unfold runF
  rw [if_pos h]
  cases den (startE n ds) with
  | ok f ρ => cases f <;> rfl
  | exc e ρ => rfl
  | bot => rfl
end
end Rf
set_option Elab.async false
set_option linter.all false
set_option maxRecDepth 100000
/-! RfT: more rules: comprehensions, data compared, loops -/
namespace Rf
open PySem PySem.Spec L2
/-! ### comprehensions whose parts leave the slots alone -/
theorem e_frzL (di : ENV → R (List D)) (g : D → ENV → Option ENV) (tt : ENV → R Bool) (te : ENV → R D) (vs : List Nat) (ρ : ENV) (ds : List D) (ρ' : ENV) (h : fLc di g tt te vs ρ = .ok (.lst ds) ρ') : frz (fLc di g tt te vs ρ) = .ok (.lst ds) ρ' := by
  rw [h]; rfl
theorem set2 (ρ : ENV) (i : Nat) (x y : Option DV) : (ρ.set i x).set i y = ρ.set i y := List.set_set ..
theorem set_back (ρ : ENV) (i : Nat) (x : Option DV) (h : ρ[i]? = some none) : back ρ [i] (ρ.set i x) = ρ := by
  unfold back
  rw [h]
  dsimp only [back]
  rw [set2]
  refine List.ext_getElem? fun j => ?_
  by_cases e : i = j
  · subst e
    rw [List.getElem?_set_self (List.getElem?_eq_some_iff.mp h).1, h]
  · rw [List.getElem?_set_ne e]
theorem noOwn1 (ρ : ENV) (i : Nat) (h : ρ[i]? = some none) : noOwn ρ [i] = true := by
  unfold noOwn
  simp only [List.all_cons, List.all_nil, h, Bool.and_true]
theorem comp_map {ρ : ENV} {i : Nat} {te : ENV → R D} {f : D → D} (hi : i < ρ.length) : ∀ (ds acc : List D) (x : Option DV), (∀ d ∈ ds, te (ρ.set i (some (.sh d))) = .ok (f d) (ρ.set i (some (.sh d)))) → acc.length + ds.length ≤ sizeLine →
    ∃ y, compL (gSet i) dYes te [i] ds acc (ρ.set i x) = .ok (acc ++ ds.map f) (ρ.set i y)
  | [], acc, x, _, _ => ⟨x, by unfold compL; simp⟩
  | d :: ds, acc, x, h, hz => by
    obtain ⟨y, hy⟩ := comp_map hi ds (acc ++ [f d]) (some (.sh d)) (fun e he => h e (List.mem_cons_of_mem _ he)) (by simp only [List.length_append, List.length_cons, List.length_nil] at hz ⊢; omega)
    refine ⟨y, ?_⟩
    unfold compL
    have e1 : wipeE (ρ.set i x) [i] = ρ.set i none := by unfold wipeE; exact set2 ..
    have e2 : gSet i d (ρ.set i none) = some (ρ.set i (some (.sh d))) := by unfold gSet; rw [if_pos (by rw [List.length_set]; exact hi), set2]
    have e3 : acc.length < sizeLine := by simp only [List.length_cons] at hz; omega
    rw [e1, e2]
    simp only [dYes, h d List.mem_cons_self, if_pos e3, hy]
    simp
/-- [te for x in ds] -/
theorem lc_map {ρ : ENV} {i : Nat} {te : ENV → R D} {di : ENV → R (List D)} {ds : List D} (f : D → D) (hd : di ρ = .ok ds ρ) (hi : ρ[i]? = some none) (h : ∀ d ∈ ds, te (ρ.set i (some (.sh d))) = .ok (f d) (ρ.set i (some (.sh d)))) (hz : ds.length ≤ sizeLine) :
    fLc di (gSet i) dYes te [i] ρ = .ok (.lst (ds.map f)) ρ := by
  have e0 : ρ = ρ.set i none := by
    refine List.ext_getElem? fun j => ?_
    by_cases e : i = j
    · subst e; rw [List.getElem?_set_self (List.getElem?_eq_some_iff.mp hi).1, hi]
    · rw [List.getElem?_set_ne e]
  obtain ⟨y, hy⟩ := comp_map (List.getElem?_eq_some_iff.mp hi).1 ds [] none h (by simpa using hz)
  unfold fLc
  rw [hd]
  dsimp only [R.bind]
  rw [noOwn1 ρ i hi]
  rw [← e0] at hy
  rw [hy]
  dsimp only
  rw [set_back ρ i y hi]
  simp
theorem comp_filt {ρ : ENV} {i : Nat} {tt : ENV → R Bool} {te : ENV → R D} {p : D → Bool} {f : D → D} (hi : i < ρ.length) : ∀ (ds acc : List D) (x : Option DV), (∀ d ∈ ds, tt (ρ.set i (some (.sh d))) = .ok (p d) (ρ.set i (some (.sh d)))) → (∀ d ∈ ds, p d = true → te (ρ.set i (some (.sh d))) = .ok (f d) (ρ.set i (some (.sh d)))) → acc.length + ds.length ≤ sizeLine →
    ∃ y, compL (gSet i) tt te [i] ds acc (ρ.set i x) = .ok (acc ++ (ds.filter p).map f) (ρ.set i y)
  | [], acc, x, _, _, _ => ⟨x, by unfold compL; simp⟩
  | d :: ds, acc, x, h, h2, hz => by
    have e1 : wipeE (ρ.set i x) [i] = ρ.set i none := by unfold wipeE; exact set2 ..
    have e2 : gSet i d (ρ.set i none) = some (ρ.set i (some (.sh d))) := by unfold gSet; rw [if_pos (by rw [List.length_set]; exact hi), set2]
    have e3 : acc.length < sizeLine := by simp only [List.length_cons] at hz; omega
    cases hp : p d with
    | true =>
      obtain ⟨y, hy⟩ := comp_filt hi ds (acc ++ [f d]) (some (.sh d)) (fun e he => h e (List.mem_cons_of_mem _ he)) (fun e he => h2 e (List.mem_cons_of_mem _ he)) (by simp only [List.length_append, List.length_cons, List.length_nil] at hz ⊢; omega)
      refine ⟨y, ?_⟩
      unfold compL
      rw [e1, e2]
      simp only [h d List.mem_cons_self, hp, h2 d List.mem_cons_self hp, if_pos e3, hy]
      simp [hp]
    | false =>
      obtain ⟨y, hy⟩ := comp_filt hi ds acc (some (.sh d)) (fun e he => h e (List.mem_cons_of_mem _ he)) (fun e he => h2 e (List.mem_cons_of_mem _ he)) (by simp only [List.length_cons] at hz ⊢; omega)
      refine ⟨y, ?_⟩
      unfold compL
      rw [e1, e2]
      simp only [h d List.mem_cons_self, hp, hy]
      simp [hp]
/-- [te for x in ds if tt] -/
theorem lc_filt {ρ : ENV} {i : Nat} {tt : ENV → R Bool} {te : ENV → R D} {di : ENV → R (List D)} {ds : List D} (p : D → Bool) (f : D → D) (hd : di ρ = .ok ds ρ) (hi : ρ[i]? = some none) (h : ∀ d ∈ ds, tt (ρ.set i (some (.sh d))) = .ok (p d) (ρ.set i (some (.sh d))))
    (h2 : ∀ d ∈ ds, p d = true → te (ρ.set i (some (.sh d))) = .ok (f d) (ρ.set i (some (.sh d)))) (hz : ds.length ≤ sizeLine) :
    fLc di (gSet i) tt te [i] ρ = .ok (.lst ((ds.filter p).map f)) ρ := by
  have e0 : ρ = ρ.set i none := by
    refine List.ext_getElem? fun j => ?_
    by_cases e : i = j
    · subst e; rw [List.getElem?_set_self (List.getElem?_eq_some_iff.mp hi).1, hi]
    · rw [List.getElem?_set_ne e]
  obtain ⟨y, hy⟩ := comp_filt (List.getElem?_eq_some_iff.mp hi).1 ds [] none h h2 (by simpa using hz)
  unfold fLc
  rw [hd]
  dsimp only [R.bind]
  rw [noOwn1 ρ i hi]
  rw [← e0] at hy
  rw [hy]
  dsimp only
  rw [set_back ρ i y hi]
  simp
/-- .. over ints -/
theorem lc_mapI {ρ : ENV} {i : Nat} {te : ENV → R D} {di : ENV → R (List D)} {ns : List Int} (f : Int → Int) (hd : di ρ = .ok (ns.map D.int) ρ) (hi : ρ[i]? = some none) (h : ∀ n ∈ ns, te (ρ.set i (some (.sh (.int n)))) = .ok (.int (f n)) (ρ.set i (some (.sh (.int n))))) (hz : ns.length ≤ sizeLine) :
    fLc di (gSet i) dYes te [i] ρ = .ok (.lst ((ns.map f).map D.int)) ρ := by
  have := lc_map (te := te) (fun d => match d with | .int n => .int (f n) | d => d) hd hi (fun d hd => by
    obtain ⟨n, hn, rfl⟩ := List.mem_map.mp hd
    exact h n hn) (by rw [List.length_map]; exact hz)
  rw [this, List.map_map, List.map_map]
  rfl
theorem filt_ints (p : D → Bool) : ∀ ns : List Int, (ns.map D.int).filter p = (ns.filter fun n => p (.int n)).map D.int
  | [] => rfl
  | n :: ns => by
    rw [List.map_cons, List.filter_cons, List.filter_cons, filt_ints p ns]
    cases p (.int n) <;> rfl
theorem lc_filtI {ρ : ENV} {i : Nat} {tt : ENV → R Bool} {te : ENV → R D} {di : ENV → R (List D)} {ns : List Int} (p : Int → Bool) (f : Int → Int) (hd : di ρ = .ok (ns.map D.int) ρ) (hi : ρ[i]? = some none) (h : ∀ n ∈ ns, tt (ρ.set i (some (.sh (.int n)))) = .ok (p n) (ρ.set i (some (.sh (.int n)))))
    (h2 : ∀ n ∈ ns, p n = true → te (ρ.set i (some (.sh (.int n)))) = .ok (.int (f n)) (ρ.set i (some (.sh (.int n))))) (hz : ns.length ≤ sizeLine) :
    fLc di (gSet i) tt te [i] ρ = .ok (.lst (((ns.filter p).map f).map D.int)) ρ := by
  have := lc_filt (tt := tt) (te := te) (fun d => match d with | .int n => p n | _ => false) (fun d => match d with | .int n => .int (f n) | d => d) hd hi (fun d hd => by
    obtain ⟨n, hn, rfl⟩ := List.mem_map.mp hd
    exact h n hn) (fun d hd hp => by
    obtain ⟨n, hn, rfl⟩ := List.mem_map.mp hd
    exact h2 n hn hp) (by rw [List.length_map]; exact hz)
  rw [this, filt_ints, List.map_map, List.map_map]
  rfl
/-! ### ints compared -/
theorem toPyL_map (f : Int → D) (g : Int → PyData) (h : ∀ i, (f i).toPy = g i) : ∀ l : List Int, toPyL (l.map f) = l.map g
  | [] => rfl
  | a :: l => by show (f a).toPy :: toPyL (l.map f) = _; rw [h, toPyL_map f g h l]; rfl
theorem lay_ints : ∀ l : List Int, PyData.canLayAll0 (l.map PyData.int) = true
  | [] => by simp [PyData.canLayAll0]
  | a :: l => by simp [PyData.canLayAll0, PyData.canLay0, lay_ints l]
theorem depth_ints : ∀ l : List Int, PyData.depthAll (l.map PyData.int) ≤ 1
  | [] => by simp [PyData.depthAll]
  | a :: l => by
    have := depth_ints l
    simp only [List.map_cons, PyData.depthAll, PyData.depth]
    omega
theorem eqv_ints : ∀ a b : List Int, PyData.eqvAll (a.map PyData.int) (b.map PyData.int) = decide (a = b)
  | [], [] => by simp [PyData.eqvAll]
  | [], b :: bs => by simp [PyData.eqvAll]
  | a :: as, [] => by simp [PyData.eqvAll]
  | a :: as, b :: bs => by
    simp only [List.map_cons, PyData.eqvAll, PyData.eqv, eqv_ints as bs]
    by_cases h1 : a = b <;> by_cases h2 : as = bs <;> simp [h1, h2]
theorem shaped_tup (l : List Int) : SeqAt.shaped (D.tup (l.map D.int)).toPy = true := by
  show ((PyData.tuple (toPyL (l.map D.int))).canLay0 && decide ((PyData.tuple (toPyL (l.map D.int))).depth ≤ 64)) = true
  rw [toPyL_map D.int PyData.int (fun _ => rfl)]
  refine Bool.and_eq_true_iff.mpr ⟨by rw [PyData.canLay0]; exact lay_ints l, decide_eq_true ?_⟩
  have := depth_ints l
  rw [PyData.depth]
  omega
theorem shaped_lst (l : List Int) : SeqAt.shaped (D.lst (l.map D.int)).toPy = true := by
  show ((PyData.list (toPyL (l.map D.int))).canLay0 && decide ((PyData.list (toPyL (l.map D.int))).depth ≤ 64)) = true
  rw [toPyL_map D.int PyData.int (fun _ => rfl)]
  refine Bool.and_eq_true_iff.mpr ⟨by rw [PyData.canLay0]; exact lay_ints l, decide_eq_true ?_⟩
  have := depth_ints l
  rw [PyData.depth]
  omega
theorem vEq_tup (neg : Bool) (a b : List Int) : vEq neg (.tup (a.map D.int)) (.tup (b.map D.int)) = some (.bl (if neg then !decide (a = b) else decide (a = b))) := by
  unfold vEq
  rw [if_pos ⟨shaped_tup a, shaped_tup b⟩]
  have : PyData.eqv (D.tup (a.map D.int)).toPy (D.tup (b.map D.int)).toPy = decide (a = b) := by
    show PyData.eqv (.tuple (toPyL (a.map D.int))) (.tuple (toPyL (b.map D.int))) = _
    rw [toPyL_map D.int PyData.int (fun _ => rfl), toPyL_map D.int PyData.int (fun _ => rfl), PyData.eqv, eqv_ints]
  rw [this]
theorem e_eqT (a b : List Int) : CK.f .eq (.tup (a.map D.int)) (.tup (b.map D.int)) = some (.bl (decide (a = b))) := vEq_tup false a b
theorem e_neT (a b : List Int) : CK.f .ne (.tup (a.map D.int)) (.tup (b.map D.int)) = some (.bl (!decide (a = b))) := vEq_tup true a b
theorem intsOf_map : ∀ l : List Int, intsOf (l.map D.int) = some l
  | [] => rfl
  | a :: l => by show (intsOf (l.map D.int)).map (a :: ·) = _; rw [intsOf_map l]; rfl
theorem e_minT (a : Int) (l : List Int) : fMin [.tup ((a :: l).map D.int)] = some (.int (minI a l)) := by show (intsOf ((a :: l).map D.int)).bind minOf = _; rw [intsOf_map]; rfl
theorem e_maxT (a : Int) (l : List Int) : fMax [.tup ((a :: l).map D.int)] = some (.int (maxI a l)) := by show (intsOf ((a :: l).map D.int)).bind maxOf = _; rw [intsOf_map]; rfl
theorem minI_eq {a x : Int} {l : List Int} (h1 : x ∈ a :: l) (h2 : ∀ y ∈ a :: l, x ≤ y) : minI a l = x := by
  obtain ⟨m1, m2⟩ := minI_mem l a
  have := m2 x h1
  have := h2 _ m1
  omega
theorem maxI_eq {a x : Int} {l : List Int} (h1 : x ∈ a :: l) (h2 : ∀ y ∈ a :: l, y ≤ x) : maxI a l = x := by
  obtain ⟨m1, m2⟩ := maxI_mem l a
  have := m2 x h1
  have := h2 _ m1
  omega
theorem bools_map (f : Int → Bool) : ∀ l : List Int, bools (l.map fun i => D.bl (f i)) = some (l.map f)
  | [] => rfl
  | a :: l => by show (bools (l.map fun i => D.bl (f i))).map (f a :: ·) = _; rw [bools_map f l]; rfl
theorem rng7 : rng 0 7 = [.int 0, .int 1, .int 2, .int 3, .int 4, .int 5, .int 6] := by kernel_rfl
def rng1K : D → ENV → R (List D) := fun x ρ1 => match x with
  | .int j => if rngOk j = true then .ok (rng 0 j) ρ1 else .bot
  | _ => .bot
theorem e_Rng1 (da : ENV → R D) (ρ : ENV) : dRng1 da ρ = (da ρ).bind rng1K := rfl
theorem e_rng1K (j : Int) (ρ : ENV) (h : rngOk j = true) : rng1K (.int j) ρ = .ok (rng 0 j) ρ := by
  show (if rngOk j = true then R.ok (rng 0 j) ρ else .bot) = _
  rw [if_pos h]
theorem rngOk7 : rngOk 7 = true := by decide
theorem d_rng7 (ρ : ENV) : dRng1 (dC (.int 7)) ρ = .ok [.int 0, .int 1, .int 2, .int 3, .int 4, .int 5, .int 6] ρ := by
  show (if rngOk 7 = true then R.ok (rng 0 7) ρ else .bot) = _
  rw [if_pos rngOk7, rng7]
/-! ### loops, turn by turn -/
def turnK (k : ENV → R Fl) : Fl → ENV → R Fl
  | .nx, ρ => k ρ
  | .ct, ρ => k ρ
  | .bk, ρ => .ok .nx ρ
  | .ret v, ρ => .ok (.ret v) ρ
theorem forL_nil (g : D → ENV → Option ENV) (body : ENV → R Fl) (ρ : ENV) : forL g body [] ρ = .ok .nx ρ := rfl
theorem forL_cons (g : D → ENV → Option ENV) (body : ENV → R Fl) (d : D) (ds : List D) (ρ ρ1 : ENV) (h : g d ρ = some ρ1) : forL g body (d :: ds) ρ = (body ρ1).bind (turnK (forL g body ds)) := by
  unfold forL
  rw [h]
  dsimp only
  cases body ρ1 with
  | ok f ρ => cases f <;> rfl
  | exc e ρ => rfl
  | bot => rfl
theorem e_forK (g : D → ENV → Option ENV) (body : ENV → R Fl) (ds : List D) (ρ : ENV) : forK g body ds ρ = forL g body ds ρ := rfl
theorem forL_set (i : Nat) (body : ENV → R Fl) (d : D) (ds : List D) (ρ : ENV) (h : i < ρ.length) : forL (gSet i) body (d :: ds) ρ = (body (ρ.set i (some (.sh d)))).bind (turnK (forL (gSet i) body ds)) :=
  forL_cons _ _ _ _ _ _ (e_gSet i d ρ h)
theorem e_tnN (k : ENV → R Fl) (ρ : ENV) : turnK k .nx ρ = k ρ := rfl
theorem e_tnC (k : ENV → R Fl) (ρ : ENV) : turnK k .ct ρ = k ρ := rfl
theorem e_tnB (k : ENV → R Fl) (ρ : ENV) : turnK k .bk ρ = .ok .nx ρ := rfl
theorem e_tnR (k : ENV → R Fl) (v : DV) (ρ : ENV) : turnK k (.ret v) ρ = .ok (.ret v) ρ := rfl
theorem e_frz (m : M) (ρ : ENV) : frz (.ok m ρ) = .ok m.toD ρ := rfl
/-! ### while -/
def whK (c : ENV → R Bool) (body : ENV → R Fl) (n : Nat) : Bool → ENV → R Fl := fun b ρ1 => if b = true then (body ρ1).bind (turnK (whileF c body n)) else .ok .nx ρ1
theorem whileF_succ (c : ENV → R Bool) (body : ENV → R Fl) (n : Nat) (ρ : ENV) : whileF c body (n + 1) ρ = (c ρ).bind (whK c body n) := by
  show (c ρ).bind _ = _
  refine congrArg (fun f => (c ρ).bind f) ?_
  funext b ρ1
  unfold whK
  cases b with
  | false => rfl
  | true =>
    simp only [if_true]
    cases body ρ1 with
    | ok f ρ => cases f <;> rfl
    | exc e ρ => rfl
    | bot => rfl
theorem e_whT (c : ENV → R Bool) (body : ENV → R Fl) (n : Nat) (ρ : ENV) : whK c body n true ρ = (body ρ).bind (turnK (whileF c body n)) := rfl
theorem e_whF (c : ENV → R Bool) (body : ENV → R Fl) (n : Nat) (ρ : ENV) : whK c body n false ρ = .ok .nx ρ := rfl
end Rf
set_option Elab.async false
set_option linter.all false
set_option maxRecDepth 100000
/-! RfU: more rules; tuples of ints kept folded -/
namespace Rf
open PySem PySem.Spec L2
theorem e_Raise (e : EX) (ρ : ENV) : sRaise e ρ = .exc e ρ := rfl
def parK (i j : Nat) (db : ENV → R D) : D → ENV → R Fl := fun x ρ1 => (db ρ1).bind fun y ρ2 => if i < ρ2.length ∧ j < ρ2.length then .ok .nx ((ρ2.set i (some (.sh x))).set j (some (.sh y))) else .bot
def parK2 (i j : Nat) (x : D) : D → ENV → R Fl := fun y ρ2 => if i < ρ2.length ∧ j < ρ2.length then .ok .nx ((ρ2.set i (some (.sh x))).set j (some (.sh y))) else .bot
theorem e_Par (i j : Nat) (da db : ENV → R D) (ρ : ENV) : sPar i j da db ρ = (da ρ).bind (parK i j db) := rfl
theorem e_parK (i j : Nat) (db : ENV → R D) (x : D) (ρ : ENV) : parK i j db x ρ = (db ρ).bind (parK2 i j x) := rfl
theorem e_parK2 (i j : Nat) (x y : D) (ρ : ENV) (hi : i < ρ.length) (hj : j < ρ.length) : parK2 i j x y ρ = .ok .nx ((ρ.set i (some (.sh x))).set j (some (.sh y))) := by unfold parK2; rw [if_pos ⟨hi, hj⟩]
def augK (i : Nat) (f : Int → Int → Int) (a : Int) : D → ENV → R Fl := fun d ρ1 => match d with
    | .int b => if i < ρ1.length then .ok .nx (ρ1.set i (some (.sh (.int (f a b))))) else .bot
    | _ => .bot
theorem e_Aug (i : Nat) (f : Int → Int → Int) (da : ENV → R D) (ρ : ENV) (a : Int) (h : ρ[i]? = some (some (.sh (.int a)))) : sAug i f da ρ = (da ρ).bind (augK i f a) := by unfold sAug; rw [h]; rfl
theorem e_augK (i : Nat) (f : Int → Int → Int) (a b : Int) (ρ : ENV) (hi : i < ρ.length) : augK i f a (.int b) ρ = .ok .nx (ρ.set i (some (.sh (.int (f a b))))) := by unfold augK; exact if_pos hi
def chK1 (f g : D → D → Option D) (db dc : ENV → R D) : D → ENV → R D := fun x ρ1 => (db ρ1).bind fun y ρ2 => match f x y with
  | some (.bl true) => (dc ρ2).bind fun z ρ3 => R.of (g y z) ρ3
  | some (.bl false) => .ok (.bl false) ρ2
  | _ => .bot
def chK3 (g : D → D → Option D) (dc : ENV → R D) (y : D) : Option D → ENV → R D := fun o ρ2 => match o with
  | some (.bl true) => (dc ρ2).bind (op1 (g y))
  | some (.bl false) => .ok (.bl false) ρ2
  | _ => .bot
def chK2 (f g : D → D → Option D) (dc : ENV → R D) (x : D) : D → ENV → R D := fun y ρ2 => chK3 g dc y (f x y) ρ2
theorem e_Ch (f g : D → D → Option D) (da db dc : ENV → R D) (ρ : ENV) : dChain f g da db dc ρ = (da ρ).bind (chK1 f g db dc) := rfl
theorem e_chK1 (f g : D → D → Option D) (db dc : ENV → R D) (x : D) (ρ : ENV) : chK1 f g db dc x ρ = (db ρ).bind (chK2 f g dc x) := by
  unfold chK1
  refine congrArg (fun k => (db ρ).bind k) ?_
  funext y ρ2
  unfold chK2 chK3
  cases f x y with
  | none => rfl
  | some d => cases d with
    | bl b => cases b <;> rfl
    | _ => rfl
theorem e_chK2 (f g : D → D → Option D) (dc : ENV → R D) (x y : D) (ρ : ENV) : chK2 f g dc x y ρ = chK3 g dc y (f x y) ρ := rfl
theorem e_chT (g : D → D → Option D) (dc : ENV → R D) (y : D) (ρ : ENV) : chK3 g dc y (some (.bl true)) ρ = (dc ρ).bind (op1 (g y)) := rfl
theorem e_chF (g : D → D → Option D) (dc : ENV → R D) (y : D) (ρ : ENV) : chK3 g dc y (some (.bl false)) ρ = .ok (.bl false) ρ := rfl
/-- a try-statement -/
def tryK (sub : Nat → Nat → Option Bool) (c : Nat) (ss : ENV → R Fl) : R Fl → R Fl
  | .exc e ρ1 => match sub e.c c with
    | some true => match ss ρ1 with
      | .exc _ _ => .bot
      | r => r
    | some false => .exc e ρ1
    | none => .bot
  | r => r
theorem e_Try (sub : Nat → Nat → Option Bool) (sb : ENV → R Fl) (c : Nat) (ss : ENV → R Fl) (ρ : ENV) : sTry sub sb c ss ρ = tryK sub c ss (sb ρ) := by
  unfold sTry tryK
  cases sb ρ <;> rfl
theorem e_tryO (sub : Nat → Nat → Option Bool) (c : Nat) (ss : ENV → R Fl) (f : Fl) (ρ : ENV) : tryK sub c ss (.ok f ρ) = .ok f ρ := rfl
theorem e_tryX (sub : Nat → Nat → Option Bool) (c : Nat) (ss : ENV → R Fl) (e : EX) (ρ ρ' : ENV) (f : Fl) (h : sub e.c c = some true) (h2 : ss ρ = .ok f ρ') : tryK sub c ss (.exc e ρ) = .ok f ρ' := by
  show (match sub e.c c with
    | some true => match ss ρ with
      | .exc _ _ => R.bot
      | r => r
    | some false => .exc e ρ
    | none => .bot) = _
  rw [h]
  dsimp only
  rw [h2]
theorem e_tru (b : Bool) : tru (.bl b) = some b := rfl
theorem e_truI (i : Int) : tru (.int i) = some (!(i == 0)) := by
  rfl
theorem line8 : (8 : Nat) ≤ sizeLine := by rw [sizeLine_eq]; decide
theorem e_tup1 (a : D) (ρ : ENV) : tupK [a] ρ = .ok (.tup [a]) ρ := e_tupK _ ρ (Nat.le_trans (show 1 ≤ 8 by decide) line8)
theorem e_lst1 (a : D) (ρ : ENV) : lstK [a] ρ = .ok (.lst [a]) ρ := e_lstK _ ρ (Nat.le_trans (show 1 ≤ 8 by decide) line8)
theorem e_tup2 (a b : D) (ρ : ENV) : tupK [a, b] ρ = .ok (.tup [a, b]) ρ := e_tupK _ ρ (Nat.le_trans (show 2 ≤ 8 by decide) line8)
theorem e_lst2 (a b : D) (ρ : ENV) : lstK [a, b] ρ = .ok (.lst [a, b]) ρ := e_lstK _ ρ (Nat.le_trans (show 2 ≤ 8 by decide) line8)
theorem e_tup3 (a b c : D) (ρ : ENV) : tupK [a, b, c] ρ = .ok (.tup [a, b, c]) ρ := e_tupK _ ρ (Nat.le_trans (show 3 ≤ 8 by decide) line8)
theorem e_lst3 (a b c : D) (ρ : ENV) : lstK [a, b, c] ρ = .ok (.lst [a, b, c]) ρ := e_lstK _ ρ (Nat.le_trans (show 3 ≤ 8 by decide) line8)
theorem e_tup4 (a b c d : D) (ρ : ENV) : tupK [a, b, c, d] ρ = .ok (.tup [a, b, c, d]) ρ := e_tupK _ ρ (Nat.le_trans (show 4 ≤ 8 by decide) line8)
theorem e_lst4 (a b c d : D) (ρ : ENV) : lstK [a, b, c, d] ρ = .ok (.lst [a, b, c, d]) ρ := e_lstK _ ρ (Nat.le_trans (show 4 ≤ 8 by decide) line8)
theorem e_tup5 (a b c d e : D) (ρ : ENV) : tupK [a, b, c, d, e] ρ = .ok (.tup [a, b, c, d, e]) ρ := e_tupK _ ρ (Nat.le_trans (show 5 ≤ 8 by decide) line8)
theorem e_lst5 (a b c d e : D) (ρ : ENV) : lstK [a, b, c, d, e] ρ = .ok (.lst [a, b, c, d, e]) ρ := e_lstK _ ρ (Nat.le_trans (show 5 ≤ 8 by decide) line8)
theorem e_tup6 (a b c d e f : D) (ρ : ENV) : tupK [a, b, c, d, e, f] ρ = .ok (.tup [a, b, c, d, e, f]) ρ := e_tupK _ ρ (Nat.le_trans (show 6 ≤ 8 by decide) line8)
theorem e_lst6 (a b c d e f : D) (ρ : ENV) : lstK [a, b, c, d, e, f] ρ = .ok (.lst [a, b, c, d, e, f]) ρ := e_lstK _ ρ (Nat.le_trans (show 6 ≤ 8 by decide) line8)
theorem e_tup7 (a b c d e f g : D) (ρ : ENV) : tupK [a, b, c, d, e, f, g] ρ = .ok (.tup [a, b, c, d, e, f, g]) ρ := e_tupK _ ρ (Nat.le_trans (show 7 ≤ 8 by decide) line8)
theorem e_lst7 (a b c d e f g : D) (ρ : ENV) : lstK [a, b, c, d, e, f, g] ρ = .ok (.lst [a, b, c, d, e, f, g]) ρ := e_lstK _ ρ (Nat.le_trans (show 7 ≤ 8 by decide) line8)
theorem e_tup8 (a b c d e f g h : D) (ρ : ENV) : tupK [a, b, c, d, e, f, g, h] ρ = .ok (.tup [a, b, c, d, e, f, g, h]) ρ := e_tupK _ ρ (Nat.le_trans (show 8 ≤ 8 by decide) line8)
theorem e_lst8 (a b c d e f g h : D) (ρ : ENV) : lstK [a, b, c, d, e, f, g, h] ρ = .ok (.lst [a, b, c, d, e, f, g, h]) ρ := e_lstK _ ρ (Nat.le_trans (show 8 ≤ 8 by decide) line8)
theorem e_While (n : ENV → Nat) (c : ENV → R Bool) (body : ENV → R Fl) (ρ : ENV) : sWhile n c body ρ = whileF c body (n ρ) ρ := rfl
theorem e_abs (i : Int) : fAbs [.int i] = some (.int (if i < 0 then -i else i)) := rfl
theorem e_max2 (i j : Int) : fMax [.int i, .int j] = some (.int (if j > i then j else i)) := rfl
theorem e_min2 (i j : Int) : fMin [.int i, .int j] = some (.int (if j < i then j else i)) := rfl
theorem e_gSq2 (i j : Nat) (a b : D) (ρ : ENV) (hi : i < ρ.length) (hj : j < ρ.length) : gSeq 2 (gsCons (gSet i) (gsCons (gSet j) gsNil)) (.tup [a, b]) ρ = some ((ρ.set i (some (.sh a))).set j (some (.sh b))) := by
  show (gSet i a ρ).bind (fun ρ1 => (gSet j b ρ1).bind fun ρ2 => some ρ2) = _
  rw [e_gSet i a ρ hi]
  show (gSet j b _).bind _ = _
  rw [e_gSet j b _ (by rw [List.length_set]; exact hj)]
  rfl
theorem e_addT (a b : List D) (h : a.length + b.length ≤ sizeLine) : vAdd (.tup a) (.tup b) = some (.tup (a ++ b)) := by
  show (if a.length + b.length ≤ sizeLine then some (D.tup (a ++ b)) else none) = _
  rw [if_pos h]
/-! ### tuples of ints -/
def tupI (l : List Int) : D := .tup (l.map D.int)
theorem t_fld (l : List Int) : D.tup (l.map D.int) = tupI l := rfl
theorem t_eq (a b : List Int) : CK.f .eq (tupI a) (tupI b) = some (.bl (decide (a = b))) := vEq_tup false a b
theorem t_ne (a b : List Int) : CK.f .ne (tupI a) (tupI b) = some (.bl (!decide (a = b))) := vEq_tup true a b
theorem t_len (l : List Int) : fLen [tupI l] = some (.int l.length) := by unfold tupI; rw [e_lenT, List.length_map]
theorem t_is (l : List Int) : (isTy "tuple" (tupI l)) = some true := rfl
theorem t_itm (l : List Int) (ρ : ENV) : itK (tupI l) ρ = .ok (l.map D.int) ρ := rfl
theorem t_of (l : List Int) : fTuple [.lst (l.map D.int)] = some (tupI l) := rfl
theorem t_of2 (l : List Int) : fTuple [.tup (l.map D.int)] = some (tupI l) := rfl
theorem t_lst (l : List Int) : fList [tupI l] = some (.lst (l.map D.int)) := rfl
theorem atI_map (f : Int → D) : ∀ (l : List Int) (i : Int) (x : Int), L2.atI l i = some x → L2.atI (l.map f) i = some (f x) := by
  intro l i x h
  unfold L2.atI at h ⊢
  rw [List.length_map]
  cases e : ixN l.length i with
  | none => rw [e] at h; cases h
  | some j =>
    rw [e] at h
    show (l.map f)[j]? = _
    rw [List.getElem?_map, show l[j]? = some x from h]; rfl
theorem t_ix {l : List Int} {i x : Int} (h : L2.atI l i = some x) : vIxI (tupI l) (.int i) = some (.int x) := atI_map D.int l i x h
theorem t_min (a : Int) (l : List Int) : fMin [tupI (a :: l)] = some (.int (minI a l)) := e_minT a l
theorem t_max (a : Int) (l : List Int) : fMax [tupI (a :: l)] = some (.int (maxI a l)) := e_maxT a l
theorem vEq_lst (neg : Bool) (a b : List Int) : vEq neg (.lst (a.map D.int)) (.lst (b.map D.int)) = some (.bl (if neg then !decide (a = b) else decide (a = b))) := by
  unfold vEq
  rw [if_pos ⟨shaped_lst a, shaped_lst b⟩]
  have : PyData.eqv (D.lst (a.map D.int)).toPy (D.lst (b.map D.int)).toPy = decide (a = b) := by
    show PyData.eqv (.list (toPyL (a.map D.int))) (.list (toPyL (b.map D.int))) = _
    rw [toPyL_map D.int PyData.int (fun _ => rfl), toPyL_map D.int PyData.int (fun _ => rfl), PyData.eqv, eqv_ints]
  rw [this]
theorem allTrue {α : Type} : ∀ l : List α, bools (l.map fun _ => D.bl true) = some (l.map fun _ => true)
  | [] => rfl
  | a :: l => by show (bools (l.map fun _ => D.bl true)).map (true :: ·) = _; rw [allTrue l]; rfl
theorem t_all {α : Type} (l : List α) : fAll [.lst (l.map fun _ => D.bl true)] = some (.bl true) := by
  show (bools _).map _ = _
  rw [allTrue]
  show some (D.bl ((l.map fun _ => true).all id)) = _
  have : (l.map fun _ => true).all id = true := by rw [List.all_map]; exact List.all_eq_true.mpr fun _ _ => rfl
  rw [this]
end Rf
set_option Elab.async false
set_option linter.all false
set_option maxRecDepth 100000
/-! RfV: the interpreter's rules for exceptions with fields, instances, methods, enumerate, texts -/
namespace Rf
open PySem PySem.Spec L2
/-! ### a statement behind another -/
theorem seq_ok {a b : ENV → R Fl} {ρ ρ1 : ENV} (h : a ρ = .ok .nx ρ1) : sSeq a b ρ = b ρ1 := by unfold sSeq; rw [h]
theorem seq_ret {a b : ENV → R Fl} {ρ ρ1 : ENV} {v : DV} (h : a ρ = .ok (.ret v) ρ1) : sSeq a b ρ = .ok (.ret v) ρ1 := by unfold sSeq; rw [h]
/-! ### raising -/
def raFK (c : Nat) (fs : List Str) : List D → ENV → R Fl := fun ds ρ1 => if ds.length = fs.length ∧ ds.length ≤ 1000 then .exc ⟨c, (fs.zip ds).reverse⟩ ρ1 else .bot
theorem e_RaF (c : Nat) (fs : List Str) (dr : ENV → R (List D)) (ρ : ENV) : sRaiseF c fs dr ρ = (dr ρ).bind (raFK c fs) := rfl
theorem e_raF1 (c : Nat) (f : Str) (d : D) (ρ : ENV) : raFK c [f] [d] ρ = .exc ⟨c, [(f, d)]⟩ ρ := rfl
theorem e_raF2 (c : Nat) (f g : Str) (d e : D) (ρ : ENV) : raFK c [f, g] [d, e] ρ = .exc ⟨c, [(g, e), (f, d)]⟩ ρ := rfl
def tryAK (sub : Nat → Nat → Option Bool) (c i : Nat) (ss : EX → ENV → R Fl) : R Fl → R Fl
  | .exc e ρ1 => match sub e.c c with
    | some true => if i < ρ1.length then match ss e (ρ1.set i none) with
      | .ok f ρ2 => .ok f (ρ2.set i none)
      | _ => .bot else .bot
    | some false => .exc e ρ1
    | none => .bot
  | r => r
def asgnK (i : Nat) : R Fl → R Fl
  | .ok f ρ2 => .ok f (ρ2.set i none)
  | _ => .bot
theorem e_TryA (sub : Nat → Nat → Option Bool) (sb : ENV → R Fl) (c i : Nat) (ss : EX → ENV → R Fl) (ρ : ENV) : sTryAs sub sb c i ss ρ = tryAK sub c i ss (sb ρ) := by
  unfold sTryAs tryAK
  cases sb ρ <;> rfl
theorem e_tryAO (sub : Nat → Nat → Option Bool) (c i : Nat) (ss : EX → ENV → R Fl) (f : Fl) (ρ : ENV) : tryAK sub c i ss (.ok f ρ) = .ok f ρ := rfl
theorem e_tryAX (sub : Nat → Nat → Option Bool) (c i : Nat) (ss : EX → ENV → R Fl) (e : EX) (ρ : ENV) (h : sub e.c c = some true) (hi : i < ρ.length) : tryAK sub c i ss (.exc e ρ) = asgnK i (ss e (ρ.set i none)) := by
  unfold tryAK
  dsimp only
  rw [h]
  dsimp only
  rw [if_pos hi]
  cases ss e (ρ.set i none) <;> rfl
theorem e_asgnK (i : Nat) (f : Fl) (ρ : ENV) : asgnK i (.ok f ρ) = .ok f (ρ.set i none) := rfl
theorem e_Xf (ok : Nat → Bool) (f : Str) (c : Nat) (d : D) (r : List (Str × D)) (ρ : ENV) (h : ok c = true) : dXf ok f ⟨c, (f, d) :: r⟩ ρ = .ok d ρ := by
  show (if ok c = true then R.of (List.lookup f ((f, d) :: r)) ρ else .bot) = _
  rw [if_pos h, List.lookup_cons_self]
  rfl
theorem e_frzX (e : EX) (ρ : ENV) : frz (.exc e ρ) = .exc e ρ := rfl
theorem e_sqX (b : ENV → R Fl) : ∀ (e : EX) (ρ : ENV), (R.exc e ρ).bind (sqK b) = .exc e ρ := fun _ _ => rfl
/-! ### instances -/
theorem e_Fld (ok : Nat → Bool) (f : Str) (da : ENV → R D) (ρ : ENV) : dFld ok f da ρ = (da ρ).bind (op1 (vFld ok f)) := rfl
theorem e_vFld (ok : Nat → Bool) (f : Str) (c : Nat) (fs : List (Str × D)) (h : ok c = true) : vFld ok f (.ins c fs) = fs.lookup f := if_pos h
def fldK (ok : Nat → Bool) (f : Str) (i : Nat) : D → ENV → R Fl := fun d ρ1 => match ρ1[i]? with
  | some (some (.ow (.ins c fs))) => if ok c = true ∧ fs.length < 1000 then .ok .nx (ρ1.set i (some (.ow (.ins c (putD f d fs))))) else .bot
  | _ => .bot
theorem e_SFld (ok : Nat → Bool) (f : Str) (i : Nat) (da : ENV → R D) (ρ : ENV) : sFld ok f i da ρ = (da ρ).bind (fldK ok f i) := rfl
theorem e_fldK0 (ok : Nat → Bool) (f : Str) (d : D) (c : Nat) (fs : List (Str × D)) (r : ENV) (h : ok c = true) (hl : fs.length < 1000) : fldK ok f 0 d (some (.ow (.ins c fs)) :: r) = .ok .nx (some (.ow (.ins c (putD f d fs))) :: r) :=
  if_pos ⟨h, hl⟩
def mkK (c n : Nat) (F : List DV → FO) : List D → ENV → R M := fun ds ρ1 => if ds.length + 1 = n then mkR ρ1 (F (.ow (.ins c []) :: ds.map DV.sh)) else .bot
theorem e_Mk (c n : Nat) (F : List DV → FO) (da : ENV → R (List D)) (ρ : ENV) : fMake c n F da ρ = (da ρ).bind (mkK c n F) := rfl
theorem e_mkK1 (c : Nat) (F : List DV → FO) (x : D) (ρ : ENV) : mkK c 2 F [x] ρ = mkR ρ (F [.ow (.ins c []), .sh x]) := rfl
theorem e_mkK2 (c : Nat) (F : List DV → FO) (x y : D) (ρ : ENV) : mkK c 3 F [x, y] ρ = mkR ρ (F [.ow (.ins c []), .sh x, .sh y]) := rfl
theorem e_mkK3 (c : Nat) (F : List DV → FO) (x y z : D) (ρ : ENV) : mkK c 4 F [x, y, z] ρ = mkR ρ (F [.ow (.ins c []), .sh x, .sh y, .sh z]) := rfl
theorem e_mkK4 (c : Nat) (F : List DV → FO) (x y z u : D) (ρ : ENV) : mkK c 5 F [x, y, z, u] ρ = mkR ρ (F [.ow (.ins c []), .sh x, .sh y, .sh z, .sh u]) := rfl
theorem e_mkO (m : M) (ρ : ENV) : mkR ρ (.ok (.sh .non) [m]) = .ok m ρ := rfl
theorem e_mkX (e : EX) (ms : List M) (ρ : ENV) : mkR ρ (.exc e ms) = .exc e ρ := rfl
def metK2 (F : List DV → FO) (x : D) : List Ag → ENV → R DV := fun as ρ2 => stepR F (.inl x :: as) ρ2
theorem e_Met (tab : Nat → Option (List DV → FO)) (m : Str) (da : ENV → R D) (dr : ENV → R (List Ag)) (ρ : ENV) : dMet tab m da dr ρ = (da ρ).bind (metK tab m dr) := rfl
theorem e_metK (tab : Nat → Option (List DV → FO)) (m : Str) (dr : ENV → R (List Ag)) (x : D) (ρ : ENV) (F : List DV → FO) (h : metOf tab m x = some F) : metK tab m dr x ρ = ((dr ρ).bind (metK2 F x)).bind onSh := by unfold metK; rw [h]; rfl
theorem e_metK2 (F : List DV → FO) (x : D) (as : List Ag) (ρ : ENV) : metK2 F x as ρ = stepR F (.inl x :: as) ρ := rfl
/-! ### enumerate -/
theorem e_Enum (da : ENV → R D) (ρ : ENV) : dEnumT da ρ = (da ρ).bind enumKT := rfl
theorem e_enumL (ds : List D) (ρ : ENV) : enumKT (.lst ds) ρ = .ok (pairs ds) ρ := rfl
theorem e_enumT (ds : List D) (ρ : ENV) : enumKT (.tup ds) ρ = .ok (pairs ds) ρ := rfl
theorem forL_gS2 (i j : Nat) (a b : D) (ds : List D) (body : ENV → R Fl) (ρ : ENV) (hi : i < ρ.length) (hj : j < ρ.length) : forL (gSeq 2 (gsCons (gSet i) (gsCons (gSet j) gsNil))) body (.tup [a, b] :: ds) ρ
    = (body ((ρ.set i (some (.sh a))).set j (some (.sh b)))).bind (turnK (forL (gSeq 2 (gsCons (gSet i) (gsCons (gSet j) gsNil))) body ds)) := forL_cons _ _ _ _ _ _ (e_gSq2 i j a b ρ hi hj)
theorem pairs2 (a b : D) : pairs [a, b] = [.tup [.int 0, a], .tup [.int 1, b]] := by kernel_rfl
theorem pairs3 (a b c : D) : pairs [a, b, c] = [.tup [.int 0, a], .tup [.int 1, b], .tup [.int 2, c]] := by kernel_rfl
theorem pairs4 (a b c d : D) : pairs [a, b, c, d] = [.tup [.int 0, a], .tup [.int 1, b], .tup [.int 2, c], .tup [.int 3, d]] := by kernel_rfl
/-! ### tests -/
theorem e_IfB (t a b : ENV → R Bool) (ρ : ENV) : dIfB t a b ρ = (t ρ).bind (ifBK a b) := rfl
theorem e_ifBT (a b : ENV → R Bool) (ρ : ENV) : ifBK a b true ρ = a ρ := rfl
theorem e_ifBF (a b : ENV → R Bool) (ρ : ENV) : ifBK a b false ρ = b ρ := rfl
theorem e_notB (a b : Bool) : CK.f .notB (.bl a) (.bl b) = some (.bl (!decide (a = b))) := rfl
theorem e_isB (a b : Bool) : CK.f .isB (.bl a) (.bl b) = some (.bl (decide (a = b))) := rfl
section
variable {tab : Nat → Option (List DV → FO)} {ok : Nat → Bool}
theorem o_int (i : Int) (y : D) : vEqO tab ok (.int i) y = vEq false (.int i) y := rfl
theorem o_str (i : Str) (y : D) : vEqO tab ok (.str i) y = vEqS false (.str i) y := rfl
theorem o_tup (i : List D) (y : D) : vEqO tab ok (.tup i) y = vEq false (.tup i) y := rfl
theorem o_lst (i : List D) (y : D) : vEqO tab ok (.lst i) y = vEq false (.lst i) y := rfl
theorem o_non (y : D) : vEqO tab ok .non y = vEq false .non y := rfl
theorem o_bl (i : Bool) (y : D) : vEqO tab ok (.bl i) y = vEq false (.bl i) y := rfl
theorem n_int (i : Int) (y : D) : vNeO tab ok (.int i) y = vEq true (.int i) y := rfl
theorem n_str (i : Str) (y : D) : vNeO tab ok (.str i) y = vEqS true (.str i) y := rfl
theorem n_tup (i : List D) (y : D) : vNeO tab ok (.tup i) y = vEq true (.tup i) y := rfl
theorem n_lst (i : List D) (y : D) : vNeO tab ok (.lst i) y = vEq true (.lst i) y := rfl
theorem n_non (y : D) : vNeO tab ok .non y = vEq true .non y := rfl
theorem n_bl (i : Bool) (y : D) : vNeO tab ok (.bl i) y = vEq true (.bl i) y := rfl
theorem n_of {x y : D} {b : Bool} (hx : ∃ c fs, x = .ins c fs) (h : vEqO tab ok x y = some (.bl b)) : vNeO tab ok x y = some (.bl !b) := by
  obtain ⟨c, fs, rfl⟩ := hx
  show (vEqO tab ok _ y).bind negD = _
  rw [h]; rfl
end
theorem e_lst9 (a0 a1 a2 a3 a4 a5 a6 a7 a8 : D) (ρ : ENV) : lstK [a0, a1, a2, a3, a4, a5, a6, a7, a8] ρ = .ok (.lst [a0, a1, a2, a3, a4, a5, a6, a7, a8]) ρ := e_lstK _ ρ (by rw [sizeLine_eq]; show 9 ≤ _; decide)
theorem e_tup9 (a0 a1 a2 a3 a4 a5 a6 a7 a8 : D) (ρ : ENV) : tupK [a0, a1, a2, a3, a4, a5, a6, a7, a8] ρ = .ok (.tup [a0, a1, a2, a3, a4, a5, a6, a7, a8]) ρ := e_tupK _ ρ (by rw [sizeLine_eq]; show 9 ≤ _; decide)
theorem e_lst10 (a0 a1 a2 a3 a4 a5 a6 a7 a8 a9 : D) (ρ : ENV) : lstK [a0, a1, a2, a3, a4, a5, a6, a7, a8, a9] ρ = .ok (.lst [a0, a1, a2, a3, a4, a5, a6, a7, a8, a9]) ρ := e_lstK _ ρ (by rw [sizeLine_eq]; show 10 ≤ _; decide)
theorem e_tup10 (a0 a1 a2 a3 a4 a5 a6 a7 a8 a9 : D) (ρ : ENV) : tupK [a0, a1, a2, a3, a4, a5, a6, a7, a8, a9] ρ = .ok (.tup [a0, a1, a2, a3, a4, a5, a6, a7, a8, a9]) ρ := e_tupK _ ρ (by rw [sizeLine_eq]; show 10 ≤ _; decide)
theorem e_lst11 (a0 a1 a2 a3 a4 a5 a6 a7 a8 a9 a10 : D) (ρ : ENV) : lstK [a0, a1, a2, a3, a4, a5, a6, a7, a8, a9, a10] ρ = .ok (.lst [a0, a1, a2, a3, a4, a5, a6, a7, a8, a9, a10]) ρ := e_lstK _ ρ (by rw [sizeLine_eq]; show 11 ≤ _; decide)
theorem e_tup11 (a0 a1 a2 a3 a4 a5 a6 a7 a8 a9 a10 : D) (ρ : ENV) : tupK [a0, a1, a2, a3, a4, a5, a6, a7, a8, a9, a10] ρ = .ok (.tup [a0, a1, a2, a3, a4, a5, a6, a7, a8, a9, a10]) ρ := e_tupK _ ρ (by rw [sizeLine_eq]; show 11 ≤ _; decide)
theorem e_lst12 (a0 a1 a2 a3 a4 a5 a6 a7 a8 a9 a10 a11 : D) (ρ : ENV) : lstK [a0, a1, a2, a3, a4, a5, a6, a7, a8, a9, a10, a11] ρ = .ok (.lst [a0, a1, a2, a3, a4, a5, a6, a7, a8, a9, a10, a11]) ρ := e_lstK _ ρ (by rw [sizeLine_eq]; show 12 ≤ _; decide)
theorem e_tup12 (a0 a1 a2 a3 a4 a5 a6 a7 a8 a9 a10 a11 : D) (ρ : ENV) : tupK [a0, a1, a2, a3, a4, a5, a6, a7, a8, a9, a10, a11] ρ = .ok (.tup [a0, a1, a2, a3, a4, a5, a6, a7, a8, a9, a10, a11]) ρ := e_tupK _ ρ (by rw [sizeLine_eq]; show 12 ≤ _; decide)
theorem e_lst13 (a0 a1 a2 a3 a4 a5 a6 a7 a8 a9 a10 a11 a12 : D) (ρ : ENV) : lstK [a0, a1, a2, a3, a4, a5, a6, a7, a8, a9, a10, a11, a12] ρ = .ok (.lst [a0, a1, a2, a3, a4, a5, a6, a7, a8, a9, a10, a11, a12]) ρ := e_lstK _ ρ (by rw [sizeLine_eq]; show 13 ≤ _; decide)
theorem e_lst14 (a0 a1 a2 a3 a4 a5 a6 a7 a8 a9 a10 a11 a12 a13 : D) (ρ : ENV) : lstK [a0, a1, a2, a3, a4, a5, a6, a7, a8, a9, a10, a11, a12, a13] ρ = .ok (.lst [a0, a1, a2, a3, a4, a5, a6, a7, a8, a9, a10, a11, a12, a13]) ρ := e_lstK _ ρ (by rw [sizeLine_eq]; show 14 ≤ _; decide)
theorem e_lst15 (a0 a1 a2 a3 a4 a5 a6 a7 a8 a9 a10 a11 a12 a13 a14 : D) (ρ : ENV) : lstK [a0, a1, a2, a3, a4, a5, a6, a7, a8, a9, a10, a11, a12, a13, a14] ρ = .ok (.lst [a0, a1, a2, a3, a4, a5, a6, a7, a8, a9, a10, a11, a12, a13, a14]) ρ := e_lstK _ ρ (by rw [sizeLine_eq]; show 15 ≤ _; decide)
theorem e_lst16 (a0 a1 a2 a3 a4 a5 a6 a7 a8 a9 a10 a11 a12 a13 a14 a15 : D) (ρ : ENV) : lstK [a0, a1, a2, a3, a4, a5, a6, a7, a8, a9, a10, a11, a12, a13, a14, a15] ρ = .ok (.lst [a0, a1, a2, a3, a4, a5, a6, a7, a8, a9, a10, a11, a12, a13, a14, a15]) ρ := e_lstK _ ρ (by rw [sizeLine_eq]; show 16 ≤ _; decide)
theorem e_addL (a b : List D) (h : a.length + b.length ≤ sizeLine) : vAdd (.lst a) (.lst b) = some (.lst (a ++ b)) := if_pos h
/-! ### loops by what stays -/
theorem for_inv {g : D → ENV → Option ENV} {body : ENV → R Fl} (P : ENV → Prop) : ∀ (ds : List D) (ρ : ENV), (∀ d ∈ ds, ∀ ρ, P ρ → ∃ ρ1 ρ2, g d ρ = some ρ1 ∧ (body ρ1 = .ok .nx ρ2 ∨ body ρ1 = .ok .ct ρ2) ∧ P ρ2) → P ρ →
    ∃ ρ', forL g body ds ρ = .ok .nx ρ' ∧ P ρ'
  | [], ρ, _, h => ⟨ρ, rfl, h⟩
  | d :: ds, ρ, hb, h => by
    obtain ⟨ρ1, ρ2, e1, e2, h2⟩ := hb d List.mem_cons_self ρ h
    obtain ⟨ρ', e3, h3⟩ := for_inv P ds ρ2 (fun d hd => hb d (List.mem_cons_of_mem _ hd)) h2
    refine ⟨ρ', ?_, h3⟩
    rw [forL_cons _ _ _ _ _ _ e1]
    rcases e2 with e2 | e2 <;> rw [e2] <;> exact e3
/-- over a list, turn by turn, with what holds before turn i -/
theorem for_run {g : D → ENV → Option ENV} {body : ENV → R Fl} (P : Nat → ENV → Prop) : ∀ (ds : List D) (k : Nat) (ρ : ENV), (∀ i d, ds[i]? = some d → ∀ ρ, P (k + i) ρ → ∃ ρ1 ρ2, g d ρ = some ρ1 ∧ (body ρ1 = .ok .nx ρ2 ∨ body ρ1 = .ok .ct ρ2) ∧ P (k + i + 1) ρ2) → P k ρ →
    ∃ ρ', forL g body ds ρ = .ok .nx ρ' ∧ P (k + ds.length) ρ'
  | [], k, ρ, _, h => ⟨ρ, rfl, h⟩
  | d :: ds, k, ρ, hb, h => by
    obtain ⟨ρ1, ρ2, e1, e2, h2⟩ := hb 0 d rfl ρ h
    obtain ⟨ρ', e3, h3⟩ := for_run P ds (k + 1) ρ2 (fun i d hd ρ hp => by
      have e : k + 1 + i = k + (i + 1) := by omega
      rw [e] at hp ⊢
      exact hb (i + 1) d (by simpa using hd) ρ hp) h2
    refine ⟨ρ', ?_, by rw [List.length_cons, show k + (ds.length + 1) = k + 1 + ds.length by omega]; exact h3⟩
    rw [forL_cons _ _ _ _ _ _ e1]
    rcases e2 with e2 | e2 <;> rw [e2] <;> exact e3
theorem gSet_at {i : Nat} {d : D} {ρ : ENV} (h : i < ρ.length) : gSet i d ρ = some (ρ.set i (some (.sh d))) := e_gSet i d ρ h
/-! ### xs[e] = d -/
def subK3 (i : Nat) (d : D) : D → ENV → R Fl := fun k ρ2 => match k, ρ2[i]? with
    | .int k, some (some (.ow (.lst ds))) => match ixN ds.length k with
      | some j => .ok .nx (ρ2.set i (some (.ow (.lst (ds.set j d)))))
      | none => .bot
    | _, _ => .bot
theorem e_subK0 (i : Nat) (di : ENV → R D) (d : D) (ρ : ENV) (ds : List D) (h : ρ[i]? = some (some (.ow (.lst ds)))) : subK i di d ρ = (di ρ).bind (subK3 i d) := by
  unfold subK
  rw [h]
  rfl
theorem e_subK3 (i : Nat) (k : Int) (d : D) (ρ : ENV) (ds : List D) (h : ρ[i]? = some (some (.ow (.lst ds)))) (hk : 0 ≤ k) (hl : k < ds.length) : subK3 i d (.int k) ρ = .ok .nx (ρ.set i (some (.ow (.lst (ds.set k.toNat d))))) := by
  unfold subK3
  rw [h]
  dsimp only [ixN]
  rw [if_pos hk, if_pos hl]
/-- list(x), fresh -/
def listFK : D → ENV → R M := fun x ρ1 => match x with
  | .lst ds => .ok (.lst ds) ρ1
  | .scr ds => .ok (.lst ds) ρ1
  | .tup ds => .ok (.lst ds) ρ1
  | _ => .bot
theorem e_ListF (da : ENV → R D) (ρ : ENV) : fListF da ρ = (da ρ).bind listFK := rfl
theorem e_listFT (ds : List D) (ρ : ENV) : listFK (.tup ds) ρ = .ok (.lst ds) ρ := rfl
theorem e_listFL (ds : List D) (ρ : ENV) : listFK (.lst ds) ρ = .ok (.lst ds) ρ := rfl
theorem shaped_str {x : Str} (h : PyData.strOk x = true) : SeqAt.shaped (D.str x).toPy = true := by simp [SeqAt.shaped, D.toPy, PyData.canLay0, PyData.depth, h]
/-! ### dict.get -/
theorem e_GetK (tab : List (Str × D)) (da : ENV → R D) (ρ : ENV) : dGetK tab da ρ = (da ρ).bind (getK tab) := rfl
theorem e_getK (tab : List (Str × D)) (k : Str) (ρ : ENV) : getK tab (.str k) ρ = .ok ((lkS k tab).getD .non) ρ := rfl
theorem lenT1 (a : D) : fLen [.tup [a]] = some (.int 1) := rfl
theorem lenT2 (a b : D) : fLen [.tup [a, b]] = some (.int 2) := rfl
/-! ### a text among texts -/
def SD (ws : List Str) : List D := ws.map D.str
theorem lay_strs : ∀ ws : List Str, (∀ n ∈ ws, PyData.strOk n = true) → PyData.canLayAll0 (toPyL (SD ws)) = true
  | [], _ => rfl
  | a :: r, h => by
    simp only [SD, List.map_cons, toPyL, D.toPy, PyData.canLayAll0, PyData.canLay0, h a List.mem_cons_self, Bool.true_and]
    exact lay_strs r fun n hn => h n (List.mem_cons_of_mem _ hn)
theorem any_strs (x : Str) : ∀ ws : List Str, ((toPyL (SD ws)).any fun z => PyData.eqv z (D.str x).toPy) = decide (x ∈ ws)
  | [] => rfl
  | a :: r => by
    have ih := any_strs x r
    simp only [SD, List.map_cons, toPyL, D.toPy, List.any_cons, PyData.eqv] at ih ⊢
    rw [ih]
    by_cases h : a = x
    · subst h; simp
    · have h' : ¬ x = a := fun z => h z.symm
      simp [h, h']
theorem in_lstS (neg : Bool) {x : Str} {ws : List Str} (hx : PyData.strOk x = true) (h : ws.all PyData.strOk = true) : vIn neg (.str x) (.lst (SD ws)) = some (.bl (if neg then !decide (x ∈ ws) else decide (x ∈ ws))) := by
  unfold vIn
  dsimp only
  rw [if_pos ⟨shaped_str hx, lay_strs ws (List.all_eq_true.mp h)⟩, any_strs x ws]
theorem in_tupS (neg : Bool) {x : Str} {ws : List Str} (hx : PyData.strOk x = true) (h : ws.all PyData.strOk = true) : vIn neg (.str x) (.tup (SD ws)) = some (.bl (if neg then !decide (x ∈ ws) else decide (x ∈ ws))) := by
  unfold vIn
  dsimp only
  rw [if_pos ⟨shaped_str hx, lay_strs ws (List.all_eq_true.mp h)⟩, any_strs x ws]
/-! ### texts compared -/
theorem eqSS (neg : Bool) (a b : Str) : vEqS neg (.str a) (.str b) = some (.bl (if neg then !decide (a = b) else decide (a = b))) := rfl
theorem e_eqS (a b : Str) : CK.f .eq (.str a) (.str b) = some (.bl (decide (a = b))) := rfl
theorem e_neS (a b : Str) : CK.f .ne (.str a) (.str b) = some (.bl (!decide (a = b))) := rfl
theorem vEq_str (neg : Bool) {a b : Str} (ha : PyData.strOk a = true) (hb : PyData.strOk b = true) : vEq neg (.str a) (.str b) = some (.bl (if neg then !decide (a = b) else decide (a = b))) := by
  have e : PyData.eqv (D.str a).toPy (D.str b).toPy = decide (a = b) := by
    simp only [D.toPy, PyData.eqv]
    by_cases q : a = b
    · subst q; simp
    · simp [q]
  unfold vEq
  rw [if_pos ⟨shaped_str ha, shaped_str hb⟩, e]
theorem vEq_strT (neg : Bool) {a : Str} (ha : PyData.strOk a = true) : vEq neg (.str a) (.str a) = some (.bl (!neg)) := by rw [vEq_str neg ha ha]; cases neg <;> simp
theorem e_addS (a b : Str) (h : a.length + b.length ≤ sizeLine) : vAdd (.str a) (.str b) = some (.str (a ++ b)) := if_pos h
theorem e_ixS (z : Str) (i : Int) : vIxI (.str z) (.int i) = (L2.atI z.cps.toList i).map fun c => .str ⟨#[c]⟩ := rfl
theorem e_itS (z : Str) (ρ : ENV) : itK (.str z) ρ = .ok (signs z) ρ := rfl
theorem bools_f {α : Type} (f : α → Bool) : ∀ l : List α, bools (l.map fun i => D.bl (f i)) = some (l.map f)
  | [] => rfl
  | a :: l => by show (bools (l.map fun i => D.bl (f i))).map (f a :: ·) = _; rw [bools_f f l]; rfl
theorem all_f {α : Type} (f : α → Bool) (l : List α) : fAll [.lst (l.map fun i => D.bl (f i))] = some (.bl (l.all f)) := by
  show (bools _).map _ = _
  rw [bools_f]
  show some (D.bl ((l.map f).all id)) = _
  rw [List.all_map]
  rfl
/-- [te for sign in text] -/
theorem lc_text {ρ : ENV} {i : Nat} {te : ENV → R D} {di : ENV → R (List D)} {z : Str} (f : Nat → D) (hd : di ρ = .ok (signs z) ρ) (hi : ρ[i]? = some none) (h : ∀ n, te (ρ.set i (some (.sh (.str ⟨#[n]⟩)))) = .ok (f n) (ρ.set i (some (.sh (.str ⟨#[n]⟩))))) (hz : z.length ≤ sizeLine) :
    fLc di (gSet i) dYes te [i] ρ = .ok (.lst (z.cps.toList.map f)) ρ := by
  have := lc_map (te := te) (fun d => match d with | .str x => f (x.cps.toList.headD 0) | d => d) hd hi (fun d hd => by
    obtain ⟨n, hn, rfl⟩ := List.mem_map.mp hd
    exact h n) (by unfold signs; rw [List.length_map, Array.length_toList]; exact hz)
  rw [this]
  unfold signs
  rw [List.map_map]
  rfl
end Rf
set_option Elab.async false
set_option linter.all false
set_option maxRecDepth 100000
/-! RfW: more rules: slices, four arguments, sIf by one fact -/
namespace Rf
open PySem PySem.Spec L2
def sl3 (x : D) (l : Option Int) : Option Int → ENV → R D := fun h ρ => R.of (vSl x l h) ρ
def sl2 (dh : ENV → R (Option Int)) (x : D) : Option Int → ENV → R D := fun l ρ => (dh ρ).bind (sl3 x l)
def sl1 (dl dh : ENV → R (Option Int)) : D → ENV → R D := fun x ρ => (dl ρ).bind (sl2 dh x)
theorem e_Sl (da : ENV → R D) (dl dh : ENV → R (Option Int)) (ρ : ENV) : dSl da dl dh ρ = (da ρ).bind (sl1 dl dh) := rfl
theorem e_sl1 (dl dh : ENV → R (Option Int)) (x : D) (ρ : ENV) : sl1 dl dh x ρ = (dl ρ).bind (sl2 dh x) := rfl
theorem e_sl2 (dh : ENV → R (Option Int)) (x : D) (l : Option Int) (ρ : ENV) : sl2 dh x l ρ = (dh ρ).bind (sl3 x l) := rfl
theorem e_sl3 (x : D) (l h : Option Int) (ρ : ENV) : sl3 x l h ρ = R.of (vSl x l h) ρ := rfl
theorem e_NoPart (ρ : ENV) : dNoPart ρ = .ok none ρ := rfl
def prt : D → ENV → R (Option Int) := fun x ρ => match x with
  | .int i => .ok (some i) ρ
  | _ => .bot
theorem e_Part (da : ENV → R D) (ρ : ENV) : dPart da ρ = (da ρ).bind prt := rfl
theorem e_prt (i : Int) (ρ : ENV) : prt (.int i) ρ = .ok (some i) ρ := rfl
theorem step4 (F : List DV → FO) (a b c d : D) (ρ : ENV) : stepR F [.inl a, .inl b, .inl c, .inl d] ρ = outK [.inl a, .inl b, .inl c, .inl d] ρ (F [.sh a, .sh b, .sh c, .sh d]) := by show (match F [.sh a, .sh b, .sh c, .sh d] with | .ok v ms => _ | .exc e ms => _ | .bot => _) = _; cases F [.sh a, .sh b, .sh c, .sh d] <;> rfl
theorem out4 (a b c d : D) (ρ : ENV) (v : DV) : outK [.inl a, .inl b, .inl c, .inl d] ρ (.ok v []) = .ok v ρ := rfl
theorem sif_t {c : ENV → R Bool} {p q : ENV → R Fl} {ρ : ENV} (h : c ρ = .ok true ρ) : sIf c p q ρ = p ρ := by rw [e_sIf, h]; rfl
theorem sif_f {c : ENV → R Bool} {p q : ENV → R Fl} {ρ : ENV} (h : c ρ = .ok false ρ) : sIf c p q ρ = q ρ := by rw [e_sIf, h]; rfl
theorem set_none {ρ : ENV} {i : Nat} (h : ρ[i]? = some none) : ρ.set i none = ρ := by
  refine List.ext_getElem? fun j => ?_
  by_cases e : i = j
  · subst e; rw [List.getElem?_set_self (List.getElem?_eq_some_iff.mp h).1, h]
  · rw [List.getElem?_set_ne e]
theorem rng_in {lo hi : Int} {d : D} (h : d ∈ rng lo hi) : ∃ i, d = .int i ∧ lo ≤ i ∧ (i < hi ∨ hi ≤ lo) := by
  unfold rng at h
  obtain ⟨k, hk, rfl⟩ := List.mem_map.mp h
  have := List.mem_range.mp hk
  exact ⟨_, rfl, by omega, by omega⟩
/-! ### slices of lists -/
theorem sIx_nn {n d : Nat} {i : Int} (h0 : 0 ≤ i) (h1 : i ≤ n) : HT.sIx n d (some i) = i.toNat := by
  show (if i < 0 then (i + (n : Int)).toNat else min i.toNat n) = i.toNat
  rw [if_neg (by omega)]
  omega
theorem cut_take {ds : List D} {i : Int} (h0 : 0 ≤ i) (h1 : i ≤ ds.length) : cutD ds none (some i) = ds.take i.toNat := by
  unfold cutD
  rw [sIx_nn h0 h1]
  rfl
theorem cut_drop {ds : List D} {i : Int} (h0 : 0 ≤ i) (h1 : i ≤ ds.length) : cutD ds (some i) none = ds.drop i.toNat := by
  unfold cutD
  rw [sIx_nn h0 h1]
  show (ds.drop i.toNat).take (ds.length - i.toNat) = _
  rw [List.take_of_length_le (by rw [List.length_drop]; omega)]
theorem sl_take {ds : List D} {i : Int} (h0 : 0 ≤ i) (h1 : i ≤ ds.length) : vSl (.lst ds) none (some i) = some (.lst (ds.take i.toNat)) := by
  unfold vSl; dsimp only; rw [cut_take h0 h1]
theorem sl_drop {ds : List D} {i : Int} (h0 : 0 ≤ i) (h1 : i ≤ ds.length) : vSl (.lst ds) (some i) none = some (.lst (ds.drop i.toNat)) := by
  unfold vSl; dsimp only; rw [cut_drop h0 h1]
/-! ### a default behind the arguments -/
theorem e_aDef (d : D) (dr : ENV → R (List Ag)) (ρ : ENV) : aDef d dr ρ = (dr ρ).bind (defK d) := rfl
theorem e_defK (d : D) (as : List Ag) (ρ : ENV) : defK d as ρ = .ok (as ++ [.inl d]) ρ := rfl
/-! ### comprehensions over pairs -/
theorem comp_pairs {ρ : ENV} {i j : Nat} {te : ENV → R D} {f : D → D} (hi : i < ρ.length) (hj : j < ρ.length) (hij : i ≠ j) : ∀ (ps acc : List D) (x y : Option DV), (∀ d ∈ ps, ∃ k v, d = .tup [.int k, v] ∧ te ((ρ.set i (some (.sh (.int k)))).set j (some (.sh v))) = .ok (f d) ((ρ.set i (some (.sh (.int k)))).set j (some (.sh v)))) → acc.length + ps.length ≤ sizeLine →
    ∃ x' y', compL (gSeq 2 (gsCons (gSet i) (gsCons (gSet j) gsNil))) dYes te [i, j] ps acc ((ρ.set i x).set j y) = .ok (acc ++ ps.map f) ((ρ.set i x').set j y')
  | [], acc, x, y, _, _ => ⟨x, y, by unfold compL; simp⟩
  | d :: ps, acc, x, y, h, hz => by
    obtain ⟨k, v, rfl, e⟩ := h d List.mem_cons_self
    obtain ⟨x', y', hy⟩ := comp_pairs hi hj hij ps (acc ++ [f (.tup [.int k, v])]) (some (.sh (.int k))) (some (.sh v)) (fun e he => h e (List.mem_cons_of_mem _ he)) (by simp only [List.length_append, List.length_cons, List.length_nil] at hz ⊢; omega)
    refine ⟨x', y', ?_⟩
    unfold compL
    have w1 : wipeE ((ρ.set i x).set j y) [i, j] = (ρ.set i none).set j none := by
      unfold wipeE wipeE wipeE
      rw [set2, List.set_comm _ _ (fun h => hij h.symm), set2]
    have w2 : gSeq 2 (gsCons (gSet i) (gsCons (gSet j) gsNil)) (.tup [.int k, v]) ((ρ.set i none).set j none) = some ((ρ.set i (some (.sh (.int k)))).set j (some (.sh v))) := by
      rw [e_gSq2 _ _ _ _ _ (by simpa using hi) (by simpa using hj), List.set_comm _ _ (fun h => hij h.symm), set2, set2]
    have w3 : acc.length < sizeLine := by simp only [List.length_cons] at hz; omega
    rw [w1, w2]
    simp only [dYes, e, if_pos w3, hy]
    simp
theorem lc_pairs {ρ : ENV} {i j : Nat} {te : ENV → R D} {di : ENV → R (List D)} {ps : List D} (f : D → D) (hd : di ρ = .ok ps ρ) (hi : ρ[i]? = some none) (hj : ρ[j]? = some none) (hij : i ≠ j) (h : ∀ d ∈ ps, ∃ k v, d = .tup [.int k, v] ∧ te ((ρ.set i (some (.sh (.int k)))).set j (some (.sh v))) = .ok (f d) ((ρ.set i (some (.sh (.int k)))).set j (some (.sh v)))) (hz : ps.length ≤ sizeLine) :
    fLc di (gSeq 2 (gsCons (gSet i) (gsCons (gSet j) gsNil))) dYes te [i, j] ρ = .ok (.lst (ps.map f)) ρ := by
  have ei : ρ.set i none = ρ := set_none hi
  have ej : ρ.set j none = ρ := set_none hj
  obtain ⟨x', y', hy⟩ := comp_pairs (List.getElem?_eq_some_iff.mp hi).1 (List.getElem?_eq_some_iff.mp hj).1 hij ps [] none none h (by simpa using hz)
  rw [ei, ej] at hy
  unfold fLc
  rw [hd]
  dsimp only [R.bind]
  have no : noOwn ρ [i, j] = true := by
    unfold noOwn
    simp only [List.all_cons, List.all_nil, hi, hj, Bool.and_true]
  rw [no, hy]
  dsimp only
  have b : back ρ [i, j] ((ρ.set i x').set j y') = ρ := by
    unfold back back back
    rw [hi, hj]
    dsimp only
    rw [set2, List.set_comm _ _ (fun h => hij h.symm), set2, ei, ej]
  rw [b]
  simp
theorem pairs_mem {ds : List D} {d : D} (h : d ∈ pairs ds) : ∃ (k : Nat) (v : D), d = .tup [.int (k : Nat), v] ∧ ds[k]? = some v := by
  unfold pairs at h
  obtain ⟨k, hk, rfl⟩ := List.mem_mapIdx.mp h
  exact ⟨k, _, rfl, List.getElem?_eq_getElem hk⟩
theorem pairs_at {ds : List D} {k : Nat} {v : D} (h : ds[k]? = some v) : (pairs ds)[k]? = some (.tup [.int (k : Nat), v]) := by
  unfold pairs
  rw [List.getElem?_mapIdx, h]
  rfl
/-! ### comprehensions that draw from an owned thing -/
theorem comp_draw {Gd : M → Prop} {i : Nat} {te : ENV → R D} {A : M → ENV} {P : D → Prop} (hl : ∀ m, i < (A m).length) (ds0 : List D) (h : ∀ d ∈ ds0, ∀ m, Gd m → ∃ y m', te ((A m).set i (some (.sh d))) = .ok y ((A m').set i (some (.sh d))) ∧ Gd m' ∧ P y) :
    ∀ (ds acc : List D) (m : M) (x : Option DV), (∀ d ∈ ds, d ∈ ds0) → Gd m → acc.length + ds.length ≤ sizeLine → ∃ ys m' y, compL (gSet i) dYes te [i] ds acc ((A m).set i x) = .ok (acc ++ ys) ((A m').set i y) ∧ Gd m' ∧ ys.length = ds.length ∧ ∀ z ∈ ys, P z
  | [], acc, m, x, _, hm, _ => ⟨[], m, x, by unfold compL; simp, hm, rfl, fun _ h => nomatch h⟩
  | d :: ds, acc, m, x, hs, hm, hz => by
    obtain ⟨y, m1, e1, g1, py⟩ := h d (hs d List.mem_cons_self) m hm
    obtain ⟨ys, m2, y2, e2, g2, l2, p2⟩ := comp_draw hl ds0 h ds (acc ++ [y]) m1 (some (.sh d)) (fun e he => hs e (List.mem_cons_of_mem _ he)) g1 (by simp only [List.length_append, List.length_cons, List.length_nil] at hz ⊢; omega)
    refine ⟨y :: ys, m2, y2, ?_, g2, by simp [l2], fun z hz => ?_⟩
    · unfold compL
      have w1 : wipeE ((A m).set i x) [i] = (A m).set i none := by unfold wipeE; exact set2 ..
      have w2 : gSet i d ((A m).set i none) = some ((A m).set i (some (.sh d))) := by unfold gSet; rw [if_pos (by rw [List.length_set]; exact hl m), set2]
      have w3 : acc.length < sizeLine := by simp only [List.length_cons] at hz; omega
      rw [w1, w2]
      simp only [dYes, e1, if_pos w3, e2]
      simp
    · rcases List.mem_cons.mp hz with rfl | hz
      · exact py
      · exact p2 z hz
theorem lc_draw {Gd : M → Prop} {i : Nat} {te : ENV → R D} {di : ENV → R (List D)} {A : M → ENV} {P : D → Prop} {ds : List D} {m : M} (hm : Gd m) (hd : di (A m) = .ok ds (A m)) (hi : ∀ m, (A m)[i]? = some none) (h : ∀ d ∈ ds, ∀ m, Gd m → ∃ y m', te ((A m).set i (some (.sh d))) = .ok y ((A m').set i (some (.sh d))) ∧ Gd m' ∧ P y) (hz : ds.length ≤ sizeLine) :
    ∃ ys m', fLc di (gSet i) dYes te [i] (A m) = .ok (.lst ys) (A m') ∧ Gd m' ∧ ys.length = ds.length ∧ ∀ z ∈ ys, P z := by
  obtain ⟨ys, m1, y, e, g, l, p⟩ := comp_draw (fun m => (List.getElem?_eq_some_iff.mp (hi m)).1) ds h ds [] m none (fun _ h => h) hm (by simpa using hz)
  refine ⟨ys, m1, ?_, g, l, p⟩
  rw [set_none (hi m)] at e
  unfold fLc
  rw [hd]
  dsimp only [R.bind]
  rw [noOwn1 _ i (hi m), e]
  dsimp only
  unfold back
  rw [hi m]
  dsimp only
  unfold back
  rw [set2, set_none (hi m1)]
  rfl
end Rf
set_option Elab.async false
set_option linter.all false
set_option maxRecDepth 100000
/-! Sv: sevens and hops, in plain Lean -/
namespace Sv
open PySem L2 Rf
def evens (k : Int) : List Int := [k, k, k, k, k, k, k]
def sawAt (w m r : Int) : Int := m + ((w - (r + m) - 1) % 7 + 1)
def saws (w m : Int) : List Int := [sawAt w m 0, sawAt w m 1, sawAt w m 2, sawAt w m 3, sawAt w m 4, sawAt w m 5, sawAt w m 6]
def evenD (k : Int) : D := .tup [.str "even", .int k]
def sawD (w m : Int) : D := .tup [.str "saw", .int w, .int m]
def R7 : List Int := [0, 1, 2, 3, 4, 5, 6]
def at7 (l : List Int) (r : Int) : Int := l.getD r.toNat 0
theorem atI_nn {α : Type} {xs : List α} {i : Int} {x : α} (h0 : 0 ≤ i) (h : xs[i.toNat]? = some x) : L2.atI xs i = some x := atN h0 h
theorem mem7 {r : Int} (h : r ∈ R7) : 0 ≤ r ∧ r ≤ 6 := by
  simp only [R7, List.mem_cons, List.not_mem_nil, or_false] at h
  omega
theorem at7_ok {l : List Int} (hl : l.length = 7) {r : Int} (h : r ∈ R7) : L2.atI l r = some (at7 l r) := by
  have := mem7 h
  refine atN this.1 ?_
  unfold at7
  rw [List.getD_eq_getElem?_getD, List.getElem?_eq_getElem (by omega)]
  rfl
theorem at7_evens (k : Int) {r : Int} (h : r ∈ R7) : at7 (evens k) r = k := by
  simp only [R7, List.mem_cons, List.not_mem_nil, or_false] at h
  rcases h with rfl | rfl | rfl | rfl | rfl | rfl | rfl <;> rfl
theorem at7_saws (w m : Int) {r : Int} (h : r ∈ R7) : at7 (saws w m) r = sawAt w m r := by
  simp only [R7, List.mem_cons, List.not_mem_nil, or_false] at h
  rcases h with rfl | rfl | rfl | rfl | rfl | rfl | rfl <;> rfl
theorem map7 {l : List Int} (hl : l.length = 7) : R7.map (at7 l) = l := by
  match l, hl with
  | [a, b, c, d, e, f, g], _ => rfl
theorem sawAt_lo (w m r : Int) : m + 1 ≤ sawAt w m r := by unfold sawAt; omega
theorem sawAt_hi (w m r : Int) : sawAt w m r ≤ m + 7 := by unfold sawAt; omega
theorem sawAt_mod (w m r : Int) (h0 : 0 ≤ w) (h6 : w ≤ 6) : (r + sawAt w m r) % 7 = w := by unfold sawAt; omega
theorem saws_min (w m : Int) : minI (sawAt w m 0) [sawAt w m 1, sawAt w m 2, sawAt w m 3, sawAt w m 4, sawAt w m 5, sawAt w m 6] = m + 1 := by
  refine minI_eq ?_ fun y hy => ?_
  · have : (w - m - 1) % 7 = 0 ∨ (w - m - 1) % 7 = 1 ∨ (w - m - 1) % 7 = 2 ∨ (w - m - 1) % 7 = 3 ∨ (w - m - 1) % 7 = 4 ∨ (w - m - 1) % 7 = 5 ∨ (w - m - 1) % 7 = 6 := by omega
    simp only [List.mem_cons, List.not_mem_nil, or_false, sawAt]
    omega
  · simp only [List.mem_cons, List.not_mem_nil, or_false] at hy
    rcases hy with rfl | rfl | rfl | rfl | rfl | rfl | rfl <;> exact sawAt_lo ..
theorem saws_max (w m : Int) : maxI (sawAt w m 0) [sawAt w m 1, sawAt w m 2, sawAt w m 3, sawAt w m 4, sawAt w m 5, sawAt w m 6] = m + 7 := by
  refine maxI_eq ?_ fun y hy => ?_
  · have : (w - m - 1) % 7 = 0 ∨ (w - m - 1) % 7 = 1 ∨ (w - m - 1) % 7 = 2 ∨ (w - m - 1) % 7 = 3 ∨ (w - m - 1) % 7 = 4 ∨ (w - m - 1) % 7 = 5 ∨ (w - m - 1) % 7 = 6 := by omega
    simp only [List.mem_cons, List.not_mem_nil, or_false, sawAt]
    omega
  · simp only [List.mem_cons, List.not_mem_nil, or_false] at hy
    rcases hy with rfl | rfl | rfl | rfl | rfl | rfl | rfl <;> exact sawAt_hi ..
theorem saws_ne (w m k : Int) : saws w m ≠ evens k := by
  intro h
  simp only [saws, evens, List.cons.injEq, and_true] at h
  obtain ⟨h0, h1, _⟩ := h
  unfold sawAt at h0 h1
  omega
theorem saws_inj (w m v n : Int) (h0 : 0 ≤ w) (h6 : w ≤ 6) (g0 : 0 ≤ v) (g6 : v ≤ 6) (h : saws w m = saws v n) : w = v ∧ m = n := by
  have e1 := saws_min w m
  have e2 := saws_min v n
  simp only [saws, List.cons.injEq, and_true] at h
  obtain ⟨a0, a1, a2, a3, a4, a5, a6⟩ := h
  rw [a0, a1, a2, a3, a4, a5, a6, e2] at e1
  have m1 := sawAt_mod w m 0 h0 h6
  have m2 := sawAt_mod v n 0 g0 g6
  rw [a0] at m1
  omega
theorem ext7 {a b : List Int} (ha : a.length = 7) (hb : b.length = 7) (h : ∀ r ∈ R7, at7 a r = at7 b r) : a = b := by
  rw [← map7 ha, ← map7 hb]
  exact List.map_congr_left h
/-! ### shapes -/
inductive Sh
  | ev (k : Int)
  | sw (w m : Int)
def Sh.lst : Sh → List Int
  | .ev k => evens k
  | .sw w m => saws w m
def Sh.d : Sh → D
  | .ev k => evenD k
  | .sw w m => sawD w m
def Sh.at : Sh → Int → Int
  | .ev k, _ => k
  | .sw w m, r => sawAt w m r
/-- within -/
def Sh.fit (B : Int) : Sh → Prop
  | .ev k => -B ≤ k ∧ k ≤ B
  | .sw w m => 0 ≤ w ∧ w ≤ 6 ∧ -B ≤ m ∧ m ≤ B
theorem Sh.len (s : Sh) : s.lst.length = 7 := by cases s <;> rfl
theorem Sh.at_eq (s : Sh) {r : Int} (h : r ∈ R7) : at7 s.lst r = s.at r := by
  cases s with
  | ev k => exact at7_evens k h
  | sw w m => exact at7_saws w m h
theorem Sh.atI (s : Sh) {r : Int} (h : r ∈ R7) : L2.atI s.lst r = some (s.at r) := by rw [← s.at_eq h]; exact at7_ok s.len h
theorem Sh.mono {B C : Int} {s : Sh} (h : s.fit B) (hb : B ≤ C) : s.fit C := by
  cases s with
  | ev k => obtain ⟨a, b⟩ := h; exact ⟨by omega, by omega⟩
  | sw w m => obtain ⟨a, b, c, d⟩ := h; exact ⟨a, b, by omega, by omega⟩
theorem Sh.map (s : Sh) : R7.map s.at = s.lst := by
  rw [← map7 s.len]
  exact (List.map_congr_left fun r h => (s.at_eq h).symm)
/-! ### hops -/
inductive Hop
  | pl (k : Int)
  | co (w : Int)
  | la (w : Int)
def Hop.d : Hop → D
  | .pl k => .tup [.str "plus", .int k]
  | .co w => .tup [.str "coming", .int w]
  | .la w => .tup [.str "last", .int w]
def Hop.fit : Hop → Prop
  | .pl k => -30 ≤ k ∧ k ≤ 30
  | .co w => 0 ≤ w ∧ w ≤ 6
  | .la w => 0 ≤ w ∧ w ≤ 6
def Sh.hop : Sh → Hop → Sh
  | .ev j, .pl k => .ev (j + k)
  | .sw w m, .pl k => .sw ((w + k) % 7) (m + k)
  | .ev j, .co w => .sw w j
  | .sw v m, .co w => .sw w (m + ((w - v - 1) % 7 + 1))
  | .ev j, .la w => .sw w (j - 8)
  | .sw v m, .la w => .sw w (m - ((v - w - 1) % 7 + 1))
/-- what a hop makes of one day -/
def Hop.on : Hop → Int → Int
  | .pl k, d => d + k
  | .co w, d => d + ((w - d - 1) % 7 + 1)
  | .la w, d => d - ((d - w - 1) % 7 + 1)
theorem hop_at {s : Sh} {h : Hop} {B : Int} (hs : s.fit B) (hh : match h with | .pl _ => True | h => h.fit) (r : Int) : h.on (r + s.at r) - r = (s.hop h).at r := by
  cases s with
  | ev k =>
    cases h with
    | pl j => simp only [Hop.on, Sh.hop, Sh.at]; omega
    | co w => obtain ⟨a, b⟩ := hh; simp only [Hop.on, Sh.hop, Sh.at, sawAt]; omega
    | la w => obtain ⟨a, b⟩ := hh; simp only [Hop.on, Sh.hop, Sh.at, sawAt]; omega
  | sw v m =>
    obtain ⟨c, d, _, _⟩ := hs
    cases h with
    | pl j => simp only [Hop.on, Sh.hop, Sh.at, sawAt]; omega
    | co w => obtain ⟨a, b⟩ := hh; simp only [Hop.on, Sh.hop, Sh.at, sawAt]; omega
    | la w => obtain ⟨a, b⟩ := hh; simp only [Hop.on, Sh.hop, Sh.at, sawAt]; omega
theorem hop_fit {s : Sh} {h : Hop} {B : Int} (hs : s.fit B) (hh : h.fit) : (s.hop h).fit (B + 30) := by
  cases s with
  | ev k =>
    obtain ⟨x, y⟩ := hs
    cases h with
    | pl j => obtain ⟨a, b⟩ := hh; exact ⟨by omega, by omega⟩
    | co w => obtain ⟨a, b⟩ := hh; exact ⟨a, b, by omega, by omega⟩
    | la w => obtain ⟨a, b⟩ := hh; exact ⟨a, b, by omega, by omega⟩
  | sw v m =>
    obtain ⟨c, d, x, y⟩ := hs
    cases h with
    | pl j => obtain ⟨a, b⟩ := hh; exact ⟨by omega, by omega, by omega, by omega⟩
    | co w => obtain ⟨a, b⟩ := hh; exact ⟨a, b, by omega, by omega⟩
    | la w => obtain ⟨a, b⟩ := hh; exact ⟨a, b, by omega, by omega⟩
/-! ### a number in hops -/
def stp (k : Int) : Int := if (if k < 30 then k else 30) > -30 then (if k < 30 then k else 30) else -30
def chops : Nat → Int → List Int
  | 0, _ => []
  | n + 1, k => if k = 0 then [] else stp k :: chops n (k - stp k)
def up (k : Int) : Int := ((if k < 0 then -k else k) + 29) / 30
theorem stp_lo (k : Int) : -30 ≤ stp k := by unfold stp; split <;> split <;> omega
theorem stp_hi (k : Int) : stp k ≤ 30 := by unfold stp; split <;> split <;> omega
theorem stp_up (k : Int) (h : k ≠ 0) : up (k - stp k) = up k - 1 := by
  unfold up stp
  repeat' split
  all_goals omega
theorem up0 (k : Int) : 0 ≤ up k := by unfold up; split <;> omega
theorem up_pos (k : Int) (h : k ≠ 0) : 1 ≤ up k := by unfold up; split <;> omega
theorem up_le (k n : Int) (h : -(30 * n) ≤ k) (h2 : k ≤ 30 * n) : up k ≤ n := by unfold up; split <;> omega
theorem chops_len : ∀ (n : Nat) (k : Int), up k ≤ n → ((chops n k).length : Int) = up k
  | 0, k, h => by have := up0 k; simp only [chops, List.length_nil]; omega
  | n + 1, k, h => by
    unfold chops
    by_cases hk : k = 0
    · subst hk; rfl
    · rw [if_neg hk, List.length_cons]
      have := stp_up k hk
      have := chops_len n (k - stp k) (by omega)
      omega
theorem chops_fit : ∀ (n : Nat) (k : Int), ∀ x ∈ chops n k, -30 ≤ x ∧ x ≤ 30
  | 0, k, x, h => by cases h
  | n + 1, k, x, h => by
    unfold chops at h
    split at h
    · cases h
    · rcases List.mem_cons.mp h with rfl | h
      · exact ⟨stp_lo k, stp_hi k⟩
      · exact chops_fit n _ x h
theorem chops_sum : ∀ (n : Nat) (k j : Int), up k ≤ n → ((chops n k).map Hop.pl).foldl Sh.hop (.ev j) = .ev (j + k)
  | 0, k, j, h => by
    have : k = 0 := by
      rcases Decidable.em (k = 0) with e | e
      · exact e
      · have := up_pos k e; omega
    subst this
    simp [chops]
  | n + 1, k, j, h => by
    unfold chops
    by_cases hk : k = 0
    · subst hk; simp
    · rw [if_neg hk]
      have := stp_up k hk
      show ((chops n (k - stp k)).map Hop.pl).foldl Sh.hop (.ev (j + stp k)) = _
      rw [chops_sum n _ _ (by omega)]
      exact congrArg Sh.ev (by omega)
/-- the fewest hops -/
def few : Sh → Int
  | .ev k => up k
  | .sw _ m => 1 + (if up (m + 8) < up m then up (m + 8) else up m)
/-- .. and some such hops -/
def least : Sh → List Hop
  | .ev k => (chops 200 k).map Hop.pl
  | .sw w m => if up m ≤ up (m + 8) then (chops 200 m).map Hop.pl ++ [.co w] else (chops 200 (m + 8)).map Hop.pl ++ [.la w]
theorem least_len {s : Sh} (h : s.fit 4000) : ((least s).length : Int) = few s := by
  cases s with
  | ev k =>
    obtain ⟨a, b⟩ := h
    unfold least few
    rw [List.length_map]
    exact chops_len 200 k (by have := up_le k 134 (by omega) (by omega); omega)
  | sw w m =>
    obtain ⟨_, _, a, b⟩ := h
    have h1 := chops_len 200 m (by have := up_le m 134 (by omega) (by omega); omega)
    have h2 := chops_len 200 (m + 8) (by have := up_le (m + 8) 134 (by omega) (by omega); omega)
    show (((if up m ≤ up (m + 8) then (chops 200 m).map Hop.pl ++ [.co w] else (chops 200 (m + 8)).map Hop.pl ++ [.la w]) : List Hop).length : Int) = 1 + (if up (m + 8) < up m then up (m + 8) else up m)
    split
    · rw [List.length_append, List.length_map, if_neg (by omega)]; simp only [List.length_cons, List.length_nil]; omega
    · rw [List.length_append, List.length_map, if_pos (by omega)]; simp only [List.length_cons, List.length_nil]; omega
theorem least_fit {s : Sh} (h : s.fit 4000) : ∀ x ∈ least s, x.fit := by
  cases s with
  | ev k =>
    intro x hx
    obtain ⟨y, hy, rfl⟩ := List.mem_map.mp hx
    exact chops_fit _ _ y hy
  | sw w m =>
    obtain ⟨a, b, _, _⟩ := h
    intro x hx
    have hx : x ∈ (if up m ≤ up (m + 8) then (chops 200 m).map Hop.pl ++ [.co w] else (chops 200 (m + 8)).map Hop.pl ++ [.la w]) := hx
    split at hx <;> rcases List.mem_append.mp hx with hx | hx
    · obtain ⟨y, hy, rfl⟩ := List.mem_map.mp hx
      exact chops_fit _ _ y hy
    · rw [List.mem_singleton] at hx; subst hx; exact ⟨a, b⟩
    · obtain ⟨y, hy, rfl⟩ := List.mem_map.mp hx
      exact chops_fit _ _ y hy
    · rw [List.mem_singleton] at hx; subst hx; exact ⟨a, b⟩
theorem least_sum {s : Sh} (h : s.fit 4000) : (least s).foldl Sh.hop (.ev 0) = s := by
  cases s with
  | ev k =>
    obtain ⟨a, b⟩ := h
    refine (chops_sum 200 k 0 (by have := up_le k 134 (by omega) (by omega); omega)).trans ?_
    exact congrArg Sh.ev (by omega)
  | sw w m =>
    obtain ⟨_, _, a, b⟩ := h
    have h1 := chops_sum 200 m 0 (by have := up_le m 134 (by omega) (by omega); omega)
    have h2 := chops_sum 200 (m + 8) 0 (by have := up_le (m + 8) 134 (by omega) (by omega); omega)
    show ((if up m ≤ up (m + 8) then (chops 200 m).map Hop.pl ++ [.co w] else (chops 200 (m + 8)).map Hop.pl ++ [.la w]) : List Hop).foldl Sh.hop (.ev 0) = .sw w m
    split
    · rw [List.foldl_append, h1]
      exact congrArg (Sh.sw w) (by omega)
    · rw [List.foldl_append, h2]
      exact congrArg (Sh.sw w) (by omega)
/-! ### rests alike -/
def alike (a b : List Int) : List Int := R7.filter fun r => at7 a r == at7 b r
def most : Sh → Sh → Int
  | .ev k, .ev j => if k = j then 7 else 0
  | .sw w m, .sw v n => if w = v then (let x := 7 - (if m - n < 0 then -(m - n) else m - n); if x > 0 then x else 0) else 0
  | .ev k, .sw _ m => if m < k ∧ k ≤ m + 7 then 1 else 0
  | .sw _ m, .ev k => if m < k ∧ k ≤ m + 7 then 1 else 0
theorem alike_sh (s t : Sh) : alike s.lst t.lst = R7.filter fun r => s.at r == t.at r := by
  unfold alike
  exact List.filter_congr fun r h => by rw [s.at_eq h, t.at_eq h]
theorem saw_u (w m r : Int) : sawAt w m r = m + (((w - m - 1) % 7 - r) % 7 + 1) := by unfold sawAt; omega
theorem cnt_es : ∀ u ∈ R7, ∀ x ∈ R7, (R7.filter fun r => x == (u - r) % 7).length = 1 := by decide
theorem cnt_ss : ∀ u ∈ R7, ∀ x ∈ R7, (R7.filter fun r => (u - r) % 7 + 1 == x + (((u - x) % 7 - r) % 7 + 1)).length = (7 - x).toNat := by decide
theorem in7 {r : Int} (h0 : 0 ≤ r) (h6 : r ≤ 6) : r ∈ R7 := by
  simp only [R7, List.mem_cons, List.not_mem_nil, or_false]
  omega
theorem alike_comm (a b : List Int) : alike a b = alike b a := by
  unfold alike
  exact List.filter_congr fun r h => by rw [Bool.beq_comm]
theorem none_len {p : Int → Bool} (h : ∀ r ∈ R7, p r = false) : (R7.filter p).length = 0 := by
  rw [List.filter_eq_nil_iff.mpr fun r hr => by rw [h r hr]; decide]
  rfl
theorem most_es (k w m : Int) : ((alike (Sh.ev k).lst (Sh.sw w m).lst).length : Int) = most (.ev k) (.sw w m) := by
  rw [alike_sh]
  show ((R7.filter fun r => k == sawAt w m r).length : Int) = if m < k ∧ k ≤ m + 7 then 1 else 0
  split
  · rename_i h
    have h2 := cnt_es ((w - m - 1) % 7) (in7 (by omega) (by omega)) (k - m - 1) (in7 (by omega) (by omega))
    rw [show (fun r => k == sawAt w m r) = fun r => k - m - 1 == ((w - m - 1) % 7 - r) % 7 from funext fun r => by rw [saw_u, Bool.eq_iff_iff, beq_iff_eq, beq_iff_eq]; omega, h2]
    rfl
  · rename_i h
    rw [none_len fun r hr => by have := sawAt_lo w m r; have := sawAt_hi w m r; exact beq_false_of_ne (by omega)]
    rfl
theorem most_ss0 (w m n : Int) (h : m ≤ n) : ((alike (saws w m) (saws w n)).length : Int) = if 7 - (n - m) > 0 then 7 - (n - m) else 0 := by
  rw [show saws w m = (Sh.sw w m).lst from rfl, show saws w n = (Sh.sw w n).lst from rfl, alike_sh]
  show ((R7.filter fun r => sawAt w m r == sawAt w n r).length : Int) = _
  split
  · rename_i h2
    have h3 := cnt_ss ((w - m - 1) % 7) (in7 (by omega) (by omega)) (n - m) (in7 (by omega) (by omega))
    rw [show (fun r => sawAt w m r == sawAt w n r) = fun r => ((w - m - 1) % 7 - r) % 7 + 1 == (n - m) + ((((w - m - 1) % 7 - (n - m)) % 7 - r) % 7 + 1) from funext fun r => by rw [saw_u, saw_u, Bool.eq_iff_iff, beq_iff_eq, beq_iff_eq]; omega, h3]
    omega
  · rename_i h2
    rw [none_len fun r hr => by have := sawAt_hi w m r; have := sawAt_lo w n r; exact beq_false_of_ne (by omega)]
    rfl
theorem alike_self (l : List Int) : (alike l l).length = 7 := by
  unfold alike
  rw [List.filter_eq_self.mpr fun r _ => beq_self_eq_true _]
  rfl
theorem most_ok {s t : Sh} {B C : Int} (hs : s.fit B) (ht : t.fit C) : ((alike s.lst t.lst).length : Int) = most s t := by
  cases s with
  | ev k =>
    cases t with
    | ev j =>
      rw [alike_sh]
      show ((R7.filter fun r => k == j).length : Int) = if k = j then 7 else 0
      split
      · rename_i h; subst h; rw [List.filter_eq_self.mpr fun r _ => beq_self_eq_true _]; rfl
      · rename_i h; rw [none_len fun r _ => beq_false_of_ne h]; rfl
    | sw w m => exact most_es k w m
  | sw w m =>
    cases t with
    | ev k => rw [alike_comm]; exact most_es k w m
    | sw v n =>
      obtain ⟨a, b, _, _⟩ := hs
      obtain ⟨c, d, _, _⟩ := ht
      by_cases e : w = v
      · subst e
        show ((alike (saws w m) (saws w n)).length : Int) = if w = w then (let x := 7 - (if m - n < 0 then -(m - n) else m - n); if x > 0 then x else 0) else 0
        rw [if_pos rfl]
        dsimp only
        by_cases h : m ≤ n
        · rw [most_ss0 w m n h]; repeat' split
          all_goals omega
        · rw [alike_comm, most_ss0 w n m (by omega)]; repeat' split
          all_goals omega
      · rw [alike_sh]
        show ((R7.filter fun r => sawAt w m r == sawAt v n r).length : Int) = if w = v then _ else 0
        rw [if_neg e, none_len fun r hr => beq_false_of_ne fun h => by
          have h1 := sawAt_mod w m r a b
          have h2 := sawAt_mod v n r c d
          rw [h] at h1
          omega]
        rfl
/-! ### one hop, two hops -/
theorem few1 {h : Hop} (hh : h.fit) : few ((Sh.ev 0).hop h) ≤ 1 := by
  cases h with
  | pl k => obtain ⟨a, b⟩ := hh; exact up_le _ 1 (by omega) (by omega)
  | co w => show 1 + (if up (0 + 8) < up 0 then up (0 + 8) else up 0) ≤ 1; decide
  | la w => show 1 + (if up (0 - 8 + 8) < up (0 - 8) then up (0 - 8 + 8) else up (0 - 8)) ≤ 1; decide
theorem few_sw (w m : Int) (h : (-30 ≤ m ∧ m ≤ 30) ∨ (-30 ≤ m + 8 ∧ m + 8 ≤ 30)) : few (.sw w m) ≤ 2 := by
  show 1 + (if up (m + 8) < up m then up (m + 8) else up m) ≤ 2
  rcases h with h | h
  · have := up_le m 1 (by omega) (by omega); split <;> omega
  · have := up_le (m + 8) 1 (by omega) (by omega); split <;> omega
theorem few2 {g h : Hop} (hg : g.fit) (hh : h.fit) : few (((Sh.ev 0).hop g).hop h) ≤ 2 := by
  cases g with
  | pl k =>
    obtain ⟨a, b⟩ := hg
    cases h with
    | pl j => obtain ⟨c, d⟩ := hh; exact up_le _ 2 (by omega) (by omega)
    | co w => exact few_sw _ _ (.inl ⟨by omega, by omega⟩)
    | la w => exact few_sw _ _ (.inr ⟨by omega, by omega⟩)
  | co w =>
    obtain ⟨a, b⟩ := hg
    cases h with
    | pl j => obtain ⟨c, d⟩ := hh; exact few_sw _ _ (.inl ⟨by omega, by omega⟩)
    | co v => obtain ⟨c, d⟩ := hh; exact few_sw _ _ (.inl ⟨by omega, by omega⟩)
    | la v => obtain ⟨c, d⟩ := hh; exact few_sw _ _ (.inl ⟨by omega, by omega⟩)
  | la w =>
    obtain ⟨a, b⟩ := hg
    cases h with
    | pl j => obtain ⟨c, d⟩ := hh; exact few_sw _ _ (.inr ⟨by omega, by omega⟩)
    | co v => obtain ⟨c, d⟩ := hh; exact few_sw _ _ (.inr ⟨by omega, by omega⟩)
    | la v => obtain ⟨c, d⟩ := hh; exact few_sw _ _ (.inl ⟨by omega, by omega⟩)
end Sv
set_option Elab.async false
set_option linter.all false
set_option maxRecDepth 100000
namespace L20
open PySem PySem.Spec L2 Rf
def FUEL : Nat := 1000000000
/-- which class stands under which -/
def subT (i j : Nat) : Option Bool := if i = 1 ∧ j = 1 then some true else if i = 1 ∧ j = 2 then some false else if i = 2 ∧ j = 1 then some false else if i = 2 ∧ j = 2 then some true else none
def xi_BadTerm (c : Nat) : Option Bool := if c = 1 then some false else if c = 2 then some false else none
def xi_TalkError (c : Nat) : Option Bool := if c = 1 then some true else if c = 2 then some true else none
abbrev g_MOST_PLUS : D := .int 30
/-- _law_hand(_law_script) -/
def b__law_hand : ENV → R Fl := sSeq (sAsg (dAdd (dB fLen (dCons (dVar 0) (dNil))) (dC (.int 17))) (gSet 1))
  (sSeq (sOwn (fLst (dNil)) 2)
  (sSeq (sFor (dItems (dVar 0)) (gSet 3) (sSeq (sAsg (dMod (dB fInt (dCons (dAdd (dMul (dVar 1) (dC (.int 1009))) (dB fInt (dCons (dVar 3) (dNil)))) (dNil))) (dC (.int 2147483629))) (gSet 1))
  (sApp 2 (dIf (dT (dCmp .ge (dVar 3) (dC (.int 0)))) (dB fInt (dCons (dVar 3) (dNil))) (dNeg (dB fInt (dCons (dVar 3) (dNil))))))))
  (sRetF (fLst (dCons (dVar 2) (dCons (dC (.int 0)) (dCons (dC (.int 0)) (dCons (dVar 1) (dNil)))))))))
def m__law_hand : List DV → FO := runF [] 4 b__law_hand
/-- even_sevens(k) -/
def b_even_sevens : ENV → R Fl := sRet (dOp vMulT (dTup (dCons (dVar 0) (dNil))) (dC (.int 7)))
def m_even_sevens : List DV → FO := runF [] 1 b_even_sevens
/-- _law_even(_law_k) -/
def b__law_even : ENV → R Fl := sRet (dTup (dCons (dVar 0) (dCons (dVar 0) (dCons (dVar 0) (dCons (dVar 0) (dCons (dVar 0) (dCons (dVar 0) (dCons (dVar 0) (dNil)))))))))
def m__law_even : List DV → FO := runF [] 1 b__law_even
/-- _law_coming(_law_day, _law_weekday) -/
def b__law_coming : ENV → R Fl := sSeq (sFor (dRng1 (dC (.int 7))) (gSet 2) (sSeq (sAsg (dAdd (dVar 0) (dC (.int 1))) (gSet 0))
  (sIf (dT (dCmp .eq (dMod (dB fInt (dCons (dVar 0) (dNil))) (dC (.int 7))) (dVar 1))) (sRet (dVar 0)) (sNil))))
  (sRet (dVar 0))
def m__law_coming : List DV → FO := runF [] 3 b__law_coming
/-- _law_last(_law_day, _law_weekday) -/
def b__law_last : ENV → R Fl := sSeq (sFor (dRng1 (dC (.int 7))) (gSet 2) (sSeq (sAsg (dSub (dVar 0) (dC (.int 1))) (gSet 0))
  (sIf (dT (dCmp .eq (dMod (dB fInt (dCons (dVar 0) (dNil))) (dC (.int 7))) (dVar 1))) (sRet (dVar 0)) (sNil))))
  (sRet (dVar 0))
def m__law_last : List DV → FO := runF [] 3 b__law_last
/-- _law_counted(_law_day, _law_word) -/
def b__law_counted : ENV → R Fl := sSeq (sIf (dOr (dT (dCmp .eq (dIx (dVar 1) (dC (.int 0))) (dC (.str "coming")))) (dT (dCmp .eq (dIx (dVar 1) (dC (.int 0))) (dC (.str "then coming"))))) (sRet (dCall m__law_coming (aVal (dVar 0) (aVal (dIx (dVar 1) (dC (.int 1))) (aNil))))) (sNil))
  (sSeq (sIf (dOr (dT (dCmp .eq (dIx (dVar 1) (dC (.int 0))) (dC (.str "last")))) (dT (dCmp .eq (dIx (dVar 1) (dC (.int 0))) (dC (.str "then last"))))) (sRet (dCall m__law_last (aVal (dVar 0) (aVal (dIx (dVar 1) (dC (.int 1))) (aNil))))) (sNil))
  (sRet (dIf (dT (dCmp .eq (dIx (dVar 1) (dC (.int 0))) (dC (.str "date")))) (dIx (dVar 1) (dC (.int 1))) (dAdd (dVar 0) (dIx (dVar 1) (dC (.int 1)))))))
def m__law_counted : List DV → FO := runF [] 2 b__law_counted
/-- _law_hopped(_law_offsets, _law_hop_here) -/
def b__law_hopped : ENV → R Fl := sSeq (sAsg (dIf (dT (dCmp .eq (dIx (dVar 1) (dC (.int 0))) (dC (.str "plus")))) (dTup (dCons (dC (.str "today")) (dCons (dIx (dVar 1) (dC (.int 1))) (dNil)))) (dVar 1)) (gSet 2))
  (sRet (dB fTuple (dCons ((fun ρ => frz ((fLc (dRng1 (dC (.int 7))) (gSet 3) (dYes) (dSub (dCall m__law_counted (aVal (dAdd (dVar 3) (dIx (dVar 0) (dVar 3))) (aVal (dVar 2) (aNil)))) (dVar 3)) [3]) ρ))) (dNil))))
def m__law_hopped : List DV → FO := runF [] 4 b__law_hopped
/-- days_ahead(w, day) -/
def b_days_ahead : ENV → R Fl := sRet (dAdd (dMod (dSub (dSub (dVar 0) (dVar 1)) (dC (.int 1))) (dC (.int 7))) (dC (.int 1)))
def m_days_ahead : List DV → FO := runF [] 2 b_days_ahead
/-- saw_sevens(w, m) -/
def b_saw_sevens : ENV → R Fl := sRet (dB fTuple (dCons ((fun ρ => frz ((fLc (dRng1 (dC (.int 7))) (gSet 2) (dYes) (dAdd (dVar 1) (dCall m_days_ahead (aVal (dVar 0) (aVal (dAdd (dVar 2) (dVar 1)) (aNil))))) [2]) ρ))) (dNil)))
def m_saw_sevens : List DV → FO := runF [] 3 b_saw_sevens
/-- is_whole(thing) -/
def b_is_whole : ENV → R Fl := sRet (dAndV (dIs (isTy "int") (dVar 0)) (dNotV (dIs (isTy "bool") (dVar 0))))
def m_is_whole : List DV → FO := runF [] 1 b_is_whole
/-- shape_of_sevens(sevens) -/
def b_shape_of_sevens : ENV → R Fl := sSeq (sIf (dOr (dNot (dTru (dIs (isTy "tuple") (dVar 0)))) (dT (dCmp .ne (dB fLen (dCons (dVar 0) (dNil))) (dC (.int 7))))) (sRaise ⟨1, []⟩) (sNil))
  (sSeq (sIf (dNot (dTru (dB fAll (dCons ((fun ρ => frz ((fLc (dItems (dVar 0)) (gSet 3) (dYes) (dCall m_is_whole (aVal (dVar 3) (aNil))) [3]) ρ))) (dNil))))) (sRaise ⟨1, []⟩) (sNil))
  (sSeq (sAsg (dB fMin (dCons (dVar 0) (dNil))) (gSet 1))
  (sSeq (sIf (dT (dCmp .eq (dVar 1) (dB fMax (dCons (dVar 0) (dNil))))) (sRet (dTup (dCons (dC (.str "even")) (dCons (dVar 1) (dNil))))) (sNil))
  (sSeq (sAsg (dMod (dIx (dVar 0) (dC (.int 0))) (dC (.int 7))) (gSet 2))
  (sSeq (sIf (dT (dCmp .ne (dCall m_saw_sevens (aVal (dVar 2) (aVal (dSub (dVar 1) (dC (.int 1))) (aNil)))) (dVar 0))) (sRaise ⟨1, []⟩) (sNil))
  (sRet (dTup (dCons (dC (.str "saw")) (dCons (dVar 2) (dCons (dSub (dVar 1) (dC (.int 1))) (dNil)))))))))))
def m_shape_of_sevens : List DV → FO := runF [] 4 b_shape_of_sevens
/-- days_back(w, day) -/
def b_days_back : ENV → R Fl := sRet (dAdd (dMod (dSub (dSub (dVar 1) (dVar 0)) (dC (.int 1))) (dC (.int 7))) (dC (.int 1)))
def m_days_back : List DV → FO := runF [] 2 b_days_back
/-- lead_by_one(sevens, hop) -/
def b_lead_by_one : ENV → R Fl := sSeq (sAsg (dVar 1) (gSeq 2 (gsCons (gSet 2) (gsCons (gSet 3) (gsNil)))))
  (sSeq (sIf (dT (dCmp .eq (dVar 2) (dC (.str "plus")))) (sRet (dB fTuple (dCons ((fun ρ => frz ((fLc (dItems (dVar 0)) (gSet 4) (dYes) (dAdd (dVar 4) (dVar 3)) [4]) ρ))) (dNil)))) (sNil))
  (sSeq (sIf (dT (dCmp .eq (dVar 2) (dC (.str "coming")))) (sRet (dB fTuple (dCons ((fun ρ => frz ((fLc (dEnumT (dVar 0)) (gSeq 2 (gsCons (gSet 5) (gsCons (gSet 4) (gsNil)))) (dYes) (dAdd (dVar 4) (dCall m_days_ahead (aVal (dVar 3) (aVal (dAdd (dVar 5) (dVar 4)) (aNil))))) [5, 4]) ρ))) (dNil)))) (sNil))
  (sRet (dB fTuple (dCons ((fun ρ => frz ((fLc (dEnumT (dVar 0)) (gSeq 2 (gsCons (gSet 5) (gsCons (gSet 4) (gsNil)))) (dYes) (dSub (dVar 4) (dCall m_days_back (aVal (dVar 3) (aVal (dAdd (dVar 5) (dVar 4)) (aNil))))) [5, 4]) ρ))) (dNil))))))
def m_lead_by_one : List DV → FO := runF [] 6 b_lead_by_one
/-- is_hop(thing) -/
def b_is_hop : ENV → R Fl := sSeq (sIf (dOr (dNot (dTru (dIs (isTy "tuple") (dVar 0)))) (dOr (dT (dCmp .ne (dB fLen (dCons (dVar 0) (dNil))) (dC (.int 2)))) (dNot (dTru (dCall m_is_whole (aVal (dIx (dVar 0) (dC (.int 1))) (aNil))))))) (sRet (dC (.bl false))) (sNil))
  (sSeq (sIf (dT (dCmp .eq (dIx (dVar 0) (dC (.int 0))) (dC (.str "plus")))) (sRet (dChain (CK.f .le) (CK.f .le) (dNeg (dC g_MOST_PLUS)) (dIx (dVar 0) (dC (.int 1))) (dC g_MOST_PLUS))) (sNil))
  (sRet (dAndV (dCmp .in_ (dIx (dVar 0) (dC (.int 0))) (dTup (dCons (dC (.str "coming")) (dCons (dC (.str "last")) (dNil))))) (dChain (CK.f .le) (CK.f .le) (dC (.int 0)) (dIx (dVar 0) (dC (.int 1))) (dC (.int 6))))))
def m_is_hop : List DV → FO := runF [] 1 b_is_hop
/-- lead_sevens(sevens, hop) -/
def b_lead_sevens : ENV → R Fl := sSeq (sExpr (dCall m_shape_of_sevens (aVal (dVar 0) (aNil))))
  (sSeq (sIf (dNot (dTru (dCall m_is_hop (aVal (dVar 1) (aNil))))) (sRaiseF 2 ["index"] (dCons (dC (.int 0)) (dNil))) (sNil))
  (sRet (dCall m_lead_by_one (aVal (dVar 0) (aVal (dVar 1) (aNil))))))
def m_lead_sevens : List DV → FO := runF [] 2 b_lead_sevens
/-- _law_whole(_law_thing) -/
def b__law_whole : ENV → R Fl := sRet (dAndV (dIs (isTy "int") (dVar 0)) (dNotV (dIs (isTy "bool") (dVar 0))))
def m__law_whole : List DV → FO := runF [] 1 b__law_whole
/-- _law_saw(_law_weekday, _law_m) -/
def b__law_saw : ENV → R Fl := sRet (dB fTuple (dCons ((fun ρ => frz ((fLc (dRng1 (dC (.int 7))) (gSet 2) (dYes) (dSub (dCall m__law_coming (aVal (dAdd (dVar 2) (dVar 1)) (aVal (dVar 0) (aNil)))) (dVar 2)) [2]) ρ))) (dNil)))
def m__law_saw : List DV → FO := runF [] 3 b__law_saw
/-- _law_shape(_law_offsets) -/
def b__law_shape : ENV → R Fl := sSeq (sIf (dOr (dNot (dTru (dIs (isTy "tuple") (dVar 0)))) (dT (dCmp .ne (dB fLen (dCons (dVar 0) (dNil))) (dC (.int 7))))) (sRet (dC .non)) (sNil))
  (sSeq (sFor (dItems (dVar 0)) (gSet 1) (sIf (dNot (dTru (dCall m__law_whole (aVal (dVar 1) (aNil))))) (sRet (dC .non)) (sNil)))
  (sSeq (sIf (dT (dCmp .eq (dVar 0) (dCall m__law_even (aVal (dIx (dVar 0) (dC (.int 0))) (aNil))))) (sRet (dTup (dCons (dC (.str "even")) (dCons (dIx (dVar 0) (dC (.int 0))) (dNil))))) (sNil))
  (sSeq (sAsg (dMod (dB fInt (dCons (dIx (dVar 0) (dC (.int 0))) (dNil))) (dC (.int 7))) (gSet 2))
  (sSeq (sAsg (dSub (dB fMin (dCons (dVar 0) (dNil))) (dC (.int 1))) (gSet 3))
  (sRet (dIf (dT (dCmp .eq (dCall m__law_saw (aVal (dVar 2) (aVal (dVar 3) (aNil)))) (dVar 0))) (dTup (dCons (dC (.str "saw")) (dCons (dVar 2) (dCons (dVar 3) (dNil))))) (dC .non)))))))
def m__law_shape : List DV → FO := runF [] 4 b__law_shape
/-- _law_asked(_law_offsets) -/
def b__law_asked : ENV → R Fl := sTryAs subT (sRet (dCall m_shape_of_sevens (aVal (dVar 0) (aNil)))) 1 1 (fun ex_ => sRet (dIf (dAnd (dTru (dXi xi_TalkError ex_)) (dNot (dTru (dXi xi_BadTerm ex_)))) (dC (.str "refused")) (dC (.str "otherwise"))))
def m__law_asked : List DV → FO := runF [] 2 b__law_asked
/-- _law_made_by(_law_shape_here) -/
def b__law_made_by : ENV → R Fl := sRet (dIf (dT (dCmp .eq (dIx (dVar 0) (dC (.int 0))) (dC (.str "even")))) (dCall m_even_sevens (aVal (dIx (dVar 0) (dC (.int 1))) (aNil))) (dCall m_saw_sevens (aVal (dIx (dVar 0) (dC (.int 1))) (aVal (dIx (dVar 0) (dC (.int 2))) (aNil)))))
def m__law_made_by : List DV → FO := runF [] 1 b__law_made_by
/-- _law_same_shape(_law_offsets) -/
def b__law_same_shape : ENV → R Fl := sSeq (sAsg (dCall m__law_shape (aVal (dVar 0) (aNil))) (gSet 1))
  (sSeq (sAsg (dCall m__law_asked (aVal (dVar 0) (aNil))) (gSet 2))
  (sSeq (sIf (dT (dCmp .isN (dVar 1) (dC .non))) (sRet (dCmp .eq (dVar 2) (dC (.str "refused")))) (sNil))
  (sSeq (sIf (dOr (dNot (dTru (dIs (isTy "tuple") (dVar 2)))) (dT (dCmp .ne (dVar 2) (dVar 1)))) (sRet (dC (.bl false))) (sNil))
  (sRet (dAndV (dCmp .eq ((fun ρ => frz ((fLc (dItems (dSl (dVar 2) (dPart (dC (.int 1))) (dNoPart))) (gSet 3) (dNot (dTru (dCall m__law_whole (aVal (dVar 3) (aNil))))) (dVar 3) [3]) ρ))) (dLst (dNil))) (dCmp .eq (dCall m__law_made_by (aVal (dVar 1) (aNil))) (dVar 0)))))))
def m__law_same_shape : List DV → FO := runF [] 4 b__law_same_shape
/-- _law_walked(_law_hand_here, _law_hops) -/
def b__law_walked : ENV → R Fl := sSeq (sAsg (dCall m_even_sevens (aVal (dC (.int 0)) (aNil))) (gSet 2))
  (sSeq (sAsg (dCall m__law_even (aVal (dC (.int 0)) (aNil))) (gSet 3))
  (sSeq (sFor (dItems (dVar 1)) (gSet 4) (sSeq (sAsg (dCall m__law_hopped (aVal (dVar 3) (aVal (dVar 4) (aNil)))) (gSet 3))
  (sSeq (sAsg (dCall m_lead_sevens (aVal (dVar 2) (aVal (dVar 4) (aNil)))) (gSet 2))
  (sIf (dOr (dT (dCmp .ne (dVar 2) (dVar 3))) (dOr (dNot (dTru (dIs (isTy "tuple") (dVar 2)))) (dNot (dTru (dCall m__law_same_shape (aVal (dVar 2) (aNil))))))) (sRet (dC .non)) (sNil)))))
  (sRet (dVar 2))))
def m__law_walked : List DV → FO := runF [0] 5 b__law_walked
/-- _law_mixed(_law_number, _law_turn) -/
def b__law_mixed : ENV → R Fl := sSeq (sAsg (dMod (dB fInt (dCons (dAdd (dAdd (dMul (dVar 0) (dC (.int 48271))) (dMul (dVar 1) (dC (.int 7919)))) (dC (.int 12345))) (dNil))) (dC (.int 2147483647))) (gSet 2))
  (sSeq (sAsg (dMod (dB fInt (dCons (dAdd (dAdd (dMul (dVar 2) (dVar 2)) (dMul (dVar 1) (dC (.int 104729)))) (dDiv (dVar 2) (dC (.int 127)))) (dNil))) (dC (.int 2147483629))) (gSet 3))
  (sRet (dDiv (dB fInt (dCons (dMod (dB fInt (dCons (dAdd (dMul (dVar 3) (dC (.int 69621))) (dDiv (dVar 2) (dC (.int 3)))) (dNil))) (dC (.int 2147483587))) (dNil))) (dC (.int 8)))))
def m__law_mixed : List DV → FO := runF [] 4 b__law_mixed
/-- _law_take(_law_hand_here, _law_many) -/
def b__law_take : ENV → R Fl := sSeq (sIf (dAnd (dT (dCmp .eq (dIxO 0 (dC (.int 2))) (dC (.int 0)))) (dT (dCmp .lt (dIxO 0 (dC (.int 1))) (dB fLen (dCons (dIxO 0 (dC (.int 0))) (dNil)))))) (sSeq (sAsg (dIx (dIxO 0 (dC (.int 0))) (dIxO 0 (dC (.int 1)))) (gSet 2))
  (sSeq (sSub 0 (dAdd (dIxO 0 (dC (.int 1))) (dC (.int 1))) (dC (.int 1)))
  (sSeq (sIf (dT (dCmp .lt (dVar 2) (dPow (dC (.int 10)) (dC (.int 18))))) (sRet (dMod (dB fInt (dCons (dCall m__law_mixed (aVal (dMod (dB fInt (dCons (dVar 2) (dNil))) (dC (.int 2147483647))) (aVal (dIxO 0 (dC (.int 1))) (aNil)))) (dNil))) (dVar 1))) (sNil))
  (sSub 0 (dVar 2) (dC (.int 2)))))) (sNil))
  (sSeq (sIf (dT (dCmp .gt (dIxO 0 (dC (.int 2))) (dC (.int 0)))) (sSeq (sAsg (dIxO 0 (dC (.int 2))) (gSet 3))
  (sSeq (sSub 0 (dDiv (dB fInt (dCons (dVar 3) (dNil))) (dVar 1)) (dC (.int 2)))
  (sRet (dMod (dB fInt (dCons (dVar 3) (dNil))) (dVar 1))))) (sNil))
  (sSeq (sSub 0 (dMod (dB fInt (dCons (dAdd (dIxO 0 (dC (.int 3))) (dC (.int 1))) (dNil))) (dC (.int 2147483629))) (dC (.int 3)))
  (sRet (dMod (dB fInt (dCons (dCall m__law_mixed (aVal (dIxO 0 (dC (.int 3))) (aVal (dIxO 0 (dC (.int 1))) (aNil)))) (dNil))) (dVar 1)))))
def m__law_take : List DV → FO := runF [0] 4 b__law_take
/-- _law_far(_law_hand_here, _law_most) -/
def b__law_far : ENV → R Fl := sRet (dIf (dTru (dCall m__law_take (aIo 0 (aVal (dC (.int 2)) (aNil))))) (dSub (dCall m__law_take (aIo 0 (aVal (dAdd (dMul (dC (.int 2)) (dVar 1)) (dC (.int 1))) (aNil)))) (dVar 1)) (dSub (dCall m__law_take (aIo 0 (aVal (dC (.int 41)) (aNil)))) (dC (.int 20))))
def m__law_far : List DV → FO := runF [0] 2 b__law_far
/-- _law_sevens(_law_hand_here, _law_most) -/
def b__law_sevens : ENV → R Fl := sSeq (sIf (dT (dCmp .eq (dCall m__law_take (aIo 0 (aVal (dC (.int 3)) (aNil)))) (dC (.int 0)))) (sRet (dCall m__law_even (aVal (dCall m__law_far (aIo 0 (aVal (dVar 1) (aNil)))) (aNil)))) (sNil))
  (sRet (dCall m__law_saw (aVal (dCall m__law_take (aIo 0 (aVal (dC (.int 7)) (aNil)))) (aVal (dCall m__law_far (aIo 0 (aVal (dVar 1) (aNil)))) (aNil)))))
def m__law_sevens : List DV → FO := runF [0] 2 b__law_sevens
/-- _law_step(_law_hand_here) -/
def b__law_step : ENV → R Fl := sRet (dIf (dT (dCmp .eq (dCall m__law_take (aIo 0 (aVal (dC (.int 8)) (aNil)))) (dC (.int 0)))) (dSub (dCall m__law_take (aIo 0 (aVal (dC (.int 61)) (aNil)))) (dC (.int 30))) (dSub (dCall m__law_take (aIo 0 (aVal (dC (.int 7)) (aNil)))) (dC (.int 3))))
def m__law_step : List DV → FO := runF [0] 1 b__law_step
/-- _law_hop(_law_hand_here) -/
def b__law_hop : ENV → R Fl := sSeq (sAsg (dCall m__law_take (aIo 0 (aVal (dC (.int 4)) (aNil)))) (gSet 1))
  (sSeq (sIf (dT (dCmp .lt (dVar 1) (dC (.int 2)))) (sRet (dTup (dCons (dC (.str "plus")) (dCons (dCall m__law_step (aIo 0 (aNil))) (dNil))))) (sNil))
  (sRet (dTup (dCons (dIx (dLst (dCons (dC (.str "coming")) (dCons (dC (.str "last")) (dNil)))) (dSub (dVar 1) (dC (.int 2)))) (dCons (dCall m__law_take (aIo 0 (aVal (dC (.int 7)) (aNil)))) (dNil))))))
def m__law_hop : List DV → FO := runF [0] 2 b__law_hop
/-- _law_pick(_law_hand_here, _law_things) -/
def b__law_pick : ENV → R Fl := sRet (dIx (dVar 1) (dCall m__law_take (aIo 0 (aVal (dB fLen (dCons (dVar 1) (dNil))) (aNil)))))
def m__law_pick : List DV → FO := runF [0] 2 b__law_pick
/-- _law_spoilt(_law_hand_here, _law_offsets) -/
def b__law_spoilt : ENV → R Fl := sSeq (sAsg (dCall m__law_take (aIo 0 (aVal (dC (.int 7)) (aNil)))) (gSet 2))
  (sSeq (sAsg (dCall m__law_take (aIo 0 (aVal (dC (.int 6)) (aNil)))) (gSet 3))
  (sSeq (sIf (dT (dCmp .eq (dVar 3) (dC (.int 0)))) (sRet (dB fList (dCons (dVar 1) (dNil)))) (sNil))
  (sSeq (sIf (dT (dCmp .eq (dVar 3) (dC (.int 1)))) (sRet (dSl (dVar 1) (dNoPart) (dPart (dVar 2)))) (sNil))
  (sSeq (sIf (dT (dCmp .eq (dVar 3) (dC (.int 2)))) (sRet (dAdd (dVar 1) (dTup (dCons (dIx (dVar 1) (dVar 2)) (dNil))))) (sNil))
  (sSeq (sIf (dT (dCmp .eq (dVar 3) (dC (.int 3)))) (sRet (dAdd (dAdd (dSl (dVar 1) (dNoPart) (dPart (dVar 2))) (dTup (dCons (dCall m__law_pick (aIo 0 (aVal (dLst (dCons (dC .non) (dCons (dC (.bl true)) (dCons (dC (.bl false)) (dCons (dC (.str "1")) (dCons (dTup (dCons (dC (.int 1)) (dNil))) (dNil))))))) (aNil)))) (dNil)))) (dSl (dVar 1) (dPart (dAdd (dVar 2) (dC (.int 1)))) (dNoPart)))) (sNil))
  (sSeq (sIf (dT (dCmp .eq (dVar 3) (dC (.int 4)))) (sRet (dAdd (dAdd (dSl (dVar 1) (dNoPart) (dPart (dVar 2))) (dTup (dCons (dAdd (dIx (dVar 1) (dVar 2)) (dCall m__law_pick (aIo 0 (aVal (dLst (dCons (dC (.int 1)) (dCons (dNeg (dC (.int 1))) (dCons (dC (.int 7)) (dCons (dNeg (dC (.int 7))) (dCons (dC (.int 14)) (dCons (dPow (dC (.int 10)) (dC (.int 15))) (dNil)))))))) (aNil))))) (dNil)))) (dSl (dVar 1) (dPart (dAdd (dVar 2) (dC (.int 1)))) (dNoPart)))) (sNil))
  (sRet (dCall m__law_pick (aIo 0 (aVal (dLst (dCons (dC .non) (dCons (dC (.int 7)) (dCons (dC (.str "abcdefg")) (dCons (dAdd (dSl (dVar 1) (dPart (dVar 2)) (dNoPart)) (dSl (dVar 1) (dNoPart) (dPart (dVar 2)))) (dCons (dUn revT (dVar 1)) (dNil))))))) (aNil)))))))))))
def m__law_spoilt : List DV → FO := runF [0] 4 b__law_spoilt
/-- _law_bad_hop(_law_hand_here) -/
def b__law_bad_hop : ENV → R Fl := sSeq (sAsg (dCall m__law_take (aIo 0 (aVal (dPow (dC (.int 10)) (dC (.int 6))) (aNil)))) (gSet 1))
  (sRet (dCall m__law_pick (aIo 0 (aVal (dLst (dCons (dTup (dCons (dC (.str "plus")) (dCons (dAdd (dC (.int 31)) (dVar 1)) (dNil)))) (dCons (dTup (dCons (dC (.str "plus")) (dCons (dSub (dNeg (dC (.int 31))) (dVar 1)) (dNil)))) (dCons (dTup (dCons (dC (.str "plus")) (dCons (dC (.bl true)) (dNil)))) (dCons (dTup (dCons (dC (.str "plus")) (dCons (dC .non) (dNil)))) (dCons (dTup (dCons (dC (.str "coming")) (dCons (dAdd (dC (.int 7)) (dVar 1)) (dNil)))) (dCons (dTup (dCons (dC (.str "coming")) (dCons (dSub (dNeg (dC (.int 1))) (dVar 1)) (dNil)))) (dCons (dTup (dCons (dC (.str "last")) (dCons (dC (.int 7)) (dNil)))) (dCons (dTup (dCons (dC (.str "last")) (dCons (dC (.bl true)) (dNil)))) (dCons (dTup (dCons (dC (.str "then")) (dCons (dC (.int 3)) (dNil)))) (dCons (dTup (dCons (dC (.str "plus")) (dNil))) (dCons (dTup (dCons (dC (.str "plus")) (dCons (dC (.int 1)) (dCons (dC (.int 1)) (dNil))))) (dCons (dLst (dCons (dC (.str "plus")) (dCons (dC (.int 1)) (dNil)))) (dCons (dC (.str "plus")) (dCons (dC .non) (dCons (dTup (dNil)) (dCons (dTup (dCons (dC (.int 3)) (dCons (dC (.str "plus")) (dNil)))) (dNil)))))))))))))))))) (aNil)))))
def m__law_bad_hop : List DV → FO := runF [0] 2 b__law_bad_hop
/-- led_by(hops) -/
def b_led_by : ENV → R Fl := sSeq (sIf (dNot (dTru (dIs (or2 (isTy "list") (isTy "tuple")) (dVar 0)))) (sRaiseF 2 ["index"] (dCons (dC (.int 0)) (dNil))) (sNil))
  (sSeq (sFor (dEnumT (dVar 0)) (gSeq 2 (gsCons (gSet 1) (gsCons (gSet 2) (gsNil)))) (sIf (dNot (dTru (dCall m_is_hop (aVal (dVar 2) (aNil))))) (sRaiseF 2 ["index"] (dCons (dVar 1) (dNil))) (sNil)))
  (sSeq (sAsg (dCall m_even_sevens (aVal (dC (.int 0)) (aNil))) (gSet 3))
  (sSeq (sFor (dItems (dVar 0)) (gSet 2) (sAsg (dCall m_lead_by_one (aVal (dVar 3) (aVal (dVar 2) (aNil)))) (gSet 3)))
  (sRet (dVar 3)))))
def m_led_by : List DV → FO := runF [] 4 b_led_by
/-- _law_led_refused(_law_hops) -/
def b__law_led_refused : ENV → R Fl := sSeq (sTryAs subT (sExpr (dCall m_led_by (aVal (dVar 0) (aNil)))) 2 1 (fun ex_ => sRet (dXf (fun c => c == 2) "index" ex_)))
  (sRet (dNeg (dC (.int 1))))
def m__law_led_refused : List DV → FO := runF [] 2 b__law_led_refused
/-- _law_lead_refused(_law_offsets, _law_hop_here) -/
def b__law_lead_refused : ENV → R Fl := sSeq (sTryM subT (sExpr (dCall m_lead_sevens (aVal (dVar 0) (aVal (dVar 1) (aNil))))) [(1, none, fun _ => sRet (dC (.str "sevens"))), (2, some 2, fun ex_ => sRet (dIf (dAnd (dT (dCmp .eq (dXf (fun c => c == 2) "index" ex_) (dC (.int 0)))) (dTru (dCall m__law_whole (aVal (dXf (fun c => c == 2) "index" ex_) (aNil))))) (dC (.str "hop")) (dC (.str "index"))))])
  (sRet (dC (.str "let")))
def m__law_lead_refused : List DV → FO := runF [] 3 b__law_lead_refused
/-- law(_law_script) -/
def b_law : ENV → R Fl := sSeq (sOwn (fCall m__law_hand (aVal (dVar 0) (aNil))) 1)
  (sSeq (sFor (dRng1 (dC (.int 3))) (gSet 2) (sSeq (sAsg (fun ρ => frz ((fLc (dRng1 (dCall m__law_take (aIo 1 (aVal (dC (.int 9)) (aNil))))) (gSet 12) (dYes) (dCall m__law_hop (aIo 1 (aNil))) [12]) ρ)) (gSet 3))
  (sSeq (sAsg (dCall m__law_walked (aIo 1 (aVal (dVar 3) (aNil)))) (gSet 4))
  (sSeq (sAsg (dB fList (dCons (dVar 3) (dNil))) (gSet 5))
  (sSeq (sAsg (dIf (dT (dCmp .eq (dVar 2) (dC (.int 1)))) (dVar 3) (dB fTuple (dCons (dVar 3) (dNil)))) (gSet 6))
  (sSeq (sIf (dOr (dT (dCmp .isN (dVar 4) (dC .non))) (dOr (dT (dCmp .ne (dCall m_led_by (aVal (dVar 6) (aNil))) (dVar 4))) (dT (dCmp .ne (dB fList (dCons (dVar 6) (dNil))) (dVar 5))))) (sRet (dC (.bl false))) (sNil))
  (sSeq (sAsg (dCall m__law_sevens (aIo 1 (aVal (dPow (dC (.int 10)) (dC (.int 12))) (aNil)))) (gSet 7))
  (sSeq (sAsg (dCall m__law_hop (aIo 1 (aNil))) (gSet 8))
  (sSeq (sIf (dOr (dNot (dTru (dCall m__law_same_shape (aVal (dVar 7) (aNil))))) (dT (dCmp .ne (dCall m_lead_sevens (aVal (dVar 7) (aVal (dVar 8) (aNil)))) (dCall m__law_hopped (aVal (dVar 7) (aVal (dVar 8) (aNil))))))) (sRet (dC (.bl false))) (sNil))
  (sSeq (sAsg (dCall m__law_spoilt (aIo 1 (aVal (dVar 7) (aNil)))) (gSet 9))
  (sSeq (sAsg (dCall m__law_bad_hop (aIo 1 (aNil))) (gSet 10))
  (sSeq (sIf (dNot (dTru (dCall m__law_same_shape (aVal (dVar 9) (aNil))))) (sRet (dC (.bl false))) (sNil))
  (sSeq (sIf (dAnd (dT (dCmp .isN (dCall m__law_shape (aVal (dVar 9) (aNil))) (dC .non))) (dT (dCmp .ne (dCall m__law_lead_refused (aVal (dVar 9) (aVal (dCall m__law_pick (aIo 1 (aVal (dLst (dCons (dVar 8) (dCons (dVar 10) (dNil)))) (aNil)))) (aNil)))) (dC (.str "sevens"))))) (sRet (dC (.bl false))) (sNil))
  (sSeq (sIf (dT (dCmp .ne (dCall m__law_lead_refused (aVal (dVar 7) (aVal (dVar 10) (aNil)))) (dC (.str "hop")))) (sRet (dC (.bl false))) (sNil))
  (sSeq (sAsg (dCall m__law_take (aIo 1 (aVal (dAdd (dB fLen (dCons (dVar 3) (dNil))) (dC (.int 1))) (aNil)))) (gSet 11))
  (sIf (dT (dCmp .ne (dCall m__law_led_refused (aVal (dAdd (dAdd (dAdd (dSl (dVar 3) (dNoPart) (dPart (dVar 11))) (dLst (dCons (dVar 10) (dNil)))) (dSl (dVar 3) (dPart (dVar 11)) (dNoPart))) (dLst (dCons (dVar 10) (dNil)))) (aNil))) (dVar 11))) (sRet (dC (.bl false))) (sNil)))))))))))))))))
  (sRet (dCmp .eq (dCall m__law_led_refused (aVal (dCall m__law_pick (aIo 1 (aVal (dLst (dCons (dC .non) (dCons (dC (.int 5)) (dCons (dC (.str "plus")) (dNil))))) (aNil)))) (aNil))) (dC (.int 0)))))
def m_law : List DV → FO := runF [] 13 b_law
end L20
set_option Elab.async false
set_option linter.all false
set_option maxRecDepth 100000
namespace L20
open PySem L2 Rf
/-! ### the hand -/
def hnd (cs : List Int) (a b t : Int) : M := .lst [.lst (cs.map D.int), .int a, .int b, .int t]
structure HandOk (cs : List Int) (a b t : Int) : Prop where
  len : cs.length ≤ 63
  pos : ∀ c ∈ cs, 0 ≤ c
  a0 : 0 ≤ a
  al : a ≤ cs.length
  b0 : 0 ≤ b
  t0 : 0 ≤ t
  tl : t < 2147483629
def Good (m : M) : Prop := ∃ cs a b t, m = hnd cs a b t ∧ HandOk cs a b t
def mixN (n t : Int) : Int :=
  let once := (n * 48271 + t * 7919 + 12345) % 2147483647
  let twice := (once * once + t * 104729 + once / 127) % 2147483629
  ((twice * 69621 + once / 3) % 2147483587) / 8
theorem cMul_r {i j : Int} (h : j.natAbs < 2 ^ 64) : cMul i j = true := by unfold cMul; simp only [h, decide_true, Bool.or_true, Bool.true_or]
theorem cMul_l {i j : Int} (h : i.natAbs < 2 ^ 64) : cMul i j = true := by unfold cMul; simp only [h, decide_true, Bool.or_true, Bool.true_or]
theorem cMod_p {i j : Int} (h : 0 < j) : cMod i j = true := by unfold cMod; exact decide_eq_true h
theorem cDiv_p {i j : Int} (h : 0 < j) (h9 : j.natAbs.log2 < 9000) : cDiv i j = true := by unfold cDiv; simp only [h, h9, decide_true, Bool.and_self]
theorem mixed_eq (n t : Int) : m__law_mixed [.sh (.int n), .sh (.int t)] = .ok (.sh (.int (mixN n t))) [] := by
  have h0 := Int.emod_nonneg (n * 48271 + t * 7919 + 12345) (show (2147483647 : Int) ≠ 0 by decide)
  have h1 := Int.emod_lt_of_pos (n * 48271 + t * 7919 + 12345) (show (0 : Int) < 2147483647 by decide)
  have c1 : ∀ i : Int, cMul i 48271 = true := fun i => cMul_r (by decide)
  have c2 : ∀ i : Int, cMul i 7919 = true := fun i => cMul_r (by decide)
  have c3 : ∀ i : Int, cMul i 104729 = true := fun i => cMul_r (by decide)
  have c4 : ∀ i : Int, cMul i 69621 = true := fun i => cMul_r (by decide)
  have c5 : cMul ((n * 48271 + t * 7919 + 12345) % 2147483647) ((n * 48271 + t * 7919 + 12345) % 2147483647) = true := cMul_r (by omega)
  have m1 : ∀ i : Int, cMod i 2147483647 = true := fun i => rfl
  have m2 : ∀ i : Int, cMod i 2147483629 = true := fun i => rfl
  have m3 : ∀ i : Int, cMod i 2147483587 = true := fun i => rfl
  have v1 : ∀ i : Int, cDiv i 127 = true := fun i => cDiv_p (by decide) (by decide)
  have v2 : ∀ i : Int, cDiv i 3 = true := fun i => cDiv_p (by decide) (by decide)
  have v3 : ∀ i : Int, cDiv i 8 = true := fun i => cDiv_p (by decide) (by decide)
  unfold m__law_mixed
  refine (e_run [] 4 _ _ rfl).trans ?_
  unfold b__law_mixed
  simp only [startE, List.map, List.length, List.replicate, e_Seq, e_Asg, e_Ret, e_RetF, e_Expr, e_exprK, e_op, e_op2, e_op1, e_un, e_is, e_B, e_bK, e_Cons, e_consK, e_consK2, e_Nil, e_var, e_C, e_bind, e_bindX, e_bindB, e_lookS, e_lookO, M.toD, e_of, e_asgK, e_gSet, e_stK, e_sqN, e_sqR, e_sqB, e_sqC, e_sNil, e_retK, e_retFK, e_add, e_vI, e_neg, e_fInt, e_fIntB, e_sIf, e_sifT, e_sifF, e_T, e_toB, e_Tru, e_truB, e_And, e_Or, e_andT, e_andF, e_orT, e_orF, e_Not, e_notK, e_AndV, e_OrV, e_andVT, e_andVF, e_orVT, e_orVF, e_NotV, e_notVK, e_If, e_ifT, e_ifF, e_Tup, e_Lst, e_LstF, e_tup0, e_lst0, e_lstF0, e_eqI, e_neI, e_ltI, e_leI, e_gtI, e_geI, e_lenL, e_lenT, e_lenR, e_lenS, e_ixL, e_ixT, at0, at1, at2, at3, e_tupL, e_tupT, e_lstT, e_Own, e_ownK, e_Sub, e_For, e_Items, e_itL, e_itT, e_itR, e_Call, e_CallF, e_aNil, e_aVal, e_aVK, e_aVK2, step0, step1, step2, step3, out0, out1, out2, out3, outX1, outX2, outO1, outO2, outO3, e_onSh, e_onOw, decide_true, decide_false, Bool.not_true, Bool.not_false, List.cons_append, List.nil_append, List.getElem?_cons_zero, List.getElem?_cons_succ, List.set_cons_zero, List.set_cons_succ, Nat.reduceLT, Nat.reduceAdd, Nat.reduceSub, Option.map_some, finF, outsE, e_frz, d_rng7, e_forK, e_tnN, e_tnC, e_tnB, e_tnR, e_whT, e_whF, e_Raise, e_Par, e_parK, e_parK2, e_augK, e_Ch, e_chK1, e_chK2, e_chT, e_chF, e_Try, e_tryO, e_tru, e_While, e_abs, e_max2, e_min2, e_gSq2, e_tup1, e_lst1, e_tup2, e_lst2, e_tup3, e_lst3, e_tup4, e_lst4, e_tup5, e_lst5, e_tup6, e_lst6, e_tup7, e_lst7, e_tup8, e_lst8, e_vIc, c1, c2, c3, c4, c5, m1, m2, m3, v1, v2, v3, mixN]
/-- which way a number is taken -/
theorem take_ok {m : M} {n : Int} (hm : Good m) (hn : 0 < n) (h9 : n.natAbs.log2 < 9000) : ∃ r m', m__law_take [.ow m, .sh (.int n)] = .ok (.sh (.int r)) [m'] ∧ Good m' ∧ 0 ≤ r ∧ r < n := by
  obtain ⟨cs, a, b, t, rfl, H⟩ := hm
  have hmod : ∀ x : Int, 0 ≤ x % n ∧ x % n < n := fun x => ⟨Int.emod_nonneg x (by omega), Int.emod_lt_of_pos x hn⟩
  have c1 : ∀ i : Int, cMod i n = true := fun i => cMod_p hn
  have c2 : ∀ i : Int, cDiv i n = true := fun i => cDiv_p hn h9
  have m1 : ∀ i : Int, cMod i 2147483647 = true := fun i => rfl
  have m2 : ∀ i : Int, cMod i 2147483629 = true := fun i => rfl
  have p1 : cPow 10 18 = true := by decide
  have hb0 := H.b0
  by_cases hb : b = 0
  · subst hb
    by_cases ha : a < (cs.length : Int)
    · have hal : a.toNat < cs.length := by have := H.a0; omega
      have hc : L2.atI (cs.map D.int) a = some (.int (cs[a.toNat])) := atN H.a0 (by rw [List.getElem?_map, List.getElem?_eq_getElem hal]; rfl)
      have hcp : 0 ≤ cs[a.toNat] := H.pos _ (List.getElem_mem hal)
      generalize hcv : cs[a.toNat] = c at hc hcp
      have hae : a < ((cs.map D.int).length : Int) := by rw [List.length_map]; exact ha
      have H1 : HandOk cs (a + 1) 0 t := ⟨H.len, H.pos, by have := H.a0; omega, by omega, by omega, H.t0, H.tl⟩
      by_cases h18 : c < 10 ^ 18
      · refine ⟨mixN (c % 2147483647) (a + 1) % n, hnd cs (a + 1) 0 t, ?_, ⟨cs, a + 1, 0, t, rfl, H1⟩, (hmod _).1, (hmod _).2⟩
        unfold m__law_take
        refine (e_run [0] 4 _ _ rfl).trans ?_
        unfold b__law_take
        simp only [startE, List.map, List.length, List.replicate, e_Seq, e_Asg, e_Ret, e_RetF, e_Expr, e_exprK, e_op, e_op2, e_op1, e_un, e_is, e_B, e_bK, e_Cons, e_consK, e_consK2, e_Nil, e_var, e_C, e_bind, e_bindX, e_bindB, e_lookS, e_lookO, M.toD, e_of, e_asgK, e_gSet, e_stK, e_sqN, e_sqR, e_sqB, e_sqC, e_sNil, e_retK, e_retFK, e_add, e_vI, e_neg, e_fInt, e_fIntB, e_sIf, e_sifT, e_sifF, e_T, e_toB, e_Tru, e_truB, e_And, e_Or, e_andT, e_andF, e_orT, e_orF, e_Not, e_notK, e_AndV, e_OrV, e_andVT, e_andVF, e_orVT, e_orVF, e_NotV, e_notVK, e_If, e_ifT, e_ifF, e_Tup, e_Lst, e_LstF, e_tup0, e_lst0, e_lstF0, e_eqI, e_neI, e_ltI, e_leI, e_gtI, e_geI, e_lenL, e_lenT, e_lenR, e_lenS, e_ixL, e_ixT, at0, at1, at2, at3, e_tupL, e_tupT, e_lstT, e_Own, e_ownK, e_Sub, e_For, e_Items, e_itL, e_itT, e_itR, e_Call, e_CallF, e_aNil, e_aVal, e_aVK, e_aVK2, step0, step1, step2, step3, out0, out1, out2, out3, outX1, outX2, outO1, outO2, outO3, e_onSh, e_onOw, decide_true, decide_false, Bool.not_true, Bool.not_false, List.cons_append, List.nil_append, List.getElem?_cons_zero, List.getElem?_cons_succ, List.set_cons_zero, List.set_cons_succ, Nat.reduceLT, Nat.reduceAdd, Nat.reduceSub, Option.map_some, finF, outsE, e_frz, d_rng7, e_forK, e_tnN, e_tnC, e_tnB, e_tnR, e_whT, e_whF, e_Raise, e_Par, e_parK, e_parK2, e_augK, e_Ch, e_chK1, e_chK2, e_chT, e_chF, e_Try, e_tryO, e_tru, e_While, e_abs, e_max2, e_min2, e_gSq2, e_tup1, e_lst1, e_tup2, e_lst2, e_tup3, e_lst3, e_tup4, e_lst4, e_tup5, e_lst5, e_tup6, e_lst6, e_tup7, e_lst7, e_tup8, e_lst8, hnd, e_ixO (ds := [D.lst (List.map D.int cs), D.int a, D.int 0, D.int t]), e_ixO2 (ds := [D.lst (List.map D.int cs), D.int a, D.int 0, D.int t]), beq_self_eq_true, hae, hc, e_vIc, p1, c1, c2, m1, m2, h18,
          e_subK (ds := [D.lst (List.map D.int cs), D.int a, D.int 0, D.int t]), e_ixO (ds := [D.lst (List.map D.int cs), D.int (a + 1), D.int 0, D.int t]), e_ixO2 (ds := [D.lst (List.map D.int cs), D.int (a + 1), D.int 0, D.int t]), mixed_eq, Int.reduceLE, Int.toNat_one, Int.reduceLT, Int.reduceToNat, Int.cast_ofNat_Int, List.length_cons, List.length_nil]
      · have hc0 : 0 < c := by omega
        have H2 : HandOk cs (a + 1) (c / n) t := ⟨H.len, H.pos, by have := H.a0; omega, by omega, Int.ediv_nonneg hcp (by omega), H.t0, H.tl⟩
        refine ⟨c % n, hnd cs (a + 1) (c / n) t, ?_, ⟨cs, a + 1, _, t, rfl, H2⟩, (hmod _).1, (hmod _).2⟩
        unfold m__law_take
        refine (e_run [0] 4 _ _ rfl).trans ?_
        unfold b__law_take
        simp only [startE, List.map, List.length, List.replicate, e_Seq, e_Asg, e_Ret, e_RetF, e_Expr, e_exprK, e_op, e_op2, e_op1, e_un, e_is, e_B, e_bK, e_Cons, e_consK, e_consK2, e_Nil, e_var, e_C, e_bind, e_bindX, e_bindB, e_lookS, e_lookO, M.toD, e_of, e_asgK, e_gSet, e_stK, e_sqN, e_sqR, e_sqB, e_sqC, e_sNil, e_retK, e_retFK, e_add, e_vI, e_neg, e_fInt, e_fIntB, e_sIf, e_sifT, e_sifF, e_T, e_toB, e_Tru, e_truB, e_And, e_Or, e_andT, e_andF, e_orT, e_orF, e_Not, e_notK, e_AndV, e_OrV, e_andVT, e_andVF, e_orVT, e_orVF, e_NotV, e_notVK, e_If, e_ifT, e_ifF, e_Tup, e_Lst, e_LstF, e_tup0, e_lst0, e_lstF0, e_eqI, e_neI, e_ltI, e_leI, e_gtI, e_geI, e_lenL, e_lenT, e_lenR, e_lenS, e_ixL, e_ixT, at0, at1, at2, at3, e_tupL, e_tupT, e_lstT, e_Own, e_ownK, e_Sub, e_For, e_Items, e_itL, e_itT, e_itR, e_Call, e_CallF, e_aNil, e_aVal, e_aVK, e_aVK2, step0, step1, step2, step3, out0, out1, out2, out3, outX1, outX2, outO1, outO2, outO3, e_onSh, e_onOw, decide_true, decide_false, Bool.not_true, Bool.not_false, List.cons_append, List.nil_append, List.getElem?_cons_zero, List.getElem?_cons_succ, List.set_cons_zero, List.set_cons_succ, Nat.reduceLT, Nat.reduceAdd, Nat.reduceSub, Option.map_some, finF, outsE, e_frz, d_rng7, e_forK, e_tnN, e_tnC, e_tnB, e_tnR, e_whT, e_whF, e_Raise, e_Par, e_parK, e_parK2, e_augK, e_Ch, e_chK1, e_chK2, e_chT, e_chF, e_Try, e_tryO, e_tru, e_While, e_abs, e_max2, e_min2, e_gSq2, e_tup1, e_lst1, e_tup2, e_lst2, e_tup3, e_lst3, e_tup4, e_lst4, e_tup5, e_lst5, e_tup6, e_lst6, e_tup7, e_lst7, e_tup8, e_lst8, hnd, e_ixO (ds := [D.lst (List.map D.int cs), D.int a, D.int 0, D.int t]), e_ixO2 (ds := [D.lst (List.map D.int cs), D.int a, D.int 0, D.int t]), beq_self_eq_true, hae, hc, e_vIc, p1, c1, c2, m1, m2, h18,
          e_subK (ds := [D.lst (List.map D.int cs), D.int a, D.int 0, D.int t]), e_ixO (ds := [D.lst (List.map D.int cs), D.int (a + 1), D.int 0, D.int t]), e_ixO2 (ds := [D.lst (List.map D.int cs), D.int (a + 1), D.int 0, D.int t]), mixed_eq, Int.reduceLE, Int.toNat_one, Int.reduceLT, Int.reduceToNat, Int.cast_ofNat_Int, List.length_cons, List.length_nil, hc0, e_ixO (ds := [D.lst (List.map D.int cs), D.int (a + 1), D.int c, D.int t]), e_ixO2 (ds := [D.lst (List.map D.int cs), D.int (a + 1), D.int c, D.int t]),
          e_subK (ds := [D.lst (List.map D.int cs), D.int (a + 1), D.int 0, D.int t]), e_subK (ds := [D.lst (List.map D.int cs), D.int (a + 1), D.int c, D.int t])]
    · have hae : ¬ a < ((cs.map D.int).length : Int) := by rw [List.length_map]; exact ha
      have z0 : ¬ ((0 : Int) < 0) := by decide
      have H3 : HandOk cs a 0 ((t + 1) % 2147483629) := ⟨H.len, H.pos, H.a0, H.al, by omega, Int.emod_nonneg _ (by decide), Int.emod_lt_of_pos _ (by decide)⟩
      refine ⟨mixN ((t + 1) % 2147483629) a % n, hnd cs a 0 ((t + 1) % 2147483629), ?_, ⟨cs, a, 0, _, rfl, H3⟩, (hmod _).1, (hmod _).2⟩
      unfold m__law_take
      refine (e_run [0] 4 _ _ rfl).trans ?_
      unfold b__law_take
      simp only [startE, List.map, List.length, List.replicate, e_Seq, e_Asg, e_Ret, e_RetF, e_Expr, e_exprK, e_op, e_op2, e_op1, e_un, e_is, e_B, e_bK, e_Cons, e_consK, e_consK2, e_Nil, e_var, e_C, e_bind, e_bindX, e_bindB, e_lookS, e_lookO, M.toD, e_of, e_asgK, e_gSet, e_stK, e_sqN, e_sqR, e_sqB, e_sqC, e_sNil, e_retK, e_retFK, e_add, e_vI, e_neg, e_fInt, e_fIntB, e_sIf, e_sifT, e_sifF, e_T, e_toB, e_Tru, e_truB, e_And, e_Or, e_andT, e_andF, e_orT, e_orF, e_Not, e_notK, e_AndV, e_OrV, e_andVT, e_andVF, e_orVT, e_orVF, e_NotV, e_notVK, e_If, e_ifT, e_ifF, e_Tup, e_Lst, e_LstF, e_tup0, e_lst0, e_lstF0, e_eqI, e_neI, e_ltI, e_leI, e_gtI, e_geI, e_lenL, e_lenT, e_lenR, e_lenS, e_ixL, e_ixT, at0, at1, at2, at3, e_tupL, e_tupT, e_lstT, e_Own, e_ownK, e_Sub, e_For, e_Items, e_itL, e_itT, e_itR, e_Call, e_CallF, e_aNil, e_aVal, e_aVK, e_aVK2, step0, step1, step2, step3, out0, out1, out2, out3, outX1, outX2, outO1, outO2, outO3, e_onSh, e_onOw, decide_true, decide_false, Bool.not_true, Bool.not_false, List.cons_append, List.nil_append, List.getElem?_cons_zero, List.getElem?_cons_succ, List.set_cons_zero, List.set_cons_succ, Nat.reduceLT, Nat.reduceAdd, Nat.reduceSub, Option.map_some, finF, outsE, e_frz, d_rng7, e_forK, e_tnN, e_tnC, e_tnB, e_tnR, e_whT, e_whF, e_Raise, e_Par, e_parK, e_parK2, e_augK, e_Ch, e_chK1, e_chK2, e_chT, e_chF, e_Try, e_tryO, e_tru, e_While, e_abs, e_max2, e_min2, e_gSq2, e_tup1, e_lst1, e_tup2, e_lst2, e_tup3, e_lst3, e_tup4, e_lst4, e_tup5, e_lst5, e_tup6, e_lst6, e_tup7, e_lst7, e_tup8, e_lst8, hnd, e_ixO (ds := [D.lst (List.map D.int cs), D.int a, D.int 0, D.int t]), e_ixO2 (ds := [D.lst (List.map D.int cs), D.int a, D.int 0, D.int t]), beq_self_eq_true, hae, z0, e_vIc, c1, c2, m1, m2,
        e_subK (ds := [D.lst (List.map D.int cs), D.int a, D.int 0, D.int t]), e_ixO (ds := [D.lst (List.map D.int cs), D.int a, D.int 0, D.int ((t + 1) % 2147483629)]), e_ixO2 (ds := [D.lst (List.map D.int cs), D.int a, D.int 0, D.int ((t + 1) % 2147483629)]), mixed_eq, Int.reduceLE, Int.toNat_one, Int.reduceLT, Int.reduceToNat, Int.cast_ofNat_Int, List.length_cons, List.length_nil]
  · have hbe : (b == 0) = false := beq_false_of_ne hb
    have hb1 : 0 < b := by omega
    have H2 : HandOk cs a (b / n) t := ⟨H.len, H.pos, H.a0, H.al, Int.ediv_nonneg hb0 (by omega), H.t0, H.tl⟩
    refine ⟨b % n, hnd cs a (b / n) t, ?_, ⟨cs, a, _, t, rfl, H2⟩, (hmod _).1, (hmod _).2⟩
    unfold m__law_take
    refine (e_run [0] 4 _ _ rfl).trans ?_
    unfold b__law_take
    simp only [startE, List.map, List.length, List.replicate, e_Seq, e_Asg, e_Ret, e_RetF, e_Expr, e_exprK, e_op, e_op2, e_op1, e_un, e_is, e_B, e_bK, e_Cons, e_consK, e_consK2, e_Nil, e_var, e_C, e_bind, e_bindX, e_bindB, e_lookS, e_lookO, M.toD, e_of, e_asgK, e_gSet, e_stK, e_sqN, e_sqR, e_sqB, e_sqC, e_sNil, e_retK, e_retFK, e_add, e_vI, e_neg, e_fInt, e_fIntB, e_sIf, e_sifT, e_sifF, e_T, e_toB, e_Tru, e_truB, e_And, e_Or, e_andT, e_andF, e_orT, e_orF, e_Not, e_notK, e_AndV, e_OrV, e_andVT, e_andVF, e_orVT, e_orVF, e_NotV, e_notVK, e_If, e_ifT, e_ifF, e_Tup, e_Lst, e_LstF, e_tup0, e_lst0, e_lstF0, e_eqI, e_neI, e_ltI, e_leI, e_gtI, e_geI, e_lenL, e_lenT, e_lenR, e_lenS, e_ixL, e_ixT, at0, at1, at2, at3, e_tupL, e_tupT, e_lstT, e_Own, e_ownK, e_Sub, e_For, e_Items, e_itL, e_itT, e_itR, e_Call, e_CallF, e_aNil, e_aVal, e_aVK, e_aVK2, step0, step1, step2, step3, out0, out1, out2, out3, outX1, outX2, outO1, outO2, outO3, e_onSh, e_onOw, decide_true, decide_false, Bool.not_true, Bool.not_false, List.cons_append, List.nil_append, List.getElem?_cons_zero, List.getElem?_cons_succ, List.set_cons_zero, List.set_cons_succ, Nat.reduceLT, Nat.reduceAdd, Nat.reduceSub, Option.map_some, finF, outsE, e_frz, d_rng7, e_forK, e_tnN, e_tnC, e_tnB, e_tnR, e_whT, e_whF, e_Raise, e_Par, e_parK, e_parK2, e_augK, e_Ch, e_chK1, e_chK2, e_chT, e_chF, e_Try, e_tryO, e_tru, e_While, e_abs, e_max2, e_min2, e_gSq2, e_tup1, e_lst1, e_tup2, e_lst2, e_tup3, e_lst3, e_tup4, e_lst4, e_tup5, e_lst5, e_tup6, e_lst6, e_tup7, e_lst7, e_tup8, e_lst8, hnd, e_ixO (ds := [D.lst (List.map D.int cs), D.int a, D.int b, D.int t]), e_ixO2 (ds := [D.lst (List.map D.int cs), D.int a, D.int b, D.int t]), hbe, hb1, e_vIc, c1, c2, m1, m2,
      e_subK (ds := [D.lst (List.map D.int cs), D.int a, D.int b, D.int t]), Int.reduceLE, Int.toNat_one, Int.reduceLT, Int.reduceToNat, Int.cast_ofNat_Int, List.length_cons, List.length_nil]
/-- the hand is made of the script -/
def tot0 : List Int → Int → Int
  | [], t => t
  | c :: r, t => tot0 r ((t * 1009 + c) % 2147483629)
theorem tot0_ok : ∀ (r : List Int) (t : Int), r = [] ∨ (0 ≤ tot0 r t ∧ tot0 r t < 2147483629)
  | [], t => .inl rfl
  | c :: r, t => by
    right
    have h1 := Int.emod_nonneg (t * 1009 + c) (show (2147483629 : Int) ≠ 0 by decide)
    have h2 := Int.emod_lt_of_pos (t * 1009 + c) (show (0 : Int) < 2147483629 by decide)
    rcases tot0_ok r ((t * 1009 + c) % 2147483629) with h | h
    · subst h; exact ⟨h1, h2⟩
    · exact h
def ab (c : Int) : Int := if c ≥ 0 then c else -c
theorem hand_loop (s : D) : ∀ (r : List Int) (t : Int) (acc : List Int) (o : Option DV), acc.length + r.length ≤ 63 → ∃ o', forL (gSet 3) (sSeq (sAsg (dMod (dB fInt (dCons (dAdd (dMul (dVar 1) (dC (.int 1009))) (dB fInt (dCons (dVar 3) (dNil)))) (dNil))) (dC (.int 2147483629))) (gSet 1))
  (sApp 2 (dIf (dT (dCmp .ge (dVar 3) (dC (.int 0)))) (dB fInt (dCons (dVar 3) (dNil))) (dNeg (dB fInt (dCons (dVar 3) (dNil))))))) (r.map D.int) [some (.sh s), some (.sh (.int t)), some (.ow (.lst (acc.map D.int))), o]
    = .ok .nx [some (.sh s), some (.sh (.int (tot0 r t))), some (.ow (.lst ((acc ++ r.map ab).map D.int))), o'] := by
  intro r
  induction r with
  | nil => intro t acc o _; exact ⟨o, by simp only [List.map, forL, tot0, List.append_nil]⟩
  | cons c r ih =>
    intro t acc o hl
    obtain ⟨o', h⟩ := ih ((t * 1009 + c) % 2147483629) (acc ++ [ab c]) (some (.sh (.int c))) (by rw [List.length_append]; simp only [List.length_cons, List.length_nil] at hl ⊢; omega)
    refine ⟨o', ?_⟩
    have c1 : ∀ i : Int, cMul i 1009 = true := fun i => cMul_r (by decide)
    have m1 : ∀ i : Int, cMod i 2147483629 = true := fun i => rfl
    have hsz : (acc.map D.int).length < sizeLine := by rw [List.length_map, sizeLine_eq]; simp only [List.length_cons] at hl; omega
    rw [show acc ++ (c :: r).map ab = (acc ++ [ab c]) ++ r.map ab by simp]
    show forL _ _ (D.int c :: r.map D.int) _ = _
    unfold forL
    rw [show tot0 (c :: r) t = tot0 r ((t * 1009 + c) % 2147483629) from rfl, ← h]
    by_cases hc : 0 ≤ c
    · have e : (acc ++ [ab c]).map D.int = acc.map D.int ++ [D.int c] := by rw [List.map_append, show ab c = c by unfold ab; rw [if_pos hc]]; rfl
      rw [e]
      simp only [startE, List.map, List.length, List.replicate, e_Seq, e_Asg, e_Ret, e_RetF, e_Expr, e_exprK, e_op, e_op2, e_op1, e_un, e_is, e_B, e_bK, e_Cons, e_consK, e_consK2, e_Nil, e_var, e_C, e_bind, e_bindX, e_bindB, e_lookS, e_lookO, M.toD, e_of, e_asgK, e_gSet, e_stK, e_sqN, e_sqR, e_sqB, e_sqC, e_sNil, e_retK, e_retFK, e_add, e_vI, e_neg, e_fInt, e_fIntB, e_sIf, e_sifT, e_sifF, e_T, e_toB, e_Tru, e_truB, e_And, e_Or, e_andT, e_andF, e_orT, e_orF, e_Not, e_notK, e_AndV, e_OrV, e_andVT, e_andVF, e_orVT, e_orVF, e_NotV, e_notVK, e_If, e_ifT, e_ifF, e_Tup, e_Lst, e_LstF, e_tup0, e_lst0, e_lstF0, e_eqI, e_neI, e_ltI, e_leI, e_gtI, e_geI, e_lenL, e_lenT, e_lenR, e_lenS, e_ixL, e_ixT, at0, at1, at2, at3, e_tupL, e_tupT, e_lstT, e_Own, e_ownK, e_Sub, e_For, e_Items, e_itL, e_itT, e_itR, e_Call, e_CallF, e_aNil, e_aVal, e_aVK, e_aVK2, step0, step1, step2, step3, out0, out1, out2, out3, outX1, outX2, outO1, outO2, outO3, e_onSh, e_onOw, decide_true, decide_false, Bool.not_true, Bool.not_false, List.cons_append, List.nil_append, List.getElem?_cons_zero, List.getElem?_cons_succ, List.set_cons_zero, List.set_cons_succ, Nat.reduceLT, Nat.reduceAdd, Nat.reduceSub, Option.map_some, finF, outsE, e_frz, d_rng7, e_forK, e_tnN, e_tnC, e_tnB, e_tnR, e_whT, e_whF, e_Raise, e_Par, e_parK, e_parK2, e_augK, e_Ch, e_chK1, e_chK2, e_chT, e_chF, e_Try, e_tryO, e_tru, e_While, e_abs, e_max2, e_min2, e_gSq2, e_tup1, e_lst1, e_tup2, e_lst2, e_tup3, e_lst3, e_tup4, e_lst4, e_tup5, e_lst5, e_tup6, e_lst6, e_tup7, e_lst7, e_tup8, e_lst8, e_vIc, c1, m1, e_App (ds := acc.map D.int), hc, e_appK (ds := acc.map D.int) (hl := hsz)]
    · have e : (acc ++ [ab c]).map D.int = acc.map D.int ++ [D.int (-c)] := by rw [List.map_append, show ab c = -c by unfold ab; rw [if_neg hc]]; rfl
      rw [e]
      simp only [startE, List.map, List.length, List.replicate, e_Seq, e_Asg, e_Ret, e_RetF, e_Expr, e_exprK, e_op, e_op2, e_op1, e_un, e_is, e_B, e_bK, e_Cons, e_consK, e_consK2, e_Nil, e_var, e_C, e_bind, e_bindX, e_bindB, e_lookS, e_lookO, M.toD, e_of, e_asgK, e_gSet, e_stK, e_sqN, e_sqR, e_sqB, e_sqC, e_sNil, e_retK, e_retFK, e_add, e_vI, e_neg, e_fInt, e_fIntB, e_sIf, e_sifT, e_sifF, e_T, e_toB, e_Tru, e_truB, e_And, e_Or, e_andT, e_andF, e_orT, e_orF, e_Not, e_notK, e_AndV, e_OrV, e_andVT, e_andVF, e_orVT, e_orVF, e_NotV, e_notVK, e_If, e_ifT, e_ifF, e_Tup, e_Lst, e_LstF, e_tup0, e_lst0, e_lstF0, e_eqI, e_neI, e_ltI, e_leI, e_gtI, e_geI, e_lenL, e_lenT, e_lenR, e_lenS, e_ixL, e_ixT, at0, at1, at2, at3, e_tupL, e_tupT, e_lstT, e_Own, e_ownK, e_Sub, e_For, e_Items, e_itL, e_itT, e_itR, e_Call, e_CallF, e_aNil, e_aVal, e_aVK, e_aVK2, step0, step1, step2, step3, out0, out1, out2, out3, outX1, outX2, outO1, outO2, outO3, e_onSh, e_onOw, decide_true, decide_false, Bool.not_true, Bool.not_false, List.cons_append, List.nil_append, List.getElem?_cons_zero, List.getElem?_cons_succ, List.set_cons_zero, List.set_cons_succ, Nat.reduceLT, Nat.reduceAdd, Nat.reduceSub, Option.map_some, finF, outsE, e_frz, d_rng7, e_forK, e_tnN, e_tnC, e_tnB, e_tnR, e_whT, e_whF, e_Raise, e_Par, e_parK, e_parK2, e_augK, e_Ch, e_chK1, e_chK2, e_chT, e_chF, e_Try, e_tryO, e_tru, e_While, e_abs, e_max2, e_min2, e_gSq2, e_tup1, e_lst1, e_tup2, e_lst2, e_tup3, e_lst3, e_tup4, e_lst4, e_tup5, e_lst5, e_tup6, e_lst6, e_tup7, e_lst7, e_tup8, e_lst8, e_vIc, c1, m1, e_App (ds := acc.map D.int), hc, e_appK (ds := acc.map D.int) (hl := hsz)]
theorem hand_ok (ns : List Int) (hn : ns.length ≤ 63) : ∃ m, m__law_hand [.sh (.scr (ns.map D.int))] = .ok (.ow m) [] ∧ Good m := by
  have hlen : ((ns.map D.int).length : Int) = ns.length := by rw [List.length_map]
  obtain ⟨o', h⟩ := hand_loop (.scr (ns.map D.int)) ns (((ns.map D.int).length : Int) + 17) [] none (by simpa using hn)
  refine ⟨hnd (ns.map ab) 0 0 (tot0 ns (((ns.map D.int).length : Int) + 17)), ?_, _, _, _, _, rfl, ⟨by rw [List.length_map]; exact hn, fun c hc => ?_, by omega, by omega, by omega, ?_, ?_⟩⟩
  · unfold m__law_hand
    refine (e_run [] 4 _ _ rfl).trans ?_
    unfold b__law_hand
    simp only [List.nil_append, List.map_nil] at h
    simp only [startE, List.map, List.length, List.replicate, e_Seq, e_Asg, e_Ret, e_RetF, e_Expr, e_exprK, e_op, e_op2, e_op1, e_un, e_is, e_B, e_bK, e_Cons, e_consK, e_consK2, e_Nil, e_var, e_C, e_bind, e_bindX, e_bindB, e_lookS, e_lookO, M.toD, e_of, e_asgK, e_gSet, e_stK, e_sqN, e_sqR, e_sqB, e_sqC, e_sNil, e_retK, e_retFK, e_add, e_vI, e_neg, e_fInt, e_fIntB, e_sIf, e_sifT, e_sifF, e_T, e_toB, e_Tru, e_truB, e_And, e_Or, e_andT, e_andF, e_orT, e_orF, e_Not, e_notK, e_AndV, e_OrV, e_andVT, e_andVF, e_orVT, e_orVF, e_NotV, e_notVK, e_If, e_ifT, e_ifF, e_Tup, e_Lst, e_LstF, e_tup0, e_lst0, e_lstF0, e_eqI, e_neI, e_ltI, e_leI, e_gtI, e_geI, e_lenL, e_lenT, e_lenR, e_lenS, e_ixL, e_ixT, at0, at1, at2, at3, e_tupL, e_tupT, e_lstT, e_Own, e_ownK, e_Sub, e_For, e_Items, e_itL, e_itT, e_itR, e_Call, e_CallF, e_aNil, e_aVal, e_aVK, e_aVK2, step0, step1, step2, step3, out0, out1, out2, out3, outX1, outX2, outO1, outO2, outO3, e_onSh, e_onOw, decide_true, decide_false, Bool.not_true, Bool.not_false, List.cons_append, List.nil_append, List.getElem?_cons_zero, List.getElem?_cons_succ, List.set_cons_zero, List.set_cons_succ, Nat.reduceLT, Nat.reduceAdd, Nat.reduceSub, Option.map_some, finF, outsE, e_frz, d_rng7, e_forK, e_tnN, e_tnC, e_tnB, e_tnR, e_whT, e_whF, e_Raise, e_Par, e_parK, e_parK2, e_augK, e_Ch, e_chK1, e_chK2, e_chT, e_chF, e_Try, e_tryO, e_tru, e_While, e_abs, e_max2, e_min2, e_gSq2, e_tup1, e_lst1, e_tup2, e_lst2, e_tup3, e_lst3, e_tup4, e_lst4, e_tup5, e_lst5, e_tup6, e_lst6, e_tup7, e_lst7, e_tup8, e_lst8, forK, h, e_lstF, List.length_cons, List.length_nil, hnd, sizeLine_eq, Nat.reduceLeDiff]
  · obtain ⟨x, hx, rfl⟩ := List.mem_map.mp hc
    unfold ab; split <;> omega
  · rcases tot0_ok ns (((ns.map D.int).length : Int) + 17) with h | h
    · subst h; show (0 : Int) ≤ 17; decide
    · exact h.1
  · rcases tot0_ok ns (((ns.map D.int).length : Int) + 17) with h | h
    · subst h; show (17 : Int) < 2147483629; decide
    · exact h.2
end L20
set_option Elab.async false
set_option linter.all false
set_option maxRecDepth 100000
set_option maxHeartbeats 4000000
namespace L20
open PySem L2 Rf Sv
theorem saw_sevens_ok (w m : Int) : m_saw_sevens [.sh (.int w), .sh (.int m)] = .ok (.sh (tupI (saws w m))) [] := by kernel_rfl
theorem even_ok (k : Int) : m__law_even [.sh (.int k)] = .ok (.sh (tupI (evens k))) [] := by kernel_rfl
theorem lwhole_i (k : Int) : m__law_whole [.sh (.int k)] = .ok (.sh (.bl true)) [] := by kernel_rfl
theorem is_whole_ok (k : Int) : m_is_whole [.sh (.int k)] = .ok (.sh (.bl true)) [] := by kernel_rfl
theorem ahead_ok (w d : Int) : m_days_ahead [.sh (.int w), .sh (.int d)] = .ok (.sh (.int ((w - d - 1) % 7 + 1))) [] := by kernel_rfl
theorem back_ok (w d : Int) : m_days_back [.sh (.int w), .sh (.int d)] = .ok (.sh (.int ((d - w - 1) % 7 + 1))) [] := by kernel_rfl
theorem coming_ok (d w : Int) (h0 : 0 ≤ w) (h6 : w ≤ 6) : m__law_coming [.sh (.int d), .sh (.int w)] = .ok (.sh (.int (d + ((w - d - 1) % 7 + 1)))) [] := by
  have m7 : ∀ i : Int, cMod i 7 = true := fun i => rfl
  have hx : (w - d - 1) % 7 = 0 ∨ (w - d - 1) % 7 = 1 ∨ (w - d - 1) % 7 = 2 ∨ (w - d - 1) % 7 = 3 ∨ (w - d - 1) % 7 = 4 ∨ (w - d - 1) % 7 = 5 ∨ (w - d - 1) % 7 = 6 := by omega
  refine (e_run [] 3 _ _ rfl).trans ?_
  unfold b__law_coming
  rcases hx with hx | hx | hx | hx | hx | hx | hx <;> rw [hx]
  · have f0 : ((d + 1) % 7 == w) = true := beq_iff_eq.mpr (by omega)
    simp only [startE, List.map, List.length, List.replicate, e_Seq, e_Asg, e_Ret, e_RetF, e_Expr, e_exprK, e_op, e_op2, e_op1, e_un, e_is, e_B, e_bK, e_Cons, e_consK, e_consK2, e_Nil, e_var, e_C, e_bind, e_bindX, e_bindB, e_lookS, e_lookO, M.toD, e_of, e_asgK, e_gSet, e_stK, e_sqN, e_sqR, e_sqB, e_sqC, e_sNil, e_retK, e_retFK, e_add, e_vI, e_neg, e_fInt, e_fIntB, e_sIf, e_sifT, e_sifF, e_T, e_toB, e_Tru, e_truB, e_And, e_Or, e_andT, e_andF, e_orT, e_orF, e_Not, e_notK, e_AndV, e_OrV, e_andVT, e_andVF, e_orVT, e_orVF, e_NotV, e_notVK, e_If, e_ifT, e_ifF, e_Tup, e_Lst, e_LstF, e_tup0, e_lst0, e_lstF0, e_eqI, e_neI, e_ltI, e_leI, e_gtI, e_geI, e_lenL, e_lenT, e_lenR, e_lenS, e_ixL, e_ixT, at0, at1, at2, at3, e_tupL, e_tupT, e_lstT, e_Own, e_ownK, e_Sub, e_For, e_Items, e_itL, e_itT, e_itR, e_Call, e_CallF, e_aNil, e_aVal, e_aVK, e_aVK2, step0, step1, step2, step3, out0, out1, out2, out3, outX1, outX2, outO1, outO2, outO3, e_onSh, e_onOw, decide_true, decide_false, Bool.not_true, Bool.not_false, List.cons_append, List.nil_append, List.getElem?_cons_zero, List.getElem?_cons_succ, List.set_cons_zero, List.set_cons_succ, Nat.reduceLT, Nat.reduceAdd, Nat.reduceSub, Option.map_some, finF, outsE, e_frz, d_rng7, e_forK, e_tnN, e_tnC, e_tnB, e_tnR, e_whT, e_whF, e_Raise, e_Par, e_parK, e_parK2, e_augK, e_Ch, e_chK1, e_chK2, e_chT, e_chF, e_Try, e_tryO, e_tru, e_While, e_abs, e_max2, e_min2, e_gSq2, e_tup1, e_lst1, e_tup2, e_lst2, e_tup3, e_lst3, e_tup4, e_lst4, e_tup5, e_lst5, e_tup6, e_lst6, e_tup7, e_lst7, e_tup8, e_lst8, forL_set, e_vIc, m7, f0]
    exact congrArg (fun z => FO.ok (.sh (.int z)) []) (by omega)
  · have f0 : ((d + 1) % 7 == w) = false := beq_false_of_ne (by omega)
    have f1 : ((d + 1 + 1) % 7 == w) = true := beq_iff_eq.mpr (by omega)
    simp only [startE, List.map, List.length, List.replicate, e_Seq, e_Asg, e_Ret, e_RetF, e_Expr, e_exprK, e_op, e_op2, e_op1, e_un, e_is, e_B, e_bK, e_Cons, e_consK, e_consK2, e_Nil, e_var, e_C, e_bind, e_bindX, e_bindB, e_lookS, e_lookO, M.toD, e_of, e_asgK, e_gSet, e_stK, e_sqN, e_sqR, e_sqB, e_sqC, e_sNil, e_retK, e_retFK, e_add, e_vI, e_neg, e_fInt, e_fIntB, e_sIf, e_sifT, e_sifF, e_T, e_toB, e_Tru, e_truB, e_And, e_Or, e_andT, e_andF, e_orT, e_orF, e_Not, e_notK, e_AndV, e_OrV, e_andVT, e_andVF, e_orVT, e_orVF, e_NotV, e_notVK, e_If, e_ifT, e_ifF, e_Tup, e_Lst, e_LstF, e_tup0, e_lst0, e_lstF0, e_eqI, e_neI, e_ltI, e_leI, e_gtI, e_geI, e_lenL, e_lenT, e_lenR, e_lenS, e_ixL, e_ixT, at0, at1, at2, at3, e_tupL, e_tupT, e_lstT, e_Own, e_ownK, e_Sub, e_For, e_Items, e_itL, e_itT, e_itR, e_Call, e_CallF, e_aNil, e_aVal, e_aVK, e_aVK2, step0, step1, step2, step3, out0, out1, out2, out3, outX1, outX2, outO1, outO2, outO3, e_onSh, e_onOw, decide_true, decide_false, Bool.not_true, Bool.not_false, List.cons_append, List.nil_append, List.getElem?_cons_zero, List.getElem?_cons_succ, List.set_cons_zero, List.set_cons_succ, Nat.reduceLT, Nat.reduceAdd, Nat.reduceSub, Option.map_some, finF, outsE, e_frz, d_rng7, e_forK, e_tnN, e_tnC, e_tnB, e_tnR, e_whT, e_whF, e_Raise, e_Par, e_parK, e_parK2, e_augK, e_Ch, e_chK1, e_chK2, e_chT, e_chF, e_Try, e_tryO, e_tru, e_While, e_abs, e_max2, e_min2, e_gSq2, e_tup1, e_lst1, e_tup2, e_lst2, e_tup3, e_lst3, e_tup4, e_lst4, e_tup5, e_lst5, e_tup6, e_lst6, e_tup7, e_lst7, e_tup8, e_lst8, forL_set, e_vIc, m7, f0, f1]
    exact congrArg (fun z => FO.ok (.sh (.int z)) []) (by omega)
  · have f0 : ((d + 1) % 7 == w) = false := beq_false_of_ne (by omega)
    have f1 : ((d + 1 + 1) % 7 == w) = false := beq_false_of_ne (by omega)
    have f2 : ((d + 1 + 1 + 1) % 7 == w) = true := beq_iff_eq.mpr (by omega)
    simp only [startE, List.map, List.length, List.replicate, e_Seq, e_Asg, e_Ret, e_RetF, e_Expr, e_exprK, e_op, e_op2, e_op1, e_un, e_is, e_B, e_bK, e_Cons, e_consK, e_consK2, e_Nil, e_var, e_C, e_bind, e_bindX, e_bindB, e_lookS, e_lookO, M.toD, e_of, e_asgK, e_gSet, e_stK, e_sqN, e_sqR, e_sqB, e_sqC, e_sNil, e_retK, e_retFK, e_add, e_vI, e_neg, e_fInt, e_fIntB, e_sIf, e_sifT, e_sifF, e_T, e_toB, e_Tru, e_truB, e_And, e_Or, e_andT, e_andF, e_orT, e_orF, e_Not, e_notK, e_AndV, e_OrV, e_andVT, e_andVF, e_orVT, e_orVF, e_NotV, e_notVK, e_If, e_ifT, e_ifF, e_Tup, e_Lst, e_LstF, e_tup0, e_lst0, e_lstF0, e_eqI, e_neI, e_ltI, e_leI, e_gtI, e_geI, e_lenL, e_lenT, e_lenR, e_lenS, e_ixL, e_ixT, at0, at1, at2, at3, e_tupL, e_tupT, e_lstT, e_Own, e_ownK, e_Sub, e_For, e_Items, e_itL, e_itT, e_itR, e_Call, e_CallF, e_aNil, e_aVal, e_aVK, e_aVK2, step0, step1, step2, step3, out0, out1, out2, out3, outX1, outX2, outO1, outO2, outO3, e_onSh, e_onOw, decide_true, decide_false, Bool.not_true, Bool.not_false, List.cons_append, List.nil_append, List.getElem?_cons_zero, List.getElem?_cons_succ, List.set_cons_zero, List.set_cons_succ, Nat.reduceLT, Nat.reduceAdd, Nat.reduceSub, Option.map_some, finF, outsE, e_frz, d_rng7, e_forK, e_tnN, e_tnC, e_tnB, e_tnR, e_whT, e_whF, e_Raise, e_Par, e_parK, e_parK2, e_augK, e_Ch, e_chK1, e_chK2, e_chT, e_chF, e_Try, e_tryO, e_tru, e_While, e_abs, e_max2, e_min2, e_gSq2, e_tup1, e_lst1, e_tup2, e_lst2, e_tup3, e_lst3, e_tup4, e_lst4, e_tup5, e_lst5, e_tup6, e_lst6, e_tup7, e_lst7, e_tup8, e_lst8, forL_set, e_vIc, m7, f0, f1, f2]
    exact congrArg (fun z => FO.ok (.sh (.int z)) []) (by omega)
  · have f0 : ((d + 1) % 7 == w) = false := beq_false_of_ne (by omega)
    have f1 : ((d + 1 + 1) % 7 == w) = false := beq_false_of_ne (by omega)
    have f2 : ((d + 1 + 1 + 1) % 7 == w) = false := beq_false_of_ne (by omega)
    have f3 : ((d + 1 + 1 + 1 + 1) % 7 == w) = true := beq_iff_eq.mpr (by omega)
    simp only [startE, List.map, List.length, List.replicate, e_Seq, e_Asg, e_Ret, e_RetF, e_Expr, e_exprK, e_op, e_op2, e_op1, e_un, e_is, e_B, e_bK, e_Cons, e_consK, e_consK2, e_Nil, e_var, e_C, e_bind, e_bindX, e_bindB, e_lookS, e_lookO, M.toD, e_of, e_asgK, e_gSet, e_stK, e_sqN, e_sqR, e_sqB, e_sqC, e_sNil, e_retK, e_retFK, e_add, e_vI, e_neg, e_fInt, e_fIntB, e_sIf, e_sifT, e_sifF, e_T, e_toB, e_Tru, e_truB, e_And, e_Or, e_andT, e_andF, e_orT, e_orF, e_Not, e_notK, e_AndV, e_OrV, e_andVT, e_andVF, e_orVT, e_orVF, e_NotV, e_notVK, e_If, e_ifT, e_ifF, e_Tup, e_Lst, e_LstF, e_tup0, e_lst0, e_lstF0, e_eqI, e_neI, e_ltI, e_leI, e_gtI, e_geI, e_lenL, e_lenT, e_lenR, e_lenS, e_ixL, e_ixT, at0, at1, at2, at3, e_tupL, e_tupT, e_lstT, e_Own, e_ownK, e_Sub, e_For, e_Items, e_itL, e_itT, e_itR, e_Call, e_CallF, e_aNil, e_aVal, e_aVK, e_aVK2, step0, step1, step2, step3, out0, out1, out2, out3, outX1, outX2, outO1, outO2, outO3, e_onSh, e_onOw, decide_true, decide_false, Bool.not_true, Bool.not_false, List.cons_append, List.nil_append, List.getElem?_cons_zero, List.getElem?_cons_succ, List.set_cons_zero, List.set_cons_succ, Nat.reduceLT, Nat.reduceAdd, Nat.reduceSub, Option.map_some, finF, outsE, e_frz, d_rng7, e_forK, e_tnN, e_tnC, e_tnB, e_tnR, e_whT, e_whF, e_Raise, e_Par, e_parK, e_parK2, e_augK, e_Ch, e_chK1, e_chK2, e_chT, e_chF, e_Try, e_tryO, e_tru, e_While, e_abs, e_max2, e_min2, e_gSq2, e_tup1, e_lst1, e_tup2, e_lst2, e_tup3, e_lst3, e_tup4, e_lst4, e_tup5, e_lst5, e_tup6, e_lst6, e_tup7, e_lst7, e_tup8, e_lst8, forL_set, e_vIc, m7, f0, f1, f2, f3]
    exact congrArg (fun z => FO.ok (.sh (.int z)) []) (by omega)
  · have f0 : ((d + 1) % 7 == w) = false := beq_false_of_ne (by omega)
    have f1 : ((d + 1 + 1) % 7 == w) = false := beq_false_of_ne (by omega)
    have f2 : ((d + 1 + 1 + 1) % 7 == w) = false := beq_false_of_ne (by omega)
    have f3 : ((d + 1 + 1 + 1 + 1) % 7 == w) = false := beq_false_of_ne (by omega)
    have f4 : ((d + 1 + 1 + 1 + 1 + 1) % 7 == w) = true := beq_iff_eq.mpr (by omega)
    simp only [startE, List.map, List.length, List.replicate, e_Seq, e_Asg, e_Ret, e_RetF, e_Expr, e_exprK, e_op, e_op2, e_op1, e_un, e_is, e_B, e_bK, e_Cons, e_consK, e_consK2, e_Nil, e_var, e_C, e_bind, e_bindX, e_bindB, e_lookS, e_lookO, M.toD, e_of, e_asgK, e_gSet, e_stK, e_sqN, e_sqR, e_sqB, e_sqC, e_sNil, e_retK, e_retFK, e_add, e_vI, e_neg, e_fInt, e_fIntB, e_sIf, e_sifT, e_sifF, e_T, e_toB, e_Tru, e_truB, e_And, e_Or, e_andT, e_andF, e_orT, e_orF, e_Not, e_notK, e_AndV, e_OrV, e_andVT, e_andVF, e_orVT, e_orVF, e_NotV, e_notVK, e_If, e_ifT, e_ifF, e_Tup, e_Lst, e_LstF, e_tup0, e_lst0, e_lstF0, e_eqI, e_neI, e_ltI, e_leI, e_gtI, e_geI, e_lenL, e_lenT, e_lenR, e_lenS, e_ixL, e_ixT, at0, at1, at2, at3, e_tupL, e_tupT, e_lstT, e_Own, e_ownK, e_Sub, e_For, e_Items, e_itL, e_itT, e_itR, e_Call, e_CallF, e_aNil, e_aVal, e_aVK, e_aVK2, step0, step1, step2, step3, out0, out1, out2, out3, outX1, outX2, outO1, outO2, outO3, e_onSh, e_onOw, decide_true, decide_false, Bool.not_true, Bool.not_false, List.cons_append, List.nil_append, List.getElem?_cons_zero, List.getElem?_cons_succ, List.set_cons_zero, List.set_cons_succ, Nat.reduceLT, Nat.reduceAdd, Nat.reduceSub, Option.map_some, finF, outsE, e_frz, d_rng7, e_forK, e_tnN, e_tnC, e_tnB, e_tnR, e_whT, e_whF, e_Raise, e_Par, e_parK, e_parK2, e_augK, e_Ch, e_chK1, e_chK2, e_chT, e_chF, e_Try, e_tryO, e_tru, e_While, e_abs, e_max2, e_min2, e_gSq2, e_tup1, e_lst1, e_tup2, e_lst2, e_tup3, e_lst3, e_tup4, e_lst4, e_tup5, e_lst5, e_tup6, e_lst6, e_tup7, e_lst7, e_tup8, e_lst8, forL_set, e_vIc, m7, f0, f1, f2, f3, f4]
    exact congrArg (fun z => FO.ok (.sh (.int z)) []) (by omega)
  · have f0 : ((d + 1) % 7 == w) = false := beq_false_of_ne (by omega)
    have f1 : ((d + 1 + 1) % 7 == w) = false := beq_false_of_ne (by omega)
    have f2 : ((d + 1 + 1 + 1) % 7 == w) = false := beq_false_of_ne (by omega)
    have f3 : ((d + 1 + 1 + 1 + 1) % 7 == w) = false := beq_false_of_ne (by omega)
    have f4 : ((d + 1 + 1 + 1 + 1 + 1) % 7 == w) = false := beq_false_of_ne (by omega)
    have f5 : ((d + 1 + 1 + 1 + 1 + 1 + 1) % 7 == w) = true := beq_iff_eq.mpr (by omega)
    simp only [startE, List.map, List.length, List.replicate, e_Seq, e_Asg, e_Ret, e_RetF, e_Expr, e_exprK, e_op, e_op2, e_op1, e_un, e_is, e_B, e_bK, e_Cons, e_consK, e_consK2, e_Nil, e_var, e_C, e_bind, e_bindX, e_bindB, e_lookS, e_lookO, M.toD, e_of, e_asgK, e_gSet, e_stK, e_sqN, e_sqR, e_sqB, e_sqC, e_sNil, e_retK, e_retFK, e_add, e_vI, e_neg, e_fInt, e_fIntB, e_sIf, e_sifT, e_sifF, e_T, e_toB, e_Tru, e_truB, e_And, e_Or, e_andT, e_andF, e_orT, e_orF, e_Not, e_notK, e_AndV, e_OrV, e_andVT, e_andVF, e_orVT, e_orVF, e_NotV, e_notVK, e_If, e_ifT, e_ifF, e_Tup, e_Lst, e_LstF, e_tup0, e_lst0, e_lstF0, e_eqI, e_neI, e_ltI, e_leI, e_gtI, e_geI, e_lenL, e_lenT, e_lenR, e_lenS, e_ixL, e_ixT, at0, at1, at2, at3, e_tupL, e_tupT, e_lstT, e_Own, e_ownK, e_Sub, e_For, e_Items, e_itL, e_itT, e_itR, e_Call, e_CallF, e_aNil, e_aVal, e_aVK, e_aVK2, step0, step1, step2, step3, out0, out1, out2, out3, outX1, outX2, outO1, outO2, outO3, e_onSh, e_onOw, decide_true, decide_false, Bool.not_true, Bool.not_false, List.cons_append, List.nil_append, List.getElem?_cons_zero, List.getElem?_cons_succ, List.set_cons_zero, List.set_cons_succ, Nat.reduceLT, Nat.reduceAdd, Nat.reduceSub, Option.map_some, finF, outsE, e_frz, d_rng7, e_forK, e_tnN, e_tnC, e_tnB, e_tnR, e_whT, e_whF, e_Raise, e_Par, e_parK, e_parK2, e_augK, e_Ch, e_chK1, e_chK2, e_chT, e_chF, e_Try, e_tryO, e_tru, e_While, e_abs, e_max2, e_min2, e_gSq2, e_tup1, e_lst1, e_tup2, e_lst2, e_tup3, e_lst3, e_tup4, e_lst4, e_tup5, e_lst5, e_tup6, e_lst6, e_tup7, e_lst7, e_tup8, e_lst8, forL_set, e_vIc, m7, f0, f1, f2, f3, f4, f5]
    exact congrArg (fun z => FO.ok (.sh (.int z)) []) (by omega)
  · have f0 : ((d + 1) % 7 == w) = false := beq_false_of_ne (by omega)
    have f1 : ((d + 1 + 1) % 7 == w) = false := beq_false_of_ne (by omega)
    have f2 : ((d + 1 + 1 + 1) % 7 == w) = false := beq_false_of_ne (by omega)
    have f3 : ((d + 1 + 1 + 1 + 1) % 7 == w) = false := beq_false_of_ne (by omega)
    have f4 : ((d + 1 + 1 + 1 + 1 + 1) % 7 == w) = false := beq_false_of_ne (by omega)
    have f5 : ((d + 1 + 1 + 1 + 1 + 1 + 1) % 7 == w) = false := beq_false_of_ne (by omega)
    have f6 : ((d + 1 + 1 + 1 + 1 + 1 + 1 + 1) % 7 == w) = true := beq_iff_eq.mpr (by omega)
    simp only [startE, List.map, List.length, List.replicate, e_Seq, e_Asg, e_Ret, e_RetF, e_Expr, e_exprK, e_op, e_op2, e_op1, e_un, e_is, e_B, e_bK, e_Cons, e_consK, e_consK2, e_Nil, e_var, e_C, e_bind, e_bindX, e_bindB, e_lookS, e_lookO, M.toD, e_of, e_asgK, e_gSet, e_stK, e_sqN, e_sqR, e_sqB, e_sqC, e_sNil, e_retK, e_retFK, e_add, e_vI, e_neg, e_fInt, e_fIntB, e_sIf, e_sifT, e_sifF, e_T, e_toB, e_Tru, e_truB, e_And, e_Or, e_andT, e_andF, e_orT, e_orF, e_Not, e_notK, e_AndV, e_OrV, e_andVT, e_andVF, e_orVT, e_orVF, e_NotV, e_notVK, e_If, e_ifT, e_ifF, e_Tup, e_Lst, e_LstF, e_tup0, e_lst0, e_lstF0, e_eqI, e_neI, e_ltI, e_leI, e_gtI, e_geI, e_lenL, e_lenT, e_lenR, e_lenS, e_ixL, e_ixT, at0, at1, at2, at3, e_tupL, e_tupT, e_lstT, e_Own, e_ownK, e_Sub, e_For, e_Items, e_itL, e_itT, e_itR, e_Call, e_CallF, e_aNil, e_aVal, e_aVK, e_aVK2, step0, step1, step2, step3, out0, out1, out2, out3, outX1, outX2, outO1, outO2, outO3, e_onSh, e_onOw, decide_true, decide_false, Bool.not_true, Bool.not_false, List.cons_append, List.nil_append, List.getElem?_cons_zero, List.getElem?_cons_succ, List.set_cons_zero, List.set_cons_succ, Nat.reduceLT, Nat.reduceAdd, Nat.reduceSub, Option.map_some, finF, outsE, e_frz, d_rng7, e_forK, e_tnN, e_tnC, e_tnB, e_tnR, e_whT, e_whF, e_Raise, e_Par, e_parK, e_parK2, e_augK, e_Ch, e_chK1, e_chK2, e_chT, e_chF, e_Try, e_tryO, e_tru, e_While, e_abs, e_max2, e_min2, e_gSq2, e_tup1, e_lst1, e_tup2, e_lst2, e_tup3, e_lst3, e_tup4, e_lst4, e_tup5, e_lst5, e_tup6, e_lst6, e_tup7, e_lst7, e_tup8, e_lst8, forL_set, e_vIc, m7, f0, f1, f2, f3, f4, f5, f6]
    exact congrArg (fun z => FO.ok (.sh (.int z)) []) (by omega)

theorem last_ok (d w : Int) (h0 : 0 ≤ w) (h6 : w ≤ 6) : m__law_last [.sh (.int d), .sh (.int w)] = .ok (.sh (.int (d - ((d - w - 1) % 7 + 1)))) [] := by
  have m7 : ∀ i : Int, cMod i 7 = true := fun i => rfl
  have hx : (d - w - 1) % 7 = 0 ∨ (d - w - 1) % 7 = 1 ∨ (d - w - 1) % 7 = 2 ∨ (d - w - 1) % 7 = 3 ∨ (d - w - 1) % 7 = 4 ∨ (d - w - 1) % 7 = 5 ∨ (d - w - 1) % 7 = 6 := by omega
  refine (e_run [] 3 _ _ rfl).trans ?_
  unfold b__law_last
  rcases hx with hx | hx | hx | hx | hx | hx | hx <;> rw [hx]
  · have f0 : ((d - 1) % 7 == w) = true := beq_iff_eq.mpr (by omega)
    simp only [startE, List.map, List.length, List.replicate, e_Seq, e_Asg, e_Ret, e_RetF, e_Expr, e_exprK, e_op, e_op2, e_op1, e_un, e_is, e_B, e_bK, e_Cons, e_consK, e_consK2, e_Nil, e_var, e_C, e_bind, e_bindX, e_bindB, e_lookS, e_lookO, M.toD, e_of, e_asgK, e_gSet, e_stK, e_sqN, e_sqR, e_sqB, e_sqC, e_sNil, e_retK, e_retFK, e_add, e_vI, e_neg, e_fInt, e_fIntB, e_sIf, e_sifT, e_sifF, e_T, e_toB, e_Tru, e_truB, e_And, e_Or, e_andT, e_andF, e_orT, e_orF, e_Not, e_notK, e_AndV, e_OrV, e_andVT, e_andVF, e_orVT, e_orVF, e_NotV, e_notVK, e_If, e_ifT, e_ifF, e_Tup, e_Lst, e_LstF, e_tup0, e_lst0, e_lstF0, e_eqI, e_neI, e_ltI, e_leI, e_gtI, e_geI, e_lenL, e_lenT, e_lenR, e_lenS, e_ixL, e_ixT, at0, at1, at2, at3, e_tupL, e_tupT, e_lstT, e_Own, e_ownK, e_Sub, e_For, e_Items, e_itL, e_itT, e_itR, e_Call, e_CallF, e_aNil, e_aVal, e_aVK, e_aVK2, step0, step1, step2, step3, out0, out1, out2, out3, outX1, outX2, outO1, outO2, outO3, e_onSh, e_onOw, decide_true, decide_false, Bool.not_true, Bool.not_false, List.cons_append, List.nil_append, List.getElem?_cons_zero, List.getElem?_cons_succ, List.set_cons_zero, List.set_cons_succ, Nat.reduceLT, Nat.reduceAdd, Nat.reduceSub, Option.map_some, finF, outsE, e_frz, d_rng7, e_forK, e_tnN, e_tnC, e_tnB, e_tnR, e_whT, e_whF, e_Raise, e_Par, e_parK, e_parK2, e_augK, e_Ch, e_chK1, e_chK2, e_chT, e_chF, e_Try, e_tryO, e_tru, e_While, e_abs, e_max2, e_min2, e_gSq2, e_tup1, e_lst1, e_tup2, e_lst2, e_tup3, e_lst3, e_tup4, e_lst4, e_tup5, e_lst5, e_tup6, e_lst6, e_tup7, e_lst7, e_tup8, e_lst8, forL_set, e_vIc, m7, f0]
    exact congrArg (fun z => FO.ok (.sh (.int z)) []) (by omega)
  · have f0 : ((d - 1) % 7 == w) = false := beq_false_of_ne (by omega)
    have f1 : ((d - 1 - 1) % 7 == w) = true := beq_iff_eq.mpr (by omega)
    simp only [startE, List.map, List.length, List.replicate, e_Seq, e_Asg, e_Ret, e_RetF, e_Expr, e_exprK, e_op, e_op2, e_op1, e_un, e_is, e_B, e_bK, e_Cons, e_consK, e_consK2, e_Nil, e_var, e_C, e_bind, e_bindX, e_bindB, e_lookS, e_lookO, M.toD, e_of, e_asgK, e_gSet, e_stK, e_sqN, e_sqR, e_sqB, e_sqC, e_sNil, e_retK, e_retFK, e_add, e_vI, e_neg, e_fInt, e_fIntB, e_sIf, e_sifT, e_sifF, e_T, e_toB, e_Tru, e_truB, e_And, e_Or, e_andT, e_andF, e_orT, e_orF, e_Not, e_notK, e_AndV, e_OrV, e_andVT, e_andVF, e_orVT, e_orVF, e_NotV, e_notVK, e_If, e_ifT, e_ifF, e_Tup, e_Lst, e_LstF, e_tup0, e_lst0, e_lstF0, e_eqI, e_neI, e_ltI, e_leI, e_gtI, e_geI, e_lenL, e_lenT, e_lenR, e_lenS, e_ixL, e_ixT, at0, at1, at2, at3, e_tupL, e_tupT, e_lstT, e_Own, e_ownK, e_Sub, e_For, e_Items, e_itL, e_itT, e_itR, e_Call, e_CallF, e_aNil, e_aVal, e_aVK, e_aVK2, step0, step1, step2, step3, out0, out1, out2, out3, outX1, outX2, outO1, outO2, outO3, e_onSh, e_onOw, decide_true, decide_false, Bool.not_true, Bool.not_false, List.cons_append, List.nil_append, List.getElem?_cons_zero, List.getElem?_cons_succ, List.set_cons_zero, List.set_cons_succ, Nat.reduceLT, Nat.reduceAdd, Nat.reduceSub, Option.map_some, finF, outsE, e_frz, d_rng7, e_forK, e_tnN, e_tnC, e_tnB, e_tnR, e_whT, e_whF, e_Raise, e_Par, e_parK, e_parK2, e_augK, e_Ch, e_chK1, e_chK2, e_chT, e_chF, e_Try, e_tryO, e_tru, e_While, e_abs, e_max2, e_min2, e_gSq2, e_tup1, e_lst1, e_tup2, e_lst2, e_tup3, e_lst3, e_tup4, e_lst4, e_tup5, e_lst5, e_tup6, e_lst6, e_tup7, e_lst7, e_tup8, e_lst8, forL_set, e_vIc, m7, f0, f1]
    exact congrArg (fun z => FO.ok (.sh (.int z)) []) (by omega)
  · have f0 : ((d - 1) % 7 == w) = false := beq_false_of_ne (by omega)
    have f1 : ((d - 1 - 1) % 7 == w) = false := beq_false_of_ne (by omega)
    have f2 : ((d - 1 - 1 - 1) % 7 == w) = true := beq_iff_eq.mpr (by omega)
    simp only [startE, List.map, List.length, List.replicate, e_Seq, e_Asg, e_Ret, e_RetF, e_Expr, e_exprK, e_op, e_op2, e_op1, e_un, e_is, e_B, e_bK, e_Cons, e_consK, e_consK2, e_Nil, e_var, e_C, e_bind, e_bindX, e_bindB, e_lookS, e_lookO, M.toD, e_of, e_asgK, e_gSet, e_stK, e_sqN, e_sqR, e_sqB, e_sqC, e_sNil, e_retK, e_retFK, e_add, e_vI, e_neg, e_fInt, e_fIntB, e_sIf, e_sifT, e_sifF, e_T, e_toB, e_Tru, e_truB, e_And, e_Or, e_andT, e_andF, e_orT, e_orF, e_Not, e_notK, e_AndV, e_OrV, e_andVT, e_andVF, e_orVT, e_orVF, e_NotV, e_notVK, e_If, e_ifT, e_ifF, e_Tup, e_Lst, e_LstF, e_tup0, e_lst0, e_lstF0, e_eqI, e_neI, e_ltI, e_leI, e_gtI, e_geI, e_lenL, e_lenT, e_lenR, e_lenS, e_ixL, e_ixT, at0, at1, at2, at3, e_tupL, e_tupT, e_lstT, e_Own, e_ownK, e_Sub, e_For, e_Items, e_itL, e_itT, e_itR, e_Call, e_CallF, e_aNil, e_aVal, e_aVK, e_aVK2, step0, step1, step2, step3, out0, out1, out2, out3, outX1, outX2, outO1, outO2, outO3, e_onSh, e_onOw, decide_true, decide_false, Bool.not_true, Bool.not_false, List.cons_append, List.nil_append, List.getElem?_cons_zero, List.getElem?_cons_succ, List.set_cons_zero, List.set_cons_succ, Nat.reduceLT, Nat.reduceAdd, Nat.reduceSub, Option.map_some, finF, outsE, e_frz, d_rng7, e_forK, e_tnN, e_tnC, e_tnB, e_tnR, e_whT, e_whF, e_Raise, e_Par, e_parK, e_parK2, e_augK, e_Ch, e_chK1, e_chK2, e_chT, e_chF, e_Try, e_tryO, e_tru, e_While, e_abs, e_max2, e_min2, e_gSq2, e_tup1, e_lst1, e_tup2, e_lst2, e_tup3, e_lst3, e_tup4, e_lst4, e_tup5, e_lst5, e_tup6, e_lst6, e_tup7, e_lst7, e_tup8, e_lst8, forL_set, e_vIc, m7, f0, f1, f2]
    exact congrArg (fun z => FO.ok (.sh (.int z)) []) (by omega)
  · have f0 : ((d - 1) % 7 == w) = false := beq_false_of_ne (by omega)
    have f1 : ((d - 1 - 1) % 7 == w) = false := beq_false_of_ne (by omega)
    have f2 : ((d - 1 - 1 - 1) % 7 == w) = false := beq_false_of_ne (by omega)
    have f3 : ((d - 1 - 1 - 1 - 1) % 7 == w) = true := beq_iff_eq.mpr (by omega)
    simp only [startE, List.map, List.length, List.replicate, e_Seq, e_Asg, e_Ret, e_RetF, e_Expr, e_exprK, e_op, e_op2, e_op1, e_un, e_is, e_B, e_bK, e_Cons, e_consK, e_consK2, e_Nil, e_var, e_C, e_bind, e_bindX, e_bindB, e_lookS, e_lookO, M.toD, e_of, e_asgK, e_gSet, e_stK, e_sqN, e_sqR, e_sqB, e_sqC, e_sNil, e_retK, e_retFK, e_add, e_vI, e_neg, e_fInt, e_fIntB, e_sIf, e_sifT, e_sifF, e_T, e_toB, e_Tru, e_truB, e_And, e_Or, e_andT, e_andF, e_orT, e_orF, e_Not, e_notK, e_AndV, e_OrV, e_andVT, e_andVF, e_orVT, e_orVF, e_NotV, e_notVK, e_If, e_ifT, e_ifF, e_Tup, e_Lst, e_LstF, e_tup0, e_lst0, e_lstF0, e_eqI, e_neI, e_ltI, e_leI, e_gtI, e_geI, e_lenL, e_lenT, e_lenR, e_lenS, e_ixL, e_ixT, at0, at1, at2, at3, e_tupL, e_tupT, e_lstT, e_Own, e_ownK, e_Sub, e_For, e_Items, e_itL, e_itT, e_itR, e_Call, e_CallF, e_aNil, e_aVal, e_aVK, e_aVK2, step0, step1, step2, step3, out0, out1, out2, out3, outX1, outX2, outO1, outO2, outO3, e_onSh, e_onOw, decide_true, decide_false, Bool.not_true, Bool.not_false, List.cons_append, List.nil_append, List.getElem?_cons_zero, List.getElem?_cons_succ, List.set_cons_zero, List.set_cons_succ, Nat.reduceLT, Nat.reduceAdd, Nat.reduceSub, Option.map_some, finF, outsE, e_frz, d_rng7, e_forK, e_tnN, e_tnC, e_tnB, e_tnR, e_whT, e_whF, e_Raise, e_Par, e_parK, e_parK2, e_augK, e_Ch, e_chK1, e_chK2, e_chT, e_chF, e_Try, e_tryO, e_tru, e_While, e_abs, e_max2, e_min2, e_gSq2, e_tup1, e_lst1, e_tup2, e_lst2, e_tup3, e_lst3, e_tup4, e_lst4, e_tup5, e_lst5, e_tup6, e_lst6, e_tup7, e_lst7, e_tup8, e_lst8, forL_set, e_vIc, m7, f0, f1, f2, f3]
    exact congrArg (fun z => FO.ok (.sh (.int z)) []) (by omega)
  · have f0 : ((d - 1) % 7 == w) = false := beq_false_of_ne (by omega)
    have f1 : ((d - 1 - 1) % 7 == w) = false := beq_false_of_ne (by omega)
    have f2 : ((d - 1 - 1 - 1) % 7 == w) = false := beq_false_of_ne (by omega)
    have f3 : ((d - 1 - 1 - 1 - 1) % 7 == w) = false := beq_false_of_ne (by omega)
    have f4 : ((d - 1 - 1 - 1 - 1 - 1) % 7 == w) = true := beq_iff_eq.mpr (by omega)
    simp only [startE, List.map, List.length, List.replicate, e_Seq, e_Asg, e_Ret, e_RetF, e_Expr, e_exprK, e_op, e_op2, e_op1, e_un, e_is, e_B, e_bK, e_Cons, e_consK, e_consK2, e_Nil, e_var, e_C, e_bind, e_bindX, e_bindB, e_lookS, e_lookO, M.toD, e_of, e_asgK, e_gSet, e_stK, e_sqN, e_sqR, e_sqB, e_sqC, e_sNil, e_retK, e_retFK, e_add, e_vI, e_neg, e_fInt, e_fIntB, e_sIf, e_sifT, e_sifF, e_T, e_toB, e_Tru, e_truB, e_And, e_Or, e_andT, e_andF, e_orT, e_orF, e_Not, e_notK, e_AndV, e_OrV, e_andVT, e_andVF, e_orVT, e_orVF, e_NotV, e_notVK, e_If, e_ifT, e_ifF, e_Tup, e_Lst, e_LstF, e_tup0, e_lst0, e_lstF0, e_eqI, e_neI, e_ltI, e_leI, e_gtI, e_geI, e_lenL, e_lenT, e_lenR, e_lenS, e_ixL, e_ixT, at0, at1, at2, at3, e_tupL, e_tupT, e_lstT, e_Own, e_ownK, e_Sub, e_For, e_Items, e_itL, e_itT, e_itR, e_Call, e_CallF, e_aNil, e_aVal, e_aVK, e_aVK2, step0, step1, step2, step3, out0, out1, out2, out3, outX1, outX2, outO1, outO2, outO3, e_onSh, e_onOw, decide_true, decide_false, Bool.not_true, Bool.not_false, List.cons_append, List.nil_append, List.getElem?_cons_zero, List.getElem?_cons_succ, List.set_cons_zero, List.set_cons_succ, Nat.reduceLT, Nat.reduceAdd, Nat.reduceSub, Option.map_some, finF, outsE, e_frz, d_rng7, e_forK, e_tnN, e_tnC, e_tnB, e_tnR, e_whT, e_whF, e_Raise, e_Par, e_parK, e_parK2, e_augK, e_Ch, e_chK1, e_chK2, e_chT, e_chF, e_Try, e_tryO, e_tru, e_While, e_abs, e_max2, e_min2, e_gSq2, e_tup1, e_lst1, e_tup2, e_lst2, e_tup3, e_lst3, e_tup4, e_lst4, e_tup5, e_lst5, e_tup6, e_lst6, e_tup7, e_lst7, e_tup8, e_lst8, forL_set, e_vIc, m7, f0, f1, f2, f3, f4]
    exact congrArg (fun z => FO.ok (.sh (.int z)) []) (by omega)
  · have f0 : ((d - 1) % 7 == w) = false := beq_false_of_ne (by omega)
    have f1 : ((d - 1 - 1) % 7 == w) = false := beq_false_of_ne (by omega)
    have f2 : ((d - 1 - 1 - 1) % 7 == w) = false := beq_false_of_ne (by omega)
    have f3 : ((d - 1 - 1 - 1 - 1) % 7 == w) = false := beq_false_of_ne (by omega)
    have f4 : ((d - 1 - 1 - 1 - 1 - 1) % 7 == w) = false := beq_false_of_ne (by omega)
    have f5 : ((d - 1 - 1 - 1 - 1 - 1 - 1) % 7 == w) = true := beq_iff_eq.mpr (by omega)
    simp only [startE, List.map, List.length, List.replicate, e_Seq, e_Asg, e_Ret, e_RetF, e_Expr, e_exprK, e_op, e_op2, e_op1, e_un, e_is, e_B, e_bK, e_Cons, e_consK, e_consK2, e_Nil, e_var, e_C, e_bind, e_bindX, e_bindB, e_lookS, e_lookO, M.toD, e_of, e_asgK, e_gSet, e_stK, e_sqN, e_sqR, e_sqB, e_sqC, e_sNil, e_retK, e_retFK, e_add, e_vI, e_neg, e_fInt, e_fIntB, e_sIf, e_sifT, e_sifF, e_T, e_toB, e_Tru, e_truB, e_And, e_Or, e_andT, e_andF, e_orT, e_orF, e_Not, e_notK, e_AndV, e_OrV, e_andVT, e_andVF, e_orVT, e_orVF, e_NotV, e_notVK, e_If, e_ifT, e_ifF, e_Tup, e_Lst, e_LstF, e_tup0, e_lst0, e_lstF0, e_eqI, e_neI, e_ltI, e_leI, e_gtI, e_geI, e_lenL, e_lenT, e_lenR, e_lenS, e_ixL, e_ixT, at0, at1, at2, at3, e_tupL, e_tupT, e_lstT, e_Own, e_ownK, e_Sub, e_For, e_Items, e_itL, e_itT, e_itR, e_Call, e_CallF, e_aNil, e_aVal, e_aVK, e_aVK2, step0, step1, step2, step3, out0, out1, out2, out3, outX1, outX2, outO1, outO2, outO3, e_onSh, e_onOw, decide_true, decide_false, Bool.not_true, Bool.not_false, List.cons_append, List.nil_append, List.getElem?_cons_zero, List.getElem?_cons_succ, List.set_cons_zero, List.set_cons_succ, Nat.reduceLT, Nat.reduceAdd, Nat.reduceSub, Option.map_some, finF, outsE, e_frz, d_rng7, e_forK, e_tnN, e_tnC, e_tnB, e_tnR, e_whT, e_whF, e_Raise, e_Par, e_parK, e_parK2, e_augK, e_Ch, e_chK1, e_chK2, e_chT, e_chF, e_Try, e_tryO, e_tru, e_While, e_abs, e_max2, e_min2, e_gSq2, e_tup1, e_lst1, e_tup2, e_lst2, e_tup3, e_lst3, e_tup4, e_lst4, e_tup5, e_lst5, e_tup6, e_lst6, e_tup7, e_lst7, e_tup8, e_lst8, forL_set, e_vIc, m7, f0, f1, f2, f3, f4, f5]
    exact congrArg (fun z => FO.ok (.sh (.int z)) []) (by omega)
  · have f0 : ((d - 1) % 7 == w) = false := beq_false_of_ne (by omega)
    have f1 : ((d - 1 - 1) % 7 == w) = false := beq_false_of_ne (by omega)
    have f2 : ((d - 1 - 1 - 1) % 7 == w) = false := beq_false_of_ne (by omega)
    have f3 : ((d - 1 - 1 - 1 - 1) % 7 == w) = false := beq_false_of_ne (by omega)
    have f4 : ((d - 1 - 1 - 1 - 1 - 1) % 7 == w) = false := beq_false_of_ne (by omega)
    have f5 : ((d - 1 - 1 - 1 - 1 - 1 - 1) % 7 == w) = false := beq_false_of_ne (by omega)
    have f6 : ((d - 1 - 1 - 1 - 1 - 1 - 1 - 1) % 7 == w) = true := beq_iff_eq.mpr (by omega)
    simp only [startE, List.map, List.length, List.replicate, e_Seq, e_Asg, e_Ret, e_RetF, e_Expr, e_exprK, e_op, e_op2, e_op1, e_un, e_is, e_B, e_bK, e_Cons, e_consK, e_consK2, e_Nil, e_var, e_C, e_bind, e_bindX, e_bindB, e_lookS, e_lookO, M.toD, e_of, e_asgK, e_gSet, e_stK, e_sqN, e_sqR, e_sqB, e_sqC, e_sNil, e_retK, e_retFK, e_add, e_vI, e_neg, e_fInt, e_fIntB, e_sIf, e_sifT, e_sifF, e_T, e_toB, e_Tru, e_truB, e_And, e_Or, e_andT, e_andF, e_orT, e_orF, e_Not, e_notK, e_AndV, e_OrV, e_andVT, e_andVF, e_orVT, e_orVF, e_NotV, e_notVK, e_If, e_ifT, e_ifF, e_Tup, e_Lst, e_LstF, e_tup0, e_lst0, e_lstF0, e_eqI, e_neI, e_ltI, e_leI, e_gtI, e_geI, e_lenL, e_lenT, e_lenR, e_lenS, e_ixL, e_ixT, at0, at1, at2, at3, e_tupL, e_tupT, e_lstT, e_Own, e_ownK, e_Sub, e_For, e_Items, e_itL, e_itT, e_itR, e_Call, e_CallF, e_aNil, e_aVal, e_aVK, e_aVK2, step0, step1, step2, step3, out0, out1, out2, out3, outX1, outX2, outO1, outO2, outO3, e_onSh, e_onOw, decide_true, decide_false, Bool.not_true, Bool.not_false, List.cons_append, List.nil_append, List.getElem?_cons_zero, List.getElem?_cons_succ, List.set_cons_zero, List.set_cons_succ, Nat.reduceLT, Nat.reduceAdd, Nat.reduceSub, Option.map_some, finF, outsE, e_frz, d_rng7, e_forK, e_tnN, e_tnC, e_tnB, e_tnR, e_whT, e_whF, e_Raise, e_Par, e_parK, e_parK2, e_augK, e_Ch, e_chK1, e_chK2, e_chT, e_chF, e_Try, e_tryO, e_tru, e_While, e_abs, e_max2, e_min2, e_gSq2, e_tup1, e_lst1, e_tup2, e_lst2, e_tup3, e_lst3, e_tup4, e_lst4, e_tup5, e_lst5, e_tup6, e_lst6, e_tup7, e_lst7, e_tup8, e_lst8, forL_set, e_vIc, m7, f0, f1, f2, f3, f4, f5, f6]
    exact congrArg (fun z => FO.ok (.sh (.int z)) []) (by omega)

theorem law_saw_ok (w m : Int) (h0 : 0 ≤ w) (h6 : w ≤ 6) : m__law_saw [.sh (.int w), .sh (.int m)] = .ok (.sh (tupI (saws w m))) [] := by
  refine (e_run [] 3 _ _ rfl).trans ?_
  unfold b__law_saw
  have hc := lc_mapI (ρ := [some (.sh (.int w)), some (.sh (.int m)), none]) (i := 2) (ns := [0, 1, 2, 3, 4, 5, 6]) (di := dRng1 (dC (.int 7)))
    (te := dSub (dCall m__law_coming (aVal (dAdd (dVar 2) (dVar 1)) (aVal (dVar 0) (aNil)))) (dVar 2)) (sawAt w m) (d_rng7 _) rfl (fun n _ => by
      simp only [startE, List.map, List.length, List.replicate, e_Seq, e_Asg, e_Ret, e_RetF, e_Expr, e_exprK, e_op, e_op2, e_op1, e_un, e_is, e_B, e_bK, e_Cons, e_consK, e_consK2, e_Nil, e_var, e_C, e_bind, e_bindX, e_bindB, e_lookS, e_lookO, M.toD, e_of, e_asgK, e_gSet, e_stK, e_sqN, e_sqR, e_sqB, e_sqC, e_sNil, e_retK, e_retFK, e_add, e_vI, e_neg, e_fInt, e_fIntB, e_sIf, e_sifT, e_sifF, e_T, e_toB, e_Tru, e_truB, e_And, e_Or, e_andT, e_andF, e_orT, e_orF, e_Not, e_notK, e_AndV, e_OrV, e_andVT, e_andVF, e_orVT, e_orVF, e_NotV, e_notVK, e_If, e_ifT, e_ifF, e_Tup, e_Lst, e_LstF, e_tup0, e_lst0, e_lstF0, e_eqI, e_neI, e_ltI, e_leI, e_gtI, e_geI, e_lenL, e_lenT, e_lenR, e_lenS, e_ixL, e_ixT, at0, at1, at2, at3, e_tupL, e_tupT, e_lstT, e_Own, e_ownK, e_Sub, e_For, e_Items, e_itL, e_itT, e_itR, e_Call, e_CallF, e_aNil, e_aVal, e_aVK, e_aVK2, step0, step1, step2, step3, out0, out1, out2, out3, outX1, outX2, outO1, outO2, outO3, e_onSh, e_onOw, decide_true, decide_false, Bool.not_true, Bool.not_false, List.cons_append, List.nil_append, List.getElem?_cons_zero, List.getElem?_cons_succ, List.set_cons_zero, List.set_cons_succ, Nat.reduceLT, Nat.reduceAdd, Nat.reduceSub, Option.map_some, finF, outsE, e_frz, d_rng7, e_forK, e_tnN, e_tnC, e_tnB, e_tnR, e_whT, e_whF, e_Raise, e_Par, e_parK, e_parK2, e_augK, e_Ch, e_chK1, e_chK2, e_chT, e_chF, e_Try, e_tryO, e_tru, e_While, e_abs, e_max2, e_min2, e_gSq2, e_tup1, e_lst1, e_tup2, e_lst2, e_tup3, e_lst3, e_tup4, e_lst4, e_tup5, e_lst5, e_tup6, e_lst6, e_tup7, e_lst7, e_tup8, e_lst8, coming_ok _ _ h0 h6]
      exact congrArg (fun z => R.ok (D.int z) _) (by unfold sawAt; omega)) (by decide)
  simp only [startE, List.map, List.length, List.replicate, e_Seq, e_Asg, e_Ret, e_RetF, e_Expr, e_exprK, e_op, e_op2, e_op1, e_un, e_is, e_B, e_bK, e_Cons, e_consK, e_consK2, e_Nil, e_var, e_C, e_bind, e_bindX, e_bindB, e_lookS, e_lookO, M.toD, e_of, e_asgK, e_gSet, e_stK, e_sqN, e_sqR, e_sqB, e_sqC, e_sNil, e_retK, e_retFK, e_add, e_vI, e_neg, e_fInt, e_fIntB, e_sIf, e_sifT, e_sifF, e_T, e_toB, e_Tru, e_truB, e_And, e_Or, e_andT, e_andF, e_orT, e_orF, e_Not, e_notK, e_AndV, e_OrV, e_andVT, e_andVF, e_orVT, e_orVF, e_NotV, e_notVK, e_If, e_ifT, e_ifF, e_Tup, e_Lst, e_LstF, e_tup0, e_lst0, e_lstF0, e_eqI, e_neI, e_ltI, e_leI, e_gtI, e_geI, e_lenL, e_lenT, e_lenR, e_lenS, e_ixL, e_ixT, at0, at1, at2, at3, e_tupL, e_tupT, e_lstT, e_Own, e_ownK, e_Sub, e_For, e_Items, e_itL, e_itT, e_itR, e_Call, e_CallF, e_aNil, e_aVal, e_aVK, e_aVK2, step0, step1, step2, step3, out0, out1, out2, out3, outX1, outX2, outO1, outO2, outO3, e_onSh, e_onOw, decide_true, decide_false, Bool.not_true, Bool.not_false, List.cons_append, List.nil_append, List.getElem?_cons_zero, List.getElem?_cons_succ, List.set_cons_zero, List.set_cons_succ, Nat.reduceLT, Nat.reduceAdd, Nat.reduceSub, Option.map_some, finF, outsE, e_frz, d_rng7, e_forK, e_tnN, e_tnC, e_tnB, e_tnR, e_whT, e_whF, e_Raise, e_Par, e_parK, e_parK2, e_augK, e_Ch, e_chK1, e_chK2, e_chT, e_chF, e_Try, e_tryO, e_tru, e_While, e_abs, e_max2, e_min2, e_gSq2, e_tup1, e_lst1, e_tup2, e_lst2, e_tup3, e_lst3, e_tup4, e_lst4, e_tup5, e_lst5, e_tup6, e_lst6, e_tup7, e_lst7, e_tup8, e_lst8, hc, tupI, saws]
theorem ev_min (k : Int) : fMin [tupI (evens k)] = some (.int k) := (t_min k _).trans (congrArg (fun z => some (D.int z)) (minI_eq List.mem_cons_self fun y hy => by
  simp only [List.mem_cons, List.not_mem_nil, or_false] at hy; omega))
theorem ev_max (k : Int) : fMax [tupI (evens k)] = some (.int k) := (t_max k _).trans (congrArg (fun z => some (D.int z)) (maxI_eq List.mem_cons_self fun y hy => by
  simp only [List.mem_cons, List.not_mem_nil, or_false] at hy; omega))
theorem sw_min (w m : Int) : fMin [tupI (saws w m)] = some (.int (m + 1)) := (t_min _ _).trans (congrArg (fun z => some (D.int z)) (saws_min w m))
theorem sw_max (w m : Int) : fMax [tupI (saws w m)] = some (.int (m + 7)) := (t_max _ _).trans (congrArg (fun z => some (D.int z)) (saws_max w m))
theorem ev_len (k : Int) : (evens k).length = 7 := rfl
theorem sw_len (w m : Int) : (saws w m).length = 7 := rfl
theorem ix_ev0 (k : Int) : vIxI (tupI (evens k)) (.int 0) = some (.int k) := t_ix (Sh.atI (.ev k) (by decide))
theorem ix_sw0 (w m : Int) : vIxI (tupI (saws w m)) (.int 0) = some (.int (sawAt w m 0)) := t_ix (Sh.atI (.sw w m) (by decide))
theorem sw_m0 (w m : Int) (h0 : 0 ≤ w) (h6 : w ≤ 6) : sawAt w m 0 % 7 = w := by have := sawAt_mod w m 0 h0 h6; rwa [Int.zero_add] at this
theorem m7 (i : Int) : cMod i 7 = true := cMod_p (by decide)
theorem n77 : (((7 : Nat) : Int) == 7) = true := by decide
theorem bsub (m : Int) : m + 1 - 1 = m := by omega
theorem ne17 (m : Int) : (m + 1 == m + 7) = false := beq_false_of_ne (by omega)
theorem wholes (l : List Int) (x : DV) : fLc (dItems (dVar 0)) (gSet 3) dYes (dCall m_is_whole (aVal (dVar 3) (aNil))) [3] [some (.sh (tupI l)), none, none, none] = if l.length ≤ sizeLine then .ok (.lst (l.map fun _ => D.bl true)) [some (.sh (tupI l)), none, none, none] else fLc (dItems (dVar 0)) (gSet 3) dYes (dCall m_is_whole (aVal (dVar 3) (aNil))) [3] [some (.sh (tupI l)), none, none, none] := by
  split
  · rename_i hz
    refine (lc_map (ds := l.map D.int) (fun _ => D.bl true) rfl rfl (fun d hd => ?_) (by rw [List.length_map]; exact hz)).trans ?_
    · obtain ⟨n, _, rfl⟩ := List.mem_map.mp hd
      simp only [startE, List.map, List.length, List.replicate, e_Seq, e_Asg, e_Ret, e_RetF, e_Expr, e_exprK, e_op, e_op2, e_op1, e_un, e_is, e_B, e_bK, e_Cons, e_consK, e_consK2, e_Nil, e_var, e_C, e_bind, e_bindX, e_bindB, e_lookS, e_lookO, M.toD, e_of, e_asgK, e_gSet, e_stK, e_sqN, e_sqR, e_sqB, e_sqC, e_sNil, e_retK, e_retFK, e_add, e_vI, e_neg, e_fInt, e_fIntB, e_sIf, e_sifT, e_sifF, e_T, e_toB, e_Tru, e_truB, e_And, e_Or, e_andT, e_andF, e_orT, e_orF, e_Not, e_notK, e_AndV, e_OrV, e_andVT, e_andVF, e_orVT, e_orVF, e_NotV, e_notVK, e_If, e_ifT, e_ifF, e_Tup, e_Lst, e_LstF, e_tup0, e_lst0, e_lstF0, e_eqI, e_neI, e_ltI, e_leI, e_gtI, e_geI, e_lenL, e_lenT, e_lenR, e_lenS, e_ixL, e_ixT, at0, at1, at2, at3, e_tupL, e_tupT, e_lstT, e_Own, e_ownK, e_Sub, e_For, e_Items, e_itL, e_itT, e_itR, e_Call, e_CallF, e_aNil, e_aVal, e_aVK, e_aVK2, step0, step1, step2, step3, out0, out1, out2, out3, outX1, outX2, outO1, outO2, outO3, e_onSh, e_onOw, decide_true, decide_false, Bool.not_true, Bool.not_false, List.cons_append, List.nil_append, List.getElem?_cons_zero, List.getElem?_cons_succ, List.set_cons_zero, List.set_cons_succ, Nat.reduceLT, Nat.reduceAdd, Nat.reduceSub, Option.map_some, finF, outsE, e_frz, d_rng7, e_forK, e_tnN, e_tnC, e_tnB, e_tnR, e_whT, e_whF, e_Raise, e_Par, e_parK, e_parK2, e_augK, e_Ch, e_chK1, e_chK2, e_chT, e_chF, e_Try, e_tryO, e_tru, e_While, e_abs, e_max2, e_min2, e_gSq2, e_tup1, e_lst1, e_tup2, e_lst2, e_tup3, e_lst3, e_tup4, e_lst4, e_tup5, e_lst5, e_tup6, e_lst6, e_tup7, e_lst7, e_tup8, e_lst8, is_whole_ok]
    · rw [List.map_map]; rfl
  · rfl
theorem seven_line : (7 : Nat) ≤ sizeLine := by rw [sizeLine_eq]; decide
theorem shape2_ok {s : Sh} {B : Int} (h : s.fit B) : m_shape_of_sevens [.sh (tupI s.lst)] = .ok (.sh s.d) [] := by
  have hc := wholes s.lst (.sh .non)
  rw [if_pos (by rw [s.len]; exact seven_line)] at hc
  refine (e_run [] 4 _ _ rfl).trans ?_
  unfold b_shape_of_sevens
  cases s with
  | ev k =>
    simp only [Sh.lst] at hc
    simp only [startE, List.map, List.length, List.replicate, e_Seq, e_Asg, e_Ret, e_RetF, e_Expr, e_exprK, e_op, e_op2, e_op1, e_un, e_is, e_B, e_bK, e_Cons, e_consK, e_consK2, e_Nil, e_var, e_C, e_bind, e_bindX, e_bindB, e_lookS, e_lookO, M.toD, e_of, e_asgK, e_gSet, e_stK, e_sqN, e_sqR, e_sqB, e_sqC, e_sNil, e_retK, e_retFK, e_add, e_vI, e_neg, e_fInt, e_fIntB, e_sIf, e_sifT, e_sifF, e_T, e_toB, e_Tru, e_truB, e_And, e_Or, e_andT, e_andF, e_orT, e_orF, e_Not, e_notK, e_AndV, e_OrV, e_andVT, e_andVF, e_orVT, e_orVF, e_NotV, e_notVK, e_If, e_ifT, e_ifF, e_Tup, e_Lst, e_LstF, e_tup0, e_lst0, e_lstF0, e_eqI, e_neI, e_ltI, e_leI, e_gtI, e_geI, e_lenL, e_lenT, e_lenR, e_lenS, e_ixL, e_ixT, at0, at1, at2, at3, e_tupL, e_tupT, e_lstT, e_Own, e_ownK, e_Sub, e_For, e_Items, e_itL, e_itT, e_itR, e_Call, e_CallF, e_aNil, e_aVal, e_aVK, e_aVK2, step0, step1, step2, step3, out0, out1, out2, out3, outX1, outX2, outO1, outO2, outO3, e_onSh, e_onOw, decide_true, decide_false, Bool.not_true, Bool.not_false, List.cons_append, List.nil_append, List.getElem?_cons_zero, List.getElem?_cons_succ, List.set_cons_zero, List.set_cons_succ, Nat.reduceLT, Nat.reduceAdd, Nat.reduceSub, Option.map_some, finF, outsE, e_frz, d_rng7, e_forK, e_tnN, e_tnC, e_tnB, e_tnR, e_whT, e_whF, e_Raise, e_Par, e_parK, e_parK2, e_augK, e_Ch, e_chK1, e_chK2, e_chT, e_chF, e_Try, e_tryO, e_tru, e_While, e_abs, e_max2, e_min2, e_gSq2, e_tup1, e_lst1, e_tup2, e_lst2, e_tup3, e_lst3, e_tup4, e_lst4, e_tup5, e_lst5, e_tup6, e_lst6, e_tup7, e_lst7, e_tup8, e_lst8, t_fld, t_eq, t_ne, t_len, t_is, t_itm, t_of, t_of2, t_lst, Sh.lst, Sh.d, hc, t_all, ev_min, ev_max, ev_len, n77, beq_self_eq_true, evenD]
  | sw w m =>
    obtain ⟨h0, h6, _, _⟩ := h
    simp only [Sh.lst] at hc
    simp only [startE, List.map, List.length, List.replicate, e_Seq, e_Asg, e_Ret, e_RetF, e_Expr, e_exprK, e_op, e_op2, e_op1, e_un, e_is, e_B, e_bK, e_Cons, e_consK, e_consK2, e_Nil, e_var, e_C, e_bind, e_bindX, e_bindB, e_lookS, e_lookO, M.toD, e_of, e_asgK, e_gSet, e_stK, e_sqN, e_sqR, e_sqB, e_sqC, e_sNil, e_retK, e_retFK, e_add, e_vI, e_neg, e_fInt, e_fIntB, e_sIf, e_sifT, e_sifF, e_T, e_toB, e_Tru, e_truB, e_And, e_Or, e_andT, e_andF, e_orT, e_orF, e_Not, e_notK, e_AndV, e_OrV, e_andVT, e_andVF, e_orVT, e_orVF, e_NotV, e_notVK, e_If, e_ifT, e_ifF, e_Tup, e_Lst, e_LstF, e_tup0, e_lst0, e_lstF0, e_eqI, e_neI, e_ltI, e_leI, e_gtI, e_geI, e_lenL, e_lenT, e_lenR, e_lenS, e_ixL, e_ixT, at0, at1, at2, at3, e_tupL, e_tupT, e_lstT, e_Own, e_ownK, e_Sub, e_For, e_Items, e_itL, e_itT, e_itR, e_Call, e_CallF, e_aNil, e_aVal, e_aVK, e_aVK2, step0, step1, step2, step3, out0, out1, out2, out3, outX1, outX2, outO1, outO2, outO3, e_onSh, e_onOw, decide_true, decide_false, Bool.not_true, Bool.not_false, List.cons_append, List.nil_append, List.getElem?_cons_zero, List.getElem?_cons_succ, List.set_cons_zero, List.set_cons_succ, Nat.reduceLT, Nat.reduceAdd, Nat.reduceSub, Option.map_some, finF, outsE, e_frz, d_rng7, e_forK, e_tnN, e_tnC, e_tnB, e_tnR, e_whT, e_whF, e_Raise, e_Par, e_parK, e_parK2, e_augK, e_Ch, e_chK1, e_chK2, e_chT, e_chF, e_Try, e_tryO, e_tru, e_While, e_abs, e_max2, e_min2, e_gSq2, e_tup1, e_lst1, e_tup2, e_lst2, e_tup3, e_lst3, e_tup4, e_lst4, e_tup5, e_lst5, e_tup6, e_lst6, e_tup7, e_lst7, e_tup8, e_lst8, t_fld, t_eq, t_ne, t_len, t_is, t_itm, t_of, t_of2, t_lst, Sh.lst, Sh.d, hc, t_all, sw_min, sw_max, sw_len, n77, ne17, bsub, e_vIc, m7, ix_sw0, sw_m0 w m h0 h6, saw_sevens_ok, sawD]
theorem whole_loop (p : DV) (c : Option DV) : ∀ (l : List Int) (x : Option DV), ∃ y, forL (gSet 1) (sIf (dNot (dTru (dCall m__law_whole (aVal (dVar 1) (aNil))))) (sRet (dC .non)) (sNil)) (l.map D.int) [some p, x, c, c] = .ok .nx [some p, y, c, c]
  | [], x => ⟨x, rfl⟩
  | n :: l, x => by
    obtain ⟨y, hy⟩ := whole_loop p c l (some (.sh (.int n)))
    refine ⟨y, ?_⟩
    rw [← hy]
    simp only [startE, List.map, List.length, List.replicate, e_Seq, e_Asg, e_Ret, e_RetF, e_Expr, e_exprK, e_op, e_op2, e_op1, e_un, e_is, e_B, e_bK, e_Cons, e_consK, e_consK2, e_Nil, e_var, e_C, e_bind, e_bindX, e_bindB, e_lookS, e_lookO, M.toD, e_of, e_asgK, e_gSet, e_stK, e_sqN, e_sqR, e_sqB, e_sqC, e_sNil, e_retK, e_retFK, e_add, e_vI, e_neg, e_fInt, e_fIntB, e_sIf, e_sifT, e_sifF, e_T, e_toB, e_Tru, e_truB, e_And, e_Or, e_andT, e_andF, e_orT, e_orF, e_Not, e_notK, e_AndV, e_OrV, e_andVT, e_andVF, e_orVT, e_orVF, e_NotV, e_notVK, e_If, e_ifT, e_ifF, e_Tup, e_Lst, e_LstF, e_tup0, e_lst0, e_lstF0, e_eqI, e_neI, e_ltI, e_leI, e_gtI, e_geI, e_lenL, e_lenT, e_lenR, e_lenS, e_ixL, e_ixT, at0, at1, at2, at3, e_tupL, e_tupT, e_lstT, e_Own, e_ownK, e_Sub, e_For, e_Items, e_itL, e_itT, e_itR, e_Call, e_CallF, e_aNil, e_aVal, e_aVK, e_aVK2, step0, step1, step2, step3, out0, out1, out2, out3, outX1, outX2, outO1, outO2, outO3, e_onSh, e_onOw, decide_true, decide_false, Bool.not_true, Bool.not_false, List.cons_append, List.nil_append, List.getElem?_cons_zero, List.getElem?_cons_succ, List.set_cons_zero, List.set_cons_succ, Nat.reduceLT, Nat.reduceAdd, Nat.reduceSub, Option.map_some, finF, outsE, e_frz, d_rng7, e_forK, e_tnN, e_tnC, e_tnB, e_tnR, e_whT, e_whF, e_Raise, e_Par, e_parK, e_parK2, e_augK, e_Ch, e_chK1, e_chK2, e_chT, e_chF, e_Try, e_tryO, e_tru, e_While, e_abs, e_max2, e_min2, e_gSq2, e_tup1, e_lst1, e_tup2, e_lst2, e_tup3, e_lst3, e_tup4, e_lst4, e_tup5, e_lst5, e_tup6, e_lst6, e_tup7, e_lst7, e_tup8, e_lst8, forL_set, lwhole_i]
theorem shape_ok {s : Sh} {B : Int} (h : s.fit B) : m__law_shape [.sh (tupI s.lst)] = .ok (.sh s.d) [] := by
  refine (e_run [] 4 _ _ rfl).trans ?_
  unfold b__law_shape
  obtain ⟨y, hy⟩ := whole_loop (.sh (tupI s.lst)) none s.lst none
  cases s with
  | ev k =>
    simp only [Sh.lst] at hy
    simp only [startE, List.map, List.length, List.replicate, e_Seq, e_Asg, e_Ret, e_RetF, e_Expr, e_exprK, e_op, e_op2, e_op1, e_un, e_is, e_B, e_bK, e_Cons, e_consK, e_consK2, e_Nil, e_var, e_C, e_bind, e_bindX, e_bindB, e_lookS, e_lookO, M.toD, e_of, e_asgK, e_gSet, e_stK, e_sqN, e_sqR, e_sqB, e_sqC, e_sNil, e_retK, e_retFK, e_add, e_vI, e_neg, e_fInt, e_fIntB, e_sIf, e_sifT, e_sifF, e_T, e_toB, e_Tru, e_truB, e_And, e_Or, e_andT, e_andF, e_orT, e_orF, e_Not, e_notK, e_AndV, e_OrV, e_andVT, e_andVF, e_orVT, e_orVF, e_NotV, e_notVK, e_If, e_ifT, e_ifF, e_Tup, e_Lst, e_LstF, e_tup0, e_lst0, e_lstF0, e_eqI, e_neI, e_ltI, e_leI, e_gtI, e_geI, e_lenL, e_lenT, e_lenR, e_lenS, e_ixL, e_ixT, at0, at1, at2, at3, e_tupL, e_tupT, e_lstT, e_Own, e_ownK, e_Sub, e_For, e_Items, e_itL, e_itT, e_itR, e_Call, e_CallF, e_aNil, e_aVal, e_aVK, e_aVK2, step0, step1, step2, step3, out0, out1, out2, out3, outX1, outX2, outO1, outO2, outO3, e_onSh, e_onOw, decide_true, decide_false, Bool.not_true, Bool.not_false, List.cons_append, List.nil_append, List.getElem?_cons_zero, List.getElem?_cons_succ, List.set_cons_zero, List.set_cons_succ, Nat.reduceLT, Nat.reduceAdd, Nat.reduceSub, Option.map_some, finF, outsE, e_frz, d_rng7, e_forK, e_tnN, e_tnC, e_tnB, e_tnR, e_whT, e_whF, e_Raise, e_Par, e_parK, e_parK2, e_augK, e_Ch, e_chK1, e_chK2, e_chT, e_chF, e_Try, e_tryO, e_tru, e_While, e_abs, e_max2, e_min2, e_gSq2, e_tup1, e_lst1, e_tup2, e_lst2, e_tup3, e_lst3, e_tup4, e_lst4, e_tup5, e_lst5, e_tup6, e_lst6, e_tup7, e_lst7, e_tup8, e_lst8, t_fld, t_eq, t_ne, t_len, t_is, t_itm, t_of, t_of2, t_lst, Sh.lst, Sh.d, hy, ev_len, n77, ix_ev0, even_ok, evenD]
  | sw w m =>
    obtain ⟨h0, h6, _, _⟩ := h
    simp only [Sh.lst] at hy
    have hn : decide (saws w m = evens (sawAt w m 0)) = false := decide_eq_false (saws_ne w m _)
    simp only [startE, List.map, List.length, List.replicate, e_Seq, e_Asg, e_Ret, e_RetF, e_Expr, e_exprK, e_op, e_op2, e_op1, e_un, e_is, e_B, e_bK, e_Cons, e_consK, e_consK2, e_Nil, e_var, e_C, e_bind, e_bindX, e_bindB, e_lookS, e_lookO, M.toD, e_of, e_asgK, e_gSet, e_stK, e_sqN, e_sqR, e_sqB, e_sqC, e_sNil, e_retK, e_retFK, e_add, e_vI, e_neg, e_fInt, e_fIntB, e_sIf, e_sifT, e_sifF, e_T, e_toB, e_Tru, e_truB, e_And, e_Or, e_andT, e_andF, e_orT, e_orF, e_Not, e_notK, e_AndV, e_OrV, e_andVT, e_andVF, e_orVT, e_orVF, e_NotV, e_notVK, e_If, e_ifT, e_ifF, e_Tup, e_Lst, e_LstF, e_tup0, e_lst0, e_lstF0, e_eqI, e_neI, e_ltI, e_leI, e_gtI, e_geI, e_lenL, e_lenT, e_lenR, e_lenS, e_ixL, e_ixT, at0, at1, at2, at3, e_tupL, e_tupT, e_lstT, e_Own, e_ownK, e_Sub, e_For, e_Items, e_itL, e_itT, e_itR, e_Call, e_CallF, e_aNil, e_aVal, e_aVK, e_aVK2, step0, step1, step2, step3, out0, out1, out2, out3, outX1, outX2, outO1, outO2, outO3, e_onSh, e_onOw, decide_true, decide_false, Bool.not_true, Bool.not_false, List.cons_append, List.nil_append, List.getElem?_cons_zero, List.getElem?_cons_succ, List.set_cons_zero, List.set_cons_succ, Nat.reduceLT, Nat.reduceAdd, Nat.reduceSub, Option.map_some, finF, outsE, e_frz, d_rng7, e_forK, e_tnN, e_tnC, e_tnB, e_tnR, e_whT, e_whF, e_Raise, e_Par, e_parK, e_parK2, e_augK, e_Ch, e_chK1, e_chK2, e_chT, e_chF, e_Try, e_tryO, e_tru, e_While, e_abs, e_max2, e_min2, e_gSq2, e_tup1, e_lst1, e_tup2, e_lst2, e_tup3, e_lst3, e_tup4, e_lst4, e_tup5, e_lst5, e_tup6, e_lst6, e_tup7, e_lst7, e_tup8, e_lst8, t_fld, t_eq, t_ne, t_len, t_is, t_itm, t_of, t_of2, t_lst, Sh.lst, Sh.d, hy, sw_len, n77, ix_sw0, even_ok, hn, e_vIc, m7, sw_m0 w m h0 h6, sw_min, bsub, law_saw_ok w m h0 h6, sawD]
/-! ### hops -/
def wordD : Hop → D
  | .pl k => .tup [.str "today", .int k]
  | h => h.d
def HopW : Hop → Prop
  | .pl _ => True
  | h => h.fit
theorem cnt_pl (d k : Int) : m__law_counted [.sh (.int d), .sh (.tup [.str "today", .int k])] = .ok (.sh (.int (d + k))) [] := by kernel_rfl
theorem s_cc : CK.f .eq (.str "coming") (.str "coming") = some (.bl true) := by kernel_rfl
theorem s_lc : CK.f .eq (.str "last") (.str "coming") = some (.bl false) := by kernel_rfl
theorem s_lt : CK.f .eq (.str "last") (.str "then coming") = some (.bl false) := by kernel_rfl
theorem s_ll : CK.f .eq (.str "last") (.str "last") = some (.bl true) := by kernel_rfl
theorem s_pp : CK.f .eq (.str "plus") (.str "plus") = some (.bl true) := by kernel_rfl
theorem s_cp : CK.f .eq (.str "coming") (.str "plus") = some (.bl false) := by kernel_rfl
theorem s_lp : CK.f .eq (.str "last") (.str "plus") = some (.bl false) := by kernel_rfl
theorem i_c : CK.f .in_ (.str "coming") (.lst [.str "coming", .str "last"]) = some (.bl true) := by kernel_rfl
theorem i_l : CK.f .in_ (.str "last") (.lst [.str "coming", .str "last"]) = some (.bl true) := by kernel_rfl
theorem counted_ok {h : Hop} (hh : HopW h) (d : Int) : m__law_counted [.sh (.int d), .sh (wordD h)] = .ok (.sh (.int (h.on d))) [] := by
  cases h with
  | pl k => exact cnt_pl d k
  | co w =>
    obtain ⟨h0, h6⟩ := hh
    refine (e_run [] 2 _ _ rfl).trans ?_
    unfold b__law_counted
    simp only [startE, List.map, List.length, List.replicate, e_Seq, e_Asg, e_Ret, e_RetF, e_Expr, e_exprK, e_op, e_op2, e_op1, e_un, e_is, e_B, e_bK, e_Cons, e_consK, e_consK2, e_Nil, e_var, e_C, e_bind, e_bindX, e_bindB, e_lookS, e_lookO, M.toD, e_of, e_asgK, e_gSet, e_stK, e_sqN, e_sqR, e_sqB, e_sqC, e_sNil, e_retK, e_retFK, e_add, e_vI, e_neg, e_fInt, e_fIntB, e_sIf, e_sifT, e_sifF, e_T, e_toB, e_Tru, e_truB, e_And, e_Or, e_andT, e_andF, e_orT, e_orF, e_Not, e_notK, e_AndV, e_OrV, e_andVT, e_andVF, e_orVT, e_orVF, e_NotV, e_notVK, e_If, e_ifT, e_ifF, e_Tup, e_Lst, e_LstF, e_tup0, e_lst0, e_lstF0, e_eqI, e_neI, e_ltI, e_leI, e_gtI, e_geI, e_lenL, e_lenT, e_lenR, e_lenS, e_ixL, e_ixT, at0, at1, at2, at3, e_tupL, e_tupT, e_lstT, e_Own, e_ownK, e_Sub, e_For, e_Items, e_itL, e_itT, e_itR, e_Call, e_CallF, e_aNil, e_aVal, e_aVK, e_aVK2, step0, step1, step2, step3, out0, out1, out2, out3, outX1, outX2, outO1, outO2, outO3, e_onSh, e_onOw, decide_true, decide_false, Bool.not_true, Bool.not_false, List.cons_append, List.nil_append, List.getElem?_cons_zero, List.getElem?_cons_succ, List.set_cons_zero, List.set_cons_succ, Nat.reduceLT, Nat.reduceAdd, Nat.reduceSub, Option.map_some, finF, outsE, e_frz, d_rng7, e_forK, e_tnN, e_tnC, e_tnB, e_tnR, e_whT, e_whF, e_Raise, e_Par, e_parK, e_parK2, e_augK, e_Ch, e_chK1, e_chK2, e_chT, e_chF, e_Try, e_tryO, e_tru, e_While, e_abs, e_max2, e_min2, e_gSq2, e_tup1, e_lst1, e_tup2, e_lst2, e_tup3, e_lst3, e_tup4, e_lst4, e_tup5, e_lst5, e_tup6, e_lst6, e_tup7, e_lst7, e_tup8, e_lst8, wordD, Hop.d, s_cc, coming_ok d w h0 h6, Hop.on]
  | la w =>
    obtain ⟨h0, h6⟩ := hh
    refine (e_run [] 2 _ _ rfl).trans ?_
    unfold b__law_counted
    simp only [startE, List.map, List.length, List.replicate, e_Seq, e_Asg, e_Ret, e_RetF, e_Expr, e_exprK, e_op, e_op2, e_op1, e_un, e_is, e_B, e_bK, e_Cons, e_consK, e_consK2, e_Nil, e_var, e_C, e_bind, e_bindX, e_bindB, e_lookS, e_lookO, M.toD, e_of, e_asgK, e_gSet, e_stK, e_sqN, e_sqR, e_sqB, e_sqC, e_sNil, e_retK, e_retFK, e_add, e_vI, e_neg, e_fInt, e_fIntB, e_sIf, e_sifT, e_sifF, e_T, e_toB, e_Tru, e_truB, e_And, e_Or, e_andT, e_andF, e_orT, e_orF, e_Not, e_notK, e_AndV, e_OrV, e_andVT, e_andVF, e_orVT, e_orVF, e_NotV, e_notVK, e_If, e_ifT, e_ifF, e_Tup, e_Lst, e_LstF, e_tup0, e_lst0, e_lstF0, e_eqI, e_neI, e_ltI, e_leI, e_gtI, e_geI, e_lenL, e_lenT, e_lenR, e_lenS, e_ixL, e_ixT, at0, at1, at2, at3, e_tupL, e_tupT, e_lstT, e_Own, e_ownK, e_Sub, e_For, e_Items, e_itL, e_itT, e_itR, e_Call, e_CallF, e_aNil, e_aVal, e_aVK, e_aVK2, step0, step1, step2, step3, out0, out1, out2, out3, outX1, outX2, outO1, outO2, outO3, e_onSh, e_onOw, decide_true, decide_false, Bool.not_true, Bool.not_false, List.cons_append, List.nil_append, List.getElem?_cons_zero, List.getElem?_cons_succ, List.set_cons_zero, List.set_cons_succ, Nat.reduceLT, Nat.reduceAdd, Nat.reduceSub, Option.map_some, finF, outsE, e_frz, d_rng7, e_forK, e_tnN, e_tnC, e_tnB, e_tnR, e_whT, e_whF, e_Raise, e_Par, e_parK, e_parK2, e_augK, e_Ch, e_chK1, e_chK2, e_chT, e_chF, e_Try, e_tryO, e_tru, e_While, e_abs, e_max2, e_min2, e_gSq2, e_tup1, e_lst1, e_tup2, e_lst2, e_tup3, e_lst3, e_tup4, e_lst4, e_tup5, e_lst5, e_tup6, e_lst6, e_tup7, e_lst7, e_tup8, e_lst8, wordD, Hop.d, s_lc, s_lt, s_ll, last_ok d w h0 h6, Hop.on]
theorem hop_w {h : Hop} (hh : h.fit) : HopW h := by cases h <;> first | trivial | exact hh
end L20
set_option Elab.async false
set_option linter.all false
set_option maxRecDepth 100000
set_option maxHeartbeats 4000000
namespace L20
open PySem L2 Rf Sv
/-! ### a thing is like itself -/
mutual
def okD : D → Bool
  | .non => true
  | .bl _ => true
  | .int _ => true
  | .str x => PyData.strOk x
  | .tup ds => okL ds
  | .lst ds => okL ds
  | _ => false
def okL : List D → Bool
  | [] => true
  | d :: ds => okD d && okL ds
end
mutual
theorem ok_lay : ∀ d : D, okD d = true → PyData.canLay0 d.toPy = true
  | .non, _ => by simp [D.toPy, PyData.canLay0]
  | .bl _, _ => by simp [D.toPy, PyData.canLay0]
  | .int _, _ => by simp [D.toPy, PyData.canLay0]
  | .str x, h => by simpa [D.toPy, PyData.canLay0, okD] using h
  | .tup ds, h => by simpa [D.toPy, PyData.canLay0] using ok_layL ds (by simpa [okD] using h)
  | .lst ds, h => by simpa [D.toPy, PyData.canLay0] using ok_layL ds (by simpa [okD] using h)
  | .scr _, h => by simp [okD] at h
  | .ins _ _, h => by simp [okD] at h
  | .dic _, h => by simp [okD] at h
theorem ok_layL : ∀ ds : List D, okL ds = true → PyData.canLayAll0 (toPyL ds) = true
  | [], _ => by simp [toPyL, PyData.canLayAll0]
  | d :: ds, h => by
    have h' := Bool.and_eq_true_iff.mp (show (okD d && okL ds) = true by simpa [okL] using h)
    simp [toPyL, PyData.canLayAll0, ok_lay d h'.1, ok_layL ds h'.2]
end
mutual
theorem ok_eqv : ∀ d : D, okD d = true → PyData.eqv d.toPy d.toPy = true
  | .non, _ => by simp [D.toPy, PyData.eqv]
  | .bl _, _ => by simp [D.toPy, PyData.eqv]
  | .int _, _ => by simp [D.toPy, PyData.eqv]
  | .str x, h => by simp [D.toPy, PyData.eqv]
  | .tup ds, h => by simpa [D.toPy, PyData.eqv] using ok_eqvL ds (by simpa [okD] using h)
  | .lst ds, h => by simpa [D.toPy, PyData.eqv] using ok_eqvL ds (by simpa [okD] using h)
  | .scr _, h => by simp [okD] at h
  | .ins _ _, h => by simp [okD] at h
  | .dic _, h => by simp [okD] at h
theorem ok_eqvL : ∀ ds : List D, okL ds = true → PyData.eqvAll (toPyL ds) (toPyL ds) = true
  | [], _ => by simp [toPyL, PyData.eqvAll]
  | d :: ds, h => by
    have h' := Bool.and_eq_true_iff.mp (show (okD d && okL ds) = true by simpa [okL] using h)
    simp [toPyL, PyData.eqvAll, ok_eqv d h'.1, ok_eqvL ds h'.2]
end
theorem same_eq {d : D} (h : okD d = true) (hd : Nat.ble (PyData.depth d.toPy) 64 = true) (hs : ∀ x, d ≠ .str x) : CK.f .eq d d = some (.bl true) ∧ CK.f .ne d d = some (.bl false) := by
  have s : SeqAt.shaped d.toPy = true := Bool.and_eq_true_iff.mpr ⟨ok_lay d h, decide_eq_true (Nat.le_of_ble_eq_true hd)⟩
  have e : ∀ neg, vEqS neg d d = vEq neg d d := fun neg => by
    cases d with
    | str x => exact absurd rfl (hs x)
    | _ => rfl
  constructor
  · show vEqS false d d = _
    rw [e]
    unfold vEq
    rw [if_pos ⟨s, s⟩, ok_eqv d h]; rfl
  · show vEqS true d d = _
    rw [e]
    unfold vEq
    rw [if_pos ⟨s, s⟩, ok_eqv d h]; rfl

theorem tk {m : M} {n : Int} (hm : Good m) (hn : 0 < n) (h9 : n.natAbs.log2 < 9000 := by decide) : ∃ r m', m__law_take [.ow m, .sh (.int n)] = .ok (.sh (.int r)) [m'] ∧ Good m' ∧ 0 ≤ r ∧ r < n := take_ok hm hn h9
theorem eqI (i j : Int) : CK.f .eq (.int i) (.int j) = some (.bl (i == j)) := rfl
theorem neI (i j : Int) : CK.f .ne (.int i) (.int j) = some (.bl (i != j)) := rfl
theorem ltI (i j : Int) : CK.f .lt (.int i) (.int j) = some (.bl (decide (i < j))) := rfl
theorem leI (i j : Int) : CK.f .le (.int i) (.int j) = some (.bl (decide (i ≤ j))) := rfl
theorem atL {xs : List D} {r : Int} {n : Nat} (hl : xs.length = n) (h0 : 0 ≤ r) (h1 : r < n) : ∃ x, vIxI (.lst xs) (.int r) = some x ∧ x ∈ xs := by
  have hr : r.toNat < xs.length := by omega
  exact ⟨xs[r.toNat], atN h0 (List.getElem?_eq_getElem hr), List.getElem_mem hr⟩
/-! ### things drawn -/
theorem pick_ok {m : M} (hm : Good m) {xs : List D} (h0 : 0 < xs.length) (h1 : xs.length < 1000) : ∃ x m', m__law_pick [.ow m, .sh (.lst xs)] = .ok (.sh x) [m'] ∧ Good m' ∧ x ∈ xs := by
  have hb : ((xs.length : Nat) : Int).natAbs.log2 < 9000 := by
    have : ((xs.length : Nat) : Int).natAbs = xs.length := rfl
    rw [this]
    have h2 : xs.length.log2 ≤ xs.length := Nat.log2_le_self _
    omega
  obtain ⟨r, m', e, g, r0, r1⟩ := take_ok hm (n := (xs.length : Nat)) (by omega) hb
  obtain ⟨x, hx, mx⟩ := atL (n := xs.length) rfl r0 (by omega)
  refine ⟨x, m', ?_, g, mx⟩
  have l : fLen [.lst xs] = some (.int (xs.length : Nat)) := rfl
  refine (e_run [0] 2 _ _ rfl).trans ?_
  unfold b__law_pick
  generalize ((xs.length : Nat) : Int) = n at *
  generalize D.lst xs = L at *
  simp only [startE, List.map, List.length, List.replicate, e_Seq, e_Asg, e_Ret, e_RetF, e_Expr, e_exprK, e_op, e_op2, e_op1, e_un, e_is, e_B, e_bK, e_Cons, e_consK, e_consK2, e_Nil, e_var, e_C, e_bind, e_bindX, e_bindB, e_lookS, e_lookO, M.toD, e_of, e_asgK, e_gSet, e_stK, e_sqN, e_sqR, e_sqB, e_sqC, e_sNil, e_retK, e_retFK, e_add, e_vI, e_neg, e_fInt, e_fIntB, e_sIf, e_sifT, e_sifF, e_T, e_toB, e_Tru, e_truB, e_And, e_Or, e_andT, e_andF, e_orT, e_orF, e_Not, e_notK, e_AndV, e_OrV, e_andVT, e_andVF, e_orVT, e_orVF, e_NotV, e_notVK, e_If, e_ifT, e_ifF, e_Tup, e_Lst, e_LstF, e_tup0, e_lst0, e_lstF0, e_eqI, e_neI, e_ltI, e_leI, e_gtI, e_geI, e_lenL, e_lenT, e_lenR, e_lenS, e_ixL, e_ixT, at0, at1, at2, at3, e_tupL, e_tupT, e_lstT, e_Own, e_ownK, e_Sub, e_For, e_Items, e_itL, e_itT, e_itR, e_Call, e_CallF, e_aNil, e_aVal, e_aVK, e_aVK2, step0, step1, step2, step3, out0, out1, out2, out3, outX1, outX2, outO1, outO2, outO3, e_onSh, e_onOw, decide_true, decide_false, Bool.not_true, Bool.not_false, List.cons_append, List.nil_append, List.getElem?_cons_zero, List.getElem?_cons_succ, List.set_cons_zero, List.set_cons_succ, Nat.reduceLT, Nat.reduceAdd, Nat.reduceSub, Option.map_some, finF, outsE, e_frz, d_rng7, e_forK, e_tnN, e_tnC, e_tnB, e_tnR, e_whT, e_whF, e_Raise, e_Par, e_parK, e_parK2, e_augK, e_Ch, e_chK1, e_chK2, e_chT, e_chF, e_Try, e_tryO, e_tru, e_While, e_abs, e_max2, e_min2, e_gSq2, e_tup1, e_lst1, e_tup2, e_lst2, e_tup3, e_lst3, e_tup4, e_lst4, e_tup5, e_lst5, e_tup6, e_lst6, e_tup7, e_lst7, e_tup8, e_lst8, e_RaF, e_raF1, e_raF2, e_TryA, e_tryAO, e_asgnK, e_frzX, e_bindX, e_Fld, e_SFld, e_Mk, e_mkK1, e_mkK2, e_mkK3, e_mkK4, e_mkO, e_mkX, e_Met, e_metK2, e_Enum, e_enumL, e_enumT, pairs2, pairs3, pairs4, e_lst13, e_lst14, e_lst15, e_lst16, e_lst9, e_lst10, e_lst11, e_lst12, e_tup9, e_tup10, e_tup11, e_tup12, e_ListF, e_listFT, e_listFL, e_GetK, e_getK, e_IfB, e_ifBT, e_ifBF, e_notB, e_isB, o_int, o_str, o_tup, o_lst, o_non, o_bl, n_int, n_str, n_tup, n_lst, n_non, n_bl, l, e_aIo (m := m), stepO2 (m := m), e, hx, -e_ixL, -e_lenL]
theorem far_ok {m : M} (hm : Good m) {B : Int} (h0 : 0 ≤ B) (h1 : B < 2 ^ 62) : ∃ r m', m__law_far [.ow m, .sh (.int B)] = .ok (.sh (.int r)) [m'] ∧ Good m' := by
  obtain ⟨a, m1, e1, g1, a0, a1⟩ := tk (n := 2) hm (by decide)
  have ha : a = 0 ∨ a = 1 := by omega
  have mu : vIc cMul (fun i j => i * j) (.int 2) (.int B) = some (.int (2 * B)) := by
    have : cMul 2 B = true := by unfold cMul; simp
    simp only [e_vIc, this]
  rcases ha with rfl | rfl
  · obtain ⟨b, m2, e2, g2, b0, b1⟩ := tk (n := 41) g1 (by decide)
    refine ⟨b - 20, m2, ?_, g2⟩
    refine (e_run [0] 2 _ _ rfl).trans ?_
    unfold b__law_far
    have z : tru (.int 0) = some false := rfl
    simp only [startE, List.map, List.length, List.replicate, e_Seq, e_Asg, e_Ret, e_RetF, e_Expr, e_exprK, e_op, e_op2, e_op1, e_un, e_is, e_B, e_bK, e_Cons, e_consK, e_consK2, e_Nil, e_var, e_C, e_bind, e_bindX, e_bindB, e_lookS, e_lookO, M.toD, e_of, e_asgK, e_gSet, e_stK, e_sqN, e_sqR, e_sqB, e_sqC, e_sNil, e_retK, e_retFK, e_add, e_vI, e_neg, e_fInt, e_fIntB, e_sIf, e_sifT, e_sifF, e_T, e_toB, e_Tru, e_truB, e_And, e_Or, e_andT, e_andF, e_orT, e_orF, e_Not, e_notK, e_AndV, e_OrV, e_andVT, e_andVF, e_orVT, e_orVF, e_NotV, e_notVK, e_If, e_ifT, e_ifF, e_Tup, e_Lst, e_LstF, e_tup0, e_lst0, e_lstF0, e_eqI, e_neI, e_ltI, e_leI, e_gtI, e_geI, e_lenL, e_lenT, e_lenR, e_lenS, e_ixL, e_ixT, at0, at1, at2, at3, e_tupL, e_tupT, e_lstT, e_Own, e_ownK, e_Sub, e_For, e_Items, e_itL, e_itT, e_itR, e_Call, e_CallF, e_aNil, e_aVal, e_aVK, e_aVK2, step0, step1, step2, step3, out0, out1, out2, out3, outX1, outX2, outO1, outO2, outO3, e_onSh, e_onOw, decide_true, decide_false, Bool.not_true, Bool.not_false, List.cons_append, List.nil_append, List.getElem?_cons_zero, List.getElem?_cons_succ, List.set_cons_zero, List.set_cons_succ, Nat.reduceLT, Nat.reduceAdd, Nat.reduceSub, Option.map_some, finF, outsE, e_frz, d_rng7, e_forK, e_tnN, e_tnC, e_tnB, e_tnR, e_whT, e_whF, e_Raise, e_Par, e_parK, e_parK2, e_augK, e_Ch, e_chK1, e_chK2, e_chT, e_chF, e_Try, e_tryO, e_tru, e_While, e_abs, e_max2, e_min2, e_gSq2, e_tup1, e_lst1, e_tup2, e_lst2, e_tup3, e_lst3, e_tup4, e_lst4, e_tup5, e_lst5, e_tup6, e_lst6, e_tup7, e_lst7, e_tup8, e_lst8, e_RaF, e_raF1, e_raF2, e_TryA, e_tryAO, e_asgnK, e_frzX, e_bindX, e_Fld, e_SFld, e_Mk, e_mkK1, e_mkK2, e_mkK3, e_mkK4, e_mkO, e_mkX, e_Met, e_metK2, e_Enum, e_enumL, e_enumT, pairs2, pairs3, pairs4, e_lst13, e_lst14, e_lst15, e_lst16, e_lst9, e_lst10, e_lst11, e_lst12, e_tup9, e_tup10, e_tup11, e_tup12, e_ListF, e_listFT, e_listFL, e_GetK, e_getK, e_IfB, e_ifBT, e_ifBF, e_notB, e_isB, o_int, o_str, o_tup, o_lst, o_non, o_bl, n_int, n_str, n_tup, n_lst, n_non, n_bl, e_aIo (m := m), stepO2 (m := m), e1, z, e_aIo (m := m1), stepO2 (m := m1), e2]
  · have z : tru (.int 1) = some true := rfl
    have hb : (2 * B + 1).natAbs.log2 < 9000 := by
      have h2 : (2 * B + 1).natAbs < 2 ^ 63 := by omega
      have := (Nat.log2_lt (n := (2 * B + 1).natAbs) (k := 63) (by omega)).mpr h2
      omega
    obtain ⟨b, m2, e2, g2, b0, b1⟩ := take_ok g1 (n := 2 * B + 1) (by omega) hb
    refine ⟨b - B, m2, ?_, g2⟩
    refine (e_run [0] 2 _ _ rfl).trans ?_
    unfold b__law_far
    simp only [startE, List.map, List.length, List.replicate, e_Seq, e_Asg, e_Ret, e_RetF, e_Expr, e_exprK, e_op, e_op2, e_op1, e_un, e_is, e_B, e_bK, e_Cons, e_consK, e_consK2, e_Nil, e_var, e_C, e_bind, e_bindX, e_bindB, e_lookS, e_lookO, M.toD, e_of, e_asgK, e_gSet, e_stK, e_sqN, e_sqR, e_sqB, e_sqC, e_sNil, e_retK, e_retFK, e_add, e_vI, e_neg, e_fInt, e_fIntB, e_sIf, e_sifT, e_sifF, e_T, e_toB, e_Tru, e_truB, e_And, e_Or, e_andT, e_andF, e_orT, e_orF, e_Not, e_notK, e_AndV, e_OrV, e_andVT, e_andVF, e_orVT, e_orVF, e_NotV, e_notVK, e_If, e_ifT, e_ifF, e_Tup, e_Lst, e_LstF, e_tup0, e_lst0, e_lstF0, e_eqI, e_neI, e_ltI, e_leI, e_gtI, e_geI, e_lenL, e_lenT, e_lenR, e_lenS, e_ixL, e_ixT, at0, at1, at2, at3, e_tupL, e_tupT, e_lstT, e_Own, e_ownK, e_Sub, e_For, e_Items, e_itL, e_itT, e_itR, e_Call, e_CallF, e_aNil, e_aVal, e_aVK, e_aVK2, step0, step1, step2, step3, out0, out1, out2, out3, outX1, outX2, outO1, outO2, outO3, e_onSh, e_onOw, decide_true, decide_false, Bool.not_true, Bool.not_false, List.cons_append, List.nil_append, List.getElem?_cons_zero, List.getElem?_cons_succ, List.set_cons_zero, List.set_cons_succ, Nat.reduceLT, Nat.reduceAdd, Nat.reduceSub, Option.map_some, finF, outsE, e_frz, d_rng7, e_forK, e_tnN, e_tnC, e_tnB, e_tnR, e_whT, e_whF, e_Raise, e_Par, e_parK, e_parK2, e_augK, e_Ch, e_chK1, e_chK2, e_chT, e_chF, e_Try, e_tryO, e_tru, e_While, e_abs, e_max2, e_min2, e_gSq2, e_tup1, e_lst1, e_tup2, e_lst2, e_tup3, e_lst3, e_tup4, e_lst4, e_tup5, e_lst5, e_tup6, e_lst6, e_tup7, e_lst7, e_tup8, e_lst8, e_RaF, e_raF1, e_raF2, e_TryA, e_tryAO, e_asgnK, e_frzX, e_bindX, e_Fld, e_SFld, e_Mk, e_mkK1, e_mkK2, e_mkK3, e_mkK4, e_mkO, e_mkX, e_Met, e_metK2, e_Enum, e_enumL, e_enumT, pairs2, pairs3, pairs4, e_lst13, e_lst14, e_lst15, e_lst16, e_lst9, e_lst10, e_lst11, e_lst12, e_tup9, e_tup10, e_tup11, e_tup12, e_ListF, e_listFT, e_listFL, e_GetK, e_getK, e_IfB, e_ifBT, e_ifBF, e_notB, e_isB, o_int, o_str, o_tup, o_lst, o_non, o_bl, n_int, n_str, n_tup, n_lst, n_non, n_bl, e_aIo (m := m), stepO2 (m := m), e1, z, mu, e_aIo (m := m1), stepO2 (m := m1), e2]
theorem sevens_ok {m : M} (hm : Good m) {B : Int} (h0 : 0 ≤ B) (h1 : B < 2 ^ 62) : ∃ (s : Sh) (C : Int) (m' : M), m__law_sevens [.ow m, .sh (.int B)] = .ok (.sh (tupI s.lst)) [m'] ∧ Good m' ∧ s.fit C := by
  obtain ⟨a, m1, e1, g1, a0, a1⟩ := tk (n := 3) hm (by decide)
  have q := eqI a 0
  by_cases ha : a = 0
  · obtain ⟨k, m2, e2, g2⟩ := far_ok g1 h0 h1
    rw [show (a == 0) = true by rw [ha]; rfl] at q
    refine ⟨.ev k, k.natAbs, m2, ?_, g2, by show -_ ≤ k ∧ k ≤ _; omega⟩
    refine (e_run [0] 2 _ _ rfl).trans ?_
    unfold b__law_sevens
    simp only [startE, List.map, List.length, List.replicate, e_Seq, e_Asg, e_Ret, e_RetF, e_Expr, e_exprK, e_op, e_op2, e_op1, e_un, e_is, e_B, e_bK, e_Cons, e_consK, e_consK2, e_Nil, e_var, e_C, e_bind, e_bindX, e_bindB, e_lookS, e_lookO, M.toD, e_of, e_asgK, e_gSet, e_stK, e_sqN, e_sqR, e_sqB, e_sqC, e_sNil, e_retK, e_retFK, e_add, e_vI, e_neg, e_fInt, e_fIntB, e_sIf, e_sifT, e_sifF, e_T, e_toB, e_Tru, e_truB, e_And, e_Or, e_andT, e_andF, e_orT, e_orF, e_Not, e_notK, e_AndV, e_OrV, e_andVT, e_andVF, e_orVT, e_orVF, e_NotV, e_notVK, e_If, e_ifT, e_ifF, e_Tup, e_Lst, e_LstF, e_tup0, e_lst0, e_lstF0, e_eqI, e_neI, e_ltI, e_leI, e_gtI, e_geI, e_lenL, e_lenT, e_lenR, e_lenS, e_ixL, e_ixT, at0, at1, at2, at3, e_tupL, e_tupT, e_lstT, e_Own, e_ownK, e_Sub, e_For, e_Items, e_itL, e_itT, e_itR, e_Call, e_CallF, e_aNil, e_aVal, e_aVK, e_aVK2, step0, step1, step2, step3, out0, out1, out2, out3, outX1, outX2, outO1, outO2, outO3, e_onSh, e_onOw, decide_true, decide_false, Bool.not_true, Bool.not_false, List.cons_append, List.nil_append, List.getElem?_cons_zero, List.getElem?_cons_succ, List.set_cons_zero, List.set_cons_succ, Nat.reduceLT, Nat.reduceAdd, Nat.reduceSub, Option.map_some, finF, outsE, e_frz, d_rng7, e_forK, e_tnN, e_tnC, e_tnB, e_tnR, e_whT, e_whF, e_Raise, e_Par, e_parK, e_parK2, e_augK, e_Ch, e_chK1, e_chK2, e_chT, e_chF, e_Try, e_tryO, e_tru, e_While, e_abs, e_max2, e_min2, e_gSq2, e_tup1, e_lst1, e_tup2, e_lst2, e_tup3, e_lst3, e_tup4, e_lst4, e_tup5, e_lst5, e_tup6, e_lst6, e_tup7, e_lst7, e_tup8, e_lst8, e_RaF, e_raF1, e_raF2, e_TryA, e_tryAO, e_asgnK, e_frzX, e_bindX, e_Fld, e_SFld, e_Mk, e_mkK1, e_mkK2, e_mkK3, e_mkK4, e_mkO, e_mkX, e_Met, e_metK2, e_Enum, e_enumL, e_enumT, pairs2, pairs3, pairs4, e_lst13, e_lst14, e_lst15, e_lst16, e_lst9, e_lst10, e_lst11, e_lst12, e_tup9, e_tup10, e_tup11, e_tup12, e_ListF, e_listFT, e_listFL, e_GetK, e_getK, e_IfB, e_ifBT, e_ifBF, e_notB, e_isB, o_int, o_str, o_tup, o_lst, o_non, o_bl, n_int, n_str, n_tup, n_lst, n_non, n_bl, Sh.lst, e_aIo (m := m), stepO2 (m := m), e1, q, e_aIo (m := m1), stepO2 (m := m1), e2, even_ok, -e_eqI]
  · obtain ⟨w, m2, e2, g2, w0, w1⟩ := tk (n := 7) g1 (by decide)
    obtain ⟨k, m3, e3, g3⟩ := far_ok g2 h0 h1
    rw [beq_false_of_ne ha] at q
    have ls := law_saw_ok w k w0 (by omega)
    refine ⟨.sw w k, k.natAbs, m3, ?_, g3, by show _ ∧ _ ∧ -_ ≤ k ∧ k ≤ _; omega⟩
    refine (e_run [0] 2 _ _ rfl).trans ?_
    unfold b__law_sevens
    simp only [startE, List.map, List.length, List.replicate, e_Seq, e_Asg, e_Ret, e_RetF, e_Expr, e_exprK, e_op, e_op2, e_op1, e_un, e_is, e_B, e_bK, e_Cons, e_consK, e_consK2, e_Nil, e_var, e_C, e_bind, e_bindX, e_bindB, e_lookS, e_lookO, M.toD, e_of, e_asgK, e_gSet, e_stK, e_sqN, e_sqR, e_sqB, e_sqC, e_sNil, e_retK, e_retFK, e_add, e_vI, e_neg, e_fInt, e_fIntB, e_sIf, e_sifT, e_sifF, e_T, e_toB, e_Tru, e_truB, e_And, e_Or, e_andT, e_andF, e_orT, e_orF, e_Not, e_notK, e_AndV, e_OrV, e_andVT, e_andVF, e_orVT, e_orVF, e_NotV, e_notVK, e_If, e_ifT, e_ifF, e_Tup, e_Lst, e_LstF, e_tup0, e_lst0, e_lstF0, e_eqI, e_neI, e_ltI, e_leI, e_gtI, e_geI, e_lenL, e_lenT, e_lenR, e_lenS, e_ixL, e_ixT, at0, at1, at2, at3, e_tupL, e_tupT, e_lstT, e_Own, e_ownK, e_Sub, e_For, e_Items, e_itL, e_itT, e_itR, e_Call, e_CallF, e_aNil, e_aVal, e_aVK, e_aVK2, step0, step1, step2, step3, out0, out1, out2, out3, outX1, outX2, outO1, outO2, outO3, e_onSh, e_onOw, decide_true, decide_false, Bool.not_true, Bool.not_false, List.cons_append, List.nil_append, List.getElem?_cons_zero, List.getElem?_cons_succ, List.set_cons_zero, List.set_cons_succ, Nat.reduceLT, Nat.reduceAdd, Nat.reduceSub, Option.map_some, finF, outsE, e_frz, d_rng7, e_forK, e_tnN, e_tnC, e_tnB, e_tnR, e_whT, e_whF, e_Raise, e_Par, e_parK, e_parK2, e_augK, e_Ch, e_chK1, e_chK2, e_chT, e_chF, e_Try, e_tryO, e_tru, e_While, e_abs, e_max2, e_min2, e_gSq2, e_tup1, e_lst1, e_tup2, e_lst2, e_tup3, e_lst3, e_tup4, e_lst4, e_tup5, e_lst5, e_tup6, e_lst6, e_tup7, e_lst7, e_tup8, e_lst8, e_RaF, e_raF1, e_raF2, e_TryA, e_tryAO, e_asgnK, e_frzX, e_bindX, e_Fld, e_SFld, e_Mk, e_mkK1, e_mkK2, e_mkK3, e_mkK4, e_mkO, e_mkX, e_Met, e_metK2, e_Enum, e_enumL, e_enumT, pairs2, pairs3, pairs4, e_lst13, e_lst14, e_lst15, e_lst16, e_lst9, e_lst10, e_lst11, e_lst12, e_tup9, e_tup10, e_tup11, e_tup12, e_ListF, e_listFT, e_listFL, e_GetK, e_getK, e_IfB, e_ifBT, e_ifBF, e_notB, e_isB, o_int, o_str, o_tup, o_lst, o_non, o_bl, n_int, n_str, n_tup, n_lst, n_non, n_bl, Sh.lst, e_aIo (m := m), stepO2 (m := m), e1, q, e_aIo (m := m1), stepO2 (m := m1), e2, e_aIo (m := m2), stepO2 (m := m2), e3, ls, -e_eqI]
/-! ### days led on -/
def ledL (s : Sh) (h : Hop) : List Int := R7.map fun r => h.on (r + s.at r) - r
section
variable (a b c d e f g k : Int)
theorem lead_pl : m_lead_by_one [.sh (tupI [a, b, c, d, e, f, g]), .sh (.tup [.str "plus", .int k])] = .ok (.sh (tupI [a + k, b + k, c + k, d + k, e + k, f + k, g + k])) [] := by kernel_rfl
theorem lead_co : m_lead_by_one [.sh (tupI [a, b, c, d, e, f, g]), .sh (.tup [.str "coming", .int k])] = .ok (.sh (tupI [a + ((k - (0 + a) - 1) % 7 + 1), b + ((k - (1 + b) - 1) % 7 + 1), c + ((k - (2 + c) - 1) % 7 + 1), d + ((k - (3 + d) - 1) % 7 + 1), e + ((k - (4 + e) - 1) % 7 + 1), f + ((k - (5 + f) - 1) % 7 + 1), g + ((k - (6 + g) - 1) % 7 + 1)])) [] := by kernel_rfl
theorem lead_la : m_lead_by_one [.sh (tupI [a, b, c, d, e, f, g]), .sh (.tup [.str "last", .int k])] = .ok (.sh (tupI [a - ((0 + a - k - 1) % 7 + 1), b - ((1 + b - k - 1) % 7 + 1), c - ((2 + c - k - 1) % 7 + 1), d - ((3 + d - k - 1) % 7 + 1), e - ((4 + e - k - 1) % 7 + 1), f - ((5 + f - k - 1) % 7 + 1), g - ((6 + g - k - 1) % 7 + 1)])) [] := by kernel_rfl
end
theorem lead_ok (s : Sh) (h : Hop) : m_lead_by_one [.sh (tupI s.lst), .sh h.d] = .ok (.sh (tupI (ledL s h))) [] := by
  rw [← s.map]
  show m_lead_by_one [.sh (tupI [s.at 0, s.at 1, s.at 2, s.at 3, s.at 4, s.at 5, s.at 6]), .sh h.d] = .ok (.sh (tupI [h.on (0 + s.at 0) - 0, h.on (1 + s.at 1) - 1, h.on (2 + s.at 2) - 2, h.on (3 + s.at 3) - 3, h.on (4 + s.at 4) - 4, h.on (5 + s.at 5) - 5, h.on (6 + s.at 6) - 6])) []
  generalize s.at 0 = a, s.at 1 = b, s.at 2 = c, s.at 3 = d, s.at 4 = e, s.at 5 = f, s.at 6 = g
  cases h with
  | pl k =>
    refine (lead_pl a b c d e f g k).trans ?_
    have q : ∀ r x : Int, x + k = (Hop.pl k).on (r + x) - r := fun r x => by unfold Hop.on; dsimp only; omega
    rw [q 0 a, q 1 b, q 2 c, q 3 d, q 4 e, q 5 f, q 6 g]
  | co k =>
    refine (lead_co a b c d e f g k).trans ?_
    have q : ∀ r x : Int, x + ((k - (r + x) - 1) % 7 + 1) = (Hop.co k).on (r + x) - r := fun r x => by unfold Hop.on; dsimp only; omega
    rw [q 0 a, q 1 b, q 2 c, q 3 d, q 4 e, q 5 f, q 6 g]
  | la k =>
    refine (lead_la a b c d e f g k).trans ?_
    have q : ∀ r x : Int, x - ((r + x - k - 1) % 7 + 1) = (Hop.la k).on (r + x) - r := fun r x => by unfold Hop.on; dsimp only; omega
    rw [q 0 a, q 1 b, q 2 c, q 3 d, q 4 e, q 5 f, q 6 g]
end L20
set_option Elab.async false
set_option linter.all false
set_option maxRecDepth 100000
set_option maxHeartbeats 4000000
namespace L20
open PySem L2 Rf Sv
/-! ### the shape of any seven numbers -/
def bS : EX := ⟨1, []⟩
def mnL : List Int → Int
  | [] => 0
  | a :: l => minI a l
def shp (l : List Int) : Option Sh := if l = evens (at7 l 0) then some (.ev (at7 l 0)) else if saws (at7 l 0 % 7) (mnL l - 1) = l then some (.sw (at7 l 0 % 7) (mnL l - 1)) else none
theorem shp_is {l : List Int} {s : Sh} (h : shp l = some s) : l = s.lst ∧ ∃ B, s.fit B := by
  unfold shp at h
  split at h
  · rename_i e
    cases h
    exact ⟨e, (at7 l 0).natAbs, by show -_ ≤ _ ∧ _ ≤ _; omega⟩
  · split at h
    · rename_i e
      cases h
      exact ⟨e.symm, (mnL l - 1).natAbs, by show _ ∧ _ ∧ -_ ≤ _ ∧ _ ≤ _; omega⟩
    · cases h
theorem mn_mx {a b c d e f g : Int} : (minI a [b, c, d, e, f, g] = maxI a [b, c, d, e, f, g]) ↔ [a, b, c, d, e, f, g] = evens a := by
  obtain ⟨n1, n2⟩ := minI_mem [b, c, d, e, f, g] a
  obtain ⟨x1, x2⟩ := maxI_mem [b, c, d, e, f, g] a
  constructor
  · intro h
    have q : ∀ y ∈ [a, b, c, d, e, f, g], y = minI a [b, c, d, e, f, g] := fun y hy => by have := n2 y hy; have := x2 y hy; omega
    simp only [List.mem_cons, List.not_mem_nil, or_false, forall_eq_or_imp, forall_eq] at q
    obtain ⟨q0, q1, q2, q3, q4, q5, q6⟩ := q
    unfold evens
    simp only [List.cons.injEq, and_true, true_and]
    omega
  · intro h
    unfold evens at h
    simp only [List.cons.injEq, and_true, true_and] at h
    rw [minI_eq (x := a) (by simp) (fun y hy => by simp only [List.mem_cons, List.not_mem_nil, or_false] at hy; omega), maxI_eq (x := a) (by simp) (fun y hy => by simp only [List.mem_cons, List.not_mem_nil, or_false] at hy; omega)]
theorem mn_ev {a b c d e f g : Int} (h : [a, b, c, d, e, f, g] = evens a) : minI a [b, c, d, e, f, g] = a := by
  unfold evens at h
  simp only [List.cons.injEq, and_true, true_and] at h
  exact minI_eq (by simp) (fun y hy => by simp only [List.mem_cons, List.not_mem_nil, or_false] at hy; omega)
def shD : Option Sh → FO
  | some s => .ok (.sh s.d) []
  | none => .exc bS []
def shN : Option Sh → D
  | some s => s.d
  | none => .non
theorem seven {l : List Int} (h : l.length = 7) : ∃ a b c d e f g, l = [a, b, c, d, e, f, g] := by
  match l, h with
  | [a, b, c, d, e, f, g], _ => exact ⟨a, b, c, d, e, f, g, rfl⟩
theorem psh_gen {l : List Int} (h : l.length = 7) : m_shape_of_sevens [.sh (tupI l)] = shD (shp l) := by
  have hc := wholes l (.sh .non)
  rw [if_pos (by rw [h]; exact seven_line)] at hc
  have ll : fLen [tupI l] = some (.int 7) := by rw [t_len, h]; rfl
  obtain ⟨a, b, c, d, e, f, g, rfl⟩ := seven h
  have mn : fMin [tupI [a, b, c, d, e, f, g]] = some (.int (minI a [b, c, d, e, f, g])) := t_min _ _
  have mx : fMax [tupI [a, b, c, d, e, f, g]] = some (.int (maxI a [b, c, d, e, f, g])) := t_max _ _
  have i0 : vIxI (tupI [a, b, c, d, e, f, g]) (.int 0) = some (.int a) := at0 _ _
  have nn : CK.f .ne (.int 7) (.int 7) = some (.bl false) := rfl
  have al : fAll [.lst [.bl true, .bl true, .bl true, .bl true, .bl true, .bl true, .bl true]] = some (.bl true) := t_all [a, b, c, d, e, f, g]
  have ss := saw_sevens_ok (a % 7) (minI a [b, c, d, e, f, g] - 1)
  have tT := t_is [a, b, c, d, e, f, g]
  have im : (minI a [b, c, d, e, f, g] == maxI a [b, c, d, e, f, g]) = decide ([a, b, c, d, e, f, g] = evens a) := by
    rw [Bool.eq_iff_iff, beq_iff_eq, decide_eq_true_iff, mn_mx]
  have q1 := eqI (minI a [b, c, d, e, f, g]) (maxI a [b, c, d, e, f, g])
  rw [im] at q1
  have q2 := t_ne (saws (a % 7) (minI a [b, c, d, e, f, g] - 1)) [a, b, c, d, e, f, g]
  have mm : vIc cMod (fun i j => i % j) (.int a) (.int 7) = some (.int (a % 7)) := by simp only [e_vIc, m7]
  refine (e_run [] 4 _ _ rfl).trans ?_
  unfold b_shape_of_sevens shp
  have a0 : at7 [a, b, c, d, e, f, g] 0 = a := rfl
  have m0 : mnL [a, b, c, d, e, f, g] = minI a [b, c, d, e, f, g] := rfl
  rw [a0, m0]
  by_cases h1 : [a, b, c, d, e, f, g] = evens a
  · have mv := mn_ev h1
    rw [if_pos h1]
    rw [decide_eq_true h1] at q1
    rw [mv] at q1 mn
    generalize tupI [a, b, c, d, e, f, g] = T at *
    generalize maxI a [b, c, d, e, f, g] = X at *
    simp only [startE, List.map, List.length, List.replicate, e_Seq, e_Asg, e_Ret, e_RetF, e_Expr, e_exprK, e_op, e_op2, e_op1, e_un, e_is, e_B, e_bK, e_Cons, e_consK, e_consK2, e_Nil, e_var, e_C, e_bind, e_bindX, e_bindB, e_lookS, e_lookO, M.toD, e_of, e_asgK, e_gSet, e_stK, e_sqN, e_sqR, e_sqB, e_sqC, e_sNil, e_retK, e_retFK, e_add, e_vI, e_neg, e_fInt, e_fIntB, e_sIf, e_sifT, e_sifF, e_T, e_toB, e_Tru, e_truB, e_And, e_Or, e_andT, e_andF, e_orT, e_orF, e_Not, e_notK, e_AndV, e_OrV, e_andVT, e_andVF, e_orVT, e_orVF, e_NotV, e_notVK, e_If, e_ifT, e_ifF, e_Tup, e_Lst, e_LstF, e_tup0, e_lst0, e_lstF0, e_eqI, e_neI, e_ltI, e_leI, e_gtI, e_geI, e_lenL, e_lenT, e_lenR, e_lenS, e_ixL, e_ixT, at0, at1, at2, at3, e_tupL, e_tupT, e_lstT, e_Own, e_ownK, e_Sub, e_For, e_Items, e_itL, e_itT, e_itR, e_Call, e_CallF, e_aNil, e_aVal, e_aVK, e_aVK2, step0, step1, step2, step3, out0, out1, out2, out3, outX1, outX2, outO1, outO2, outO3, e_onSh, e_onOw, decide_true, decide_false, Bool.not_true, Bool.not_false, List.cons_append, List.nil_append, List.getElem?_cons_zero, List.getElem?_cons_succ, List.set_cons_zero, List.set_cons_succ, Nat.reduceLT, Nat.reduceAdd, Nat.reduceSub, Option.map_some, finF, outsE, e_frz, d_rng7, e_forK, e_tnN, e_tnC, e_tnB, e_tnR, e_whT, e_whF, e_Raise, e_Par, e_parK, e_parK2, e_augK, e_Ch, e_chK1, e_chK2, e_chT, e_chF, e_Try, e_tryO, e_tru, e_While, e_abs, e_max2, e_min2, e_gSq2, e_tup1, e_lst1, e_tup2, e_lst2, e_tup3, e_lst3, e_tup4, e_lst4, e_tup5, e_lst5, e_tup6, e_lst6, e_tup7, e_lst7, e_tup8, e_lst8, shD, Sh.d, evenD, tT, ll, nn, hc, al, mn, mx, q1, -e_lenL, -e_lenT, -e_neI, -e_eqI]
  · rw [if_neg h1]
    rw [decide_eq_false h1] at q1
    by_cases h2 : saws (a % 7) (minI a [b, c, d, e, f, g] - 1) = [a, b, c, d, e, f, g]
    · rw [if_pos h2]
      rw [decide_eq_true h2] at q2
      generalize tupI [a, b, c, d, e, f, g] = T at *
      generalize tupI (saws _ _) = W at *
      generalize maxI a [b, c, d, e, f, g] = X at *
      generalize minI a [b, c, d, e, f, g] = N at *
      simp only [startE, List.map, List.length, List.replicate, e_Seq, e_Asg, e_Ret, e_RetF, e_Expr, e_exprK, e_op, e_op2, e_op1, e_un, e_is, e_B, e_bK, e_Cons, e_consK, e_consK2, e_Nil, e_var, e_C, e_bind, e_bindX, e_bindB, e_lookS, e_lookO, M.toD, e_of, e_asgK, e_gSet, e_stK, e_sqN, e_sqR, e_sqB, e_sqC, e_sNil, e_retK, e_retFK, e_add, e_vI, e_neg, e_fInt, e_fIntB, e_sIf, e_sifT, e_sifF, e_T, e_toB, e_Tru, e_truB, e_And, e_Or, e_andT, e_andF, e_orT, e_orF, e_Not, e_notK, e_AndV, e_OrV, e_andVT, e_andVF, e_orVT, e_orVF, e_NotV, e_notVK, e_If, e_ifT, e_ifF, e_Tup, e_Lst, e_LstF, e_tup0, e_lst0, e_lstF0, e_eqI, e_neI, e_ltI, e_leI, e_gtI, e_geI, e_lenL, e_lenT, e_lenR, e_lenS, e_ixL, e_ixT, at0, at1, at2, at3, e_tupL, e_tupT, e_lstT, e_Own, e_ownK, e_Sub, e_For, e_Items, e_itL, e_itT, e_itR, e_Call, e_CallF, e_aNil, e_aVal, e_aVK, e_aVK2, step0, step1, step2, step3, out0, out1, out2, out3, outX1, outX2, outO1, outO2, outO3, e_onSh, e_onOw, decide_true, decide_false, Bool.not_true, Bool.not_false, List.cons_append, List.nil_append, List.getElem?_cons_zero, List.getElem?_cons_succ, List.set_cons_zero, List.set_cons_succ, Nat.reduceLT, Nat.reduceAdd, Nat.reduceSub, Option.map_some, finF, outsE, e_frz, d_rng7, e_forK, e_tnN, e_tnC, e_tnB, e_tnR, e_whT, e_whF, e_Raise, e_Par, e_parK, e_parK2, e_augK, e_Ch, e_chK1, e_chK2, e_chT, e_chF, e_Try, e_tryO, e_tru, e_While, e_abs, e_max2, e_min2, e_gSq2, e_tup1, e_lst1, e_tup2, e_lst2, e_tup3, e_lst3, e_tup4, e_lst4, e_tup5, e_lst5, e_tup6, e_lst6, e_tup7, e_lst7, e_tup8, e_lst8, shD, Sh.d, sawD, tT, ll, nn, hc, al, mn, mx, q1, q2, i0, mm, ss, -e_lenL, -e_lenT, -e_neI, -e_eqI, -e_ixT]
    · rw [if_neg h2]
      rw [decide_eq_false h2] at q2
      generalize tupI [a, b, c, d, e, f, g] = T at *
      generalize tupI (saws _ _) = W at *
      generalize maxI a [b, c, d, e, f, g] = X at *
      generalize minI a [b, c, d, e, f, g] = N at *
      simp only [startE, List.map, List.length, List.replicate, e_Seq, e_Asg, e_Ret, e_RetF, e_Expr, e_exprK, e_op, e_op2, e_op1, e_un, e_is, e_B, e_bK, e_Cons, e_consK, e_consK2, e_Nil, e_var, e_C, e_bind, e_bindX, e_bindB, e_lookS, e_lookO, M.toD, e_of, e_asgK, e_gSet, e_stK, e_sqN, e_sqR, e_sqB, e_sqC, e_sNil, e_retK, e_retFK, e_add, e_vI, e_neg, e_fInt, e_fIntB, e_sIf, e_sifT, e_sifF, e_T, e_toB, e_Tru, e_truB, e_And, e_Or, e_andT, e_andF, e_orT, e_orF, e_Not, e_notK, e_AndV, e_OrV, e_andVT, e_andVF, e_orVT, e_orVF, e_NotV, e_notVK, e_If, e_ifT, e_ifF, e_Tup, e_Lst, e_LstF, e_tup0, e_lst0, e_lstF0, e_eqI, e_neI, e_ltI, e_leI, e_gtI, e_geI, e_lenL, e_lenT, e_lenR, e_lenS, e_ixL, e_ixT, at0, at1, at2, at3, e_tupL, e_tupT, e_lstT, e_Own, e_ownK, e_Sub, e_For, e_Items, e_itL, e_itT, e_itR, e_Call, e_CallF, e_aNil, e_aVal, e_aVK, e_aVK2, step0, step1, step2, step3, out0, out1, out2, out3, outX1, outX2, outO1, outO2, outO3, e_onSh, e_onOw, decide_true, decide_false, Bool.not_true, Bool.not_false, List.cons_append, List.nil_append, List.getElem?_cons_zero, List.getElem?_cons_succ, List.set_cons_zero, List.set_cons_succ, Nat.reduceLT, Nat.reduceAdd, Nat.reduceSub, Option.map_some, finF, outsE, e_frz, d_rng7, e_forK, e_tnN, e_tnC, e_tnB, e_tnR, e_whT, e_whF, e_Raise, e_Par, e_parK, e_parK2, e_augK, e_Ch, e_chK1, e_chK2, e_chT, e_chF, e_Try, e_tryO, e_tru, e_While, e_abs, e_max2, e_min2, e_gSq2, e_tup1, e_lst1, e_tup2, e_lst2, e_tup3, e_lst3, e_tup4, e_lst4, e_tup5, e_lst5, e_tup6, e_lst6, e_tup7, e_lst7, e_tup8, e_lst8, shD, bS, tT, ll, nn, hc, al, mn, mx, q1, q2, i0, mm, ss, -e_lenL, -e_lenT, -e_neI, -e_eqI, -e_ixT]
theorem lsh_gen {l : List Int} (h : l.length = 7) : m__law_shape [.sh (tupI l)] = .ok (.sh (shN (shp l))) [] := by
  obtain ⟨y, hy⟩ := whole_loop (.sh (tupI l)) none l none
  have ll : fLen [tupI l] = some (.int 7) := by rw [t_len, h]; rfl
  obtain ⟨a, b, c, d, e, f, g, rfl⟩ := seven h
  have mn : fMin [tupI [a, b, c, d, e, f, g]] = some (.int (minI a [b, c, d, e, f, g])) := t_min _ _
  have i0 : vIxI (tupI [a, b, c, d, e, f, g]) (.int 0) = some (.int a) := at0 _ _
  have nn : CK.f .ne (.int 7) (.int 7) = some (.bl false) := rfl
  have ev := even_ok a
  have ls := law_saw_ok (a % 7) (minI a [b, c, d, e, f, g] - 1) (by omega) (by omega)
  have tT := t_is [a, b, c, d, e, f, g]
  have ti : ∀ ρ, itK (tupI [a, b, c, d, e, f, g]) ρ = .ok ([a, b, c, d, e, f, g].map D.int) ρ := fun ρ => rfl
  have q1 := t_eq [a, b, c, d, e, f, g] (evens a)
  have q2 := t_eq (saws (a % 7) (minI a [b, c, d, e, f, g] - 1)) [a, b, c, d, e, f, g]
  have mm : vIc cMod (fun i j => i % j) (.int a) (.int 7) = some (.int (a % 7)) := by simp only [e_vIc, m7]
  refine (e_run [] 4 _ _ rfl).trans ?_
  unfold b__law_shape shp
  have a0 : at7 [a, b, c, d, e, f, g] 0 = a := rfl
  have m0 : mnL [a, b, c, d, e, f, g] = minI a [b, c, d, e, f, g] := rfl
  rw [a0, m0]
  generalize ([a, b, c, d, e, f, g].map D.int) = ds at *
  by_cases h1 : [a, b, c, d, e, f, g] = evens a
  · rw [if_pos h1]
    rw [decide_eq_true h1] at q1
    generalize tupI [a, b, c, d, e, f, g] = T at *
    generalize tupI (evens a) = E at *
    simp only [startE, List.map, List.length, List.replicate, e_Seq, e_Asg, e_Ret, e_RetF, e_Expr, e_exprK, e_op, e_op2, e_op1, e_un, e_is, e_B, e_bK, e_Cons, e_consK, e_consK2, e_Nil, e_var, e_C, e_bind, e_bindX, e_bindB, e_lookS, e_lookO, M.toD, e_of, e_asgK, e_gSet, e_stK, e_sqN, e_sqR, e_sqB, e_sqC, e_sNil, e_retK, e_retFK, e_add, e_vI, e_neg, e_fInt, e_fIntB, e_sIf, e_sifT, e_sifF, e_T, e_toB, e_Tru, e_truB, e_And, e_Or, e_andT, e_andF, e_orT, e_orF, e_Not, e_notK, e_AndV, e_OrV, e_andVT, e_andVF, e_orVT, e_orVF, e_NotV, e_notVK, e_If, e_ifT, e_ifF, e_Tup, e_Lst, e_LstF, e_tup0, e_lst0, e_lstF0, e_eqI, e_neI, e_ltI, e_leI, e_gtI, e_geI, e_lenL, e_lenT, e_lenR, e_lenS, e_ixL, e_ixT, at0, at1, at2, at3, e_tupL, e_tupT, e_lstT, e_Own, e_ownK, e_Sub, e_For, e_Items, e_itL, e_itT, e_itR, e_Call, e_CallF, e_aNil, e_aVal, e_aVK, e_aVK2, step0, step1, step2, step3, out0, out1, out2, out3, outX1, outX2, outO1, outO2, outO3, e_onSh, e_onOw, decide_true, decide_false, Bool.not_true, Bool.not_false, List.cons_append, List.nil_append, List.getElem?_cons_zero, List.getElem?_cons_succ, List.set_cons_zero, List.set_cons_succ, Nat.reduceLT, Nat.reduceAdd, Nat.reduceSub, Option.map_some, finF, outsE, e_frz, d_rng7, e_forK, e_tnN, e_tnC, e_tnB, e_tnR, e_whT, e_whF, e_Raise, e_Par, e_parK, e_parK2, e_augK, e_Ch, e_chK1, e_chK2, e_chT, e_chF, e_Try, e_tryO, e_tru, e_While, e_abs, e_max2, e_min2, e_gSq2, e_tup1, e_lst1, e_tup2, e_lst2, e_tup3, e_lst3, e_tup4, e_lst4, e_tup5, e_lst5, e_tup6, e_lst6, e_tup7, e_lst7, e_tup8, e_lst8, shN, Sh.d, evenD, tT, ll, nn, ti, hy, q1, ev, i0, -e_lenL, -e_lenT, -e_neI, -e_eqI, -e_ixT]
  · rw [if_neg h1]
    rw [decide_eq_false h1] at q1
    by_cases h2 : saws (a % 7) (minI a [b, c, d, e, f, g] - 1) = [a, b, c, d, e, f, g]
    · rw [if_pos h2]
      rw [decide_eq_true h2] at q2
      generalize tupI [a, b, c, d, e, f, g] = T at *
      generalize tupI (evens a) = E at *
      generalize tupI (saws _ _) = W at *
      generalize minI a [b, c, d, e, f, g] = N at *
      simp only [startE, List.map, List.length, List.replicate, e_Seq, e_Asg, e_Ret, e_RetF, e_Expr, e_exprK, e_op, e_op2, e_op1, e_un, e_is, e_B, e_bK, e_Cons, e_consK, e_consK2, e_Nil, e_var, e_C, e_bind, e_bindX, e_bindB, e_lookS, e_lookO, M.toD, e_of, e_asgK, e_gSet, e_stK, e_sqN, e_sqR, e_sqB, e_sqC, e_sNil, e_retK, e_retFK, e_add, e_vI, e_neg, e_fInt, e_fIntB, e_sIf, e_sifT, e_sifF, e_T, e_toB, e_Tru, e_truB, e_And, e_Or, e_andT, e_andF, e_orT, e_orF, e_Not, e_notK, e_AndV, e_OrV, e_andVT, e_andVF, e_orVT, e_orVF, e_NotV, e_notVK, e_If, e_ifT, e_ifF, e_Tup, e_Lst, e_LstF, e_tup0, e_lst0, e_lstF0, e_eqI, e_neI, e_ltI, e_leI, e_gtI, e_geI, e_lenL, e_lenT, e_lenR, e_lenS, e_ixL, e_ixT, at0, at1, at2, at3, e_tupL, e_tupT, e_lstT, e_Own, e_ownK, e_Sub, e_For, e_Items, e_itL, e_itT, e_itR, e_Call, e_CallF, e_aNil, e_aVal, e_aVK, e_aVK2, step0, step1, step2, step3, out0, out1, out2, out3, outX1, outX2, outO1, outO2, outO3, e_onSh, e_onOw, decide_true, decide_false, Bool.not_true, Bool.not_false, List.cons_append, List.nil_append, List.getElem?_cons_zero, List.getElem?_cons_succ, List.set_cons_zero, List.set_cons_succ, Nat.reduceLT, Nat.reduceAdd, Nat.reduceSub, Option.map_some, finF, outsE, e_frz, d_rng7, e_forK, e_tnN, e_tnC, e_tnB, e_tnR, e_whT, e_whF, e_Raise, e_Par, e_parK, e_parK2, e_augK, e_Ch, e_chK1, e_chK2, e_chT, e_chF, e_Try, e_tryO, e_tru, e_While, e_abs, e_max2, e_min2, e_gSq2, e_tup1, e_lst1, e_tup2, e_lst2, e_tup3, e_lst3, e_tup4, e_lst4, e_tup5, e_lst5, e_tup6, e_lst6, e_tup7, e_lst7, e_tup8, e_lst8, shN, Sh.d, sawD, tT, ll, nn, ti, hy, q1, q2, ev, i0, mn, mm, ls, -e_lenL, -e_lenT, -e_neI, -e_eqI, -e_ixT]
    · rw [if_neg h2]
      rw [decide_eq_false h2] at q2
      generalize tupI [a, b, c, d, e, f, g] = T at *
      generalize tupI (evens a) = E at *
      generalize tupI (saws _ _) = W at *
      generalize minI a [b, c, d, e, f, g] = N at *
      simp only [startE, List.map, List.length, List.replicate, e_Seq, e_Asg, e_Ret, e_RetF, e_Expr, e_exprK, e_op, e_op2, e_op1, e_un, e_is, e_B, e_bK, e_Cons, e_consK, e_consK2, e_Nil, e_var, e_C, e_bind, e_bindX, e_bindB, e_lookS, e_lookO, M.toD, e_of, e_asgK, e_gSet, e_stK, e_sqN, e_sqR, e_sqB, e_sqC, e_sNil, e_retK, e_retFK, e_add, e_vI, e_neg, e_fInt, e_fIntB, e_sIf, e_sifT, e_sifF, e_T, e_toB, e_Tru, e_truB, e_And, e_Or, e_andT, e_andF, e_orT, e_orF, e_Not, e_notK, e_AndV, e_OrV, e_andVT, e_andVF, e_orVT, e_orVF, e_NotV, e_notVK, e_If, e_ifT, e_ifF, e_Tup, e_Lst, e_LstF, e_tup0, e_lst0, e_lstF0, e_eqI, e_neI, e_ltI, e_leI, e_gtI, e_geI, e_lenL, e_lenT, e_lenR, e_lenS, e_ixL, e_ixT, at0, at1, at2, at3, e_tupL, e_tupT, e_lstT, e_Own, e_ownK, e_Sub, e_For, e_Items, e_itL, e_itT, e_itR, e_Call, e_CallF, e_aNil, e_aVal, e_aVK, e_aVK2, step0, step1, step2, step3, out0, out1, out2, out3, outX1, outX2, outO1, outO2, outO3, e_onSh, e_onOw, decide_true, decide_false, Bool.not_true, Bool.not_false, List.cons_append, List.nil_append, List.getElem?_cons_zero, List.getElem?_cons_succ, List.set_cons_zero, List.set_cons_succ, Nat.reduceLT, Nat.reduceAdd, Nat.reduceSub, Option.map_some, finF, outsE, e_frz, d_rng7, e_forK, e_tnN, e_tnC, e_tnB, e_tnR, e_whT, e_whF, e_Raise, e_Par, e_parK, e_parK2, e_augK, e_Ch, e_chK1, e_chK2, e_chT, e_chF, e_Try, e_tryO, e_tru, e_While, e_abs, e_max2, e_min2, e_gSq2, e_tup1, e_lst1, e_tup2, e_lst2, e_tup3, e_lst3, e_tup4, e_lst4, e_tup5, e_lst5, e_tup6, e_lst6, e_tup7, e_lst7, e_tup8, e_lst8, shN, tT, ll, nn, ti, hy, q1, q2, ev, i0, mn, mm, ls, -e_lenL, -e_lenT, -e_neI, -e_eqI, -e_ixT]
/-! ### what is no sevens -/
def Odd (z : D) : Prop := m_shape_of_sevens [.sh z] = .exc bS [] ∧ m__law_shape [.sh z] = .ok (.sh .non) []
def Fit (z : D) : Prop := ∃ (s : Sh) (B : Int), s.fit B ∧ z = tupI s.lst
theorem any7 {l : List Int} (h : l.length = 7) : Odd (tupI l) ∨ Fit (tupI l) := by
  have p := psh_gen h
  have q := lsh_gen h
  cases e : shp l with
  | none => rw [e] at p q; exact .inl ⟨p, q⟩
  | some s =>
    obtain ⟨rfl, B, hs⟩ := shp_is e
    exact .inr ⟨s, B, hs, rfl⟩
theorem asked_odd {z : D} (h : Odd z) : m__law_asked [.sh z] = .ok (.sh (.str "refused")) [] := by
  have h1 := h.1
  have b : sRet (dCall m_shape_of_sevens (aVal (dVar 0) (aNil))) [some (.sh z), none] = .exc bS [some (.sh z), none] := by
    have o : ∀ ρ, outK [.inl z] ρ (.exc bS []) = .exc bS ρ := fun _ => rfl
    simp only [startE, List.map, List.length, List.replicate, e_Seq, e_Asg, e_Ret, e_RetF, e_Expr, e_exprK, e_op, e_op2, e_op1, e_un, e_is, e_B, e_bK, e_Cons, e_consK, e_consK2, e_Nil, e_var, e_C, e_bind, e_bindX, e_bindB, e_lookS, e_lookO, M.toD, e_of, e_asgK, e_gSet, e_stK, e_sqN, e_sqR, e_sqB, e_sqC, e_sNil, e_retK, e_retFK, e_add, e_vI, e_neg, e_fInt, e_fIntB, e_sIf, e_sifT, e_sifF, e_T, e_toB, e_Tru, e_truB, e_And, e_Or, e_andT, e_andF, e_orT, e_orF, e_Not, e_notK, e_AndV, e_OrV, e_andVT, e_andVF, e_orVT, e_orVF, e_NotV, e_notVK, e_If, e_ifT, e_ifF, e_Tup, e_Lst, e_LstF, e_tup0, e_lst0, e_lstF0, e_eqI, e_neI, e_ltI, e_leI, e_gtI, e_geI, e_lenL, e_lenT, e_lenR, e_lenS, e_ixL, e_ixT, at0, at1, at2, at3, e_tupL, e_tupT, e_lstT, e_Own, e_ownK, e_Sub, e_For, e_Items, e_itL, e_itT, e_itR, e_Call, e_CallF, e_aNil, e_aVal, e_aVK, e_aVK2, step0, step1, step2, step3, out0, out1, out2, out3, outX1, outX2, outO1, outO2, outO3, e_onSh, e_onOw, decide_true, decide_false, Bool.not_true, Bool.not_false, List.cons_append, List.nil_append, List.getElem?_cons_zero, List.getElem?_cons_succ, List.set_cons_zero, List.set_cons_succ, Nat.reduceLT, Nat.reduceAdd, Nat.reduceSub, Option.map_some, finF, outsE, e_frz, d_rng7, e_forK, e_tnN, e_tnC, e_tnB, e_tnR, e_whT, e_whF, e_Raise, e_Par, e_parK, e_parK2, e_augK, e_Ch, e_chK1, e_chK2, e_chT, e_chF, e_Try, e_tryO, e_tru, e_While, e_abs, e_max2, e_min2, e_gSq2, e_tup1, e_lst1, e_tup2, e_lst2, e_tup3, e_lst3, e_tup4, e_lst4, e_tup5, e_lst5, e_tup6, e_lst6, e_tup7, e_lst7, e_tup8, e_lst8, h1, o]
  have q : (fun ex_ => sRet (dIf (dAnd (dTru (dXi xi_TalkError ex_)) (dNot (dTru (dXi xi_BadTerm ex_)))) (dC (.str "refused")) (dC (.str "otherwise")))) bS [some (.sh z), none] = .ok (.ret (.sh (.str "refused"))) [some (.sh z), none] := by kernel_rfl
  have e1 : b__law_asked [some (.sh z), none] = .ok (.ret (.sh (.str "refused"))) [some (.sh z), none] := by
    unfold b__law_asked
    rw [e_TryA, b, e_tryAX (h := by kernel_rfl) (hi := by show 1 < 2; decide)]
    show asgnK 1 ((fun ex_ => sRet (dIf (dAnd (dTru (dXi xi_TalkError ex_)) (dNot (dTru (dXi xi_BadTerm ex_)))) (dC (.str "refused")) (dC (.str "otherwise")))) bS [some (.sh z), none]) = _
    rw [q]
    rfl
  refine (e_run [] 2 _ _ rfl).trans ?_
  rw [show startE 2 [.sh z] = [some (.sh z), none] from rfl, e1]
  rfl
theorem same_odd {z : D} (h : Odd z) : m__law_same_shape [.sh z] = .ok (.sh (.bl true)) [] := by
  have a := asked_odd h
  have l := h.2
  have n : CK.f .isN .non .non = some (.bl true) := rfl
  have r : CK.f .eq (.str "refused") (.str "refused") = some (.bl true) := by kernel_rfl
  refine (e_run [] 4 _ _ rfl).trans ?_
  unfold b__law_same_shape
  simp only [startE, List.map, List.length, List.replicate, e_Seq, e_Asg, e_Ret, e_RetF, e_Expr, e_exprK, e_op, e_op2, e_op1, e_un, e_is, e_B, e_bK, e_Cons, e_consK, e_consK2, e_Nil, e_var, e_C, e_bind, e_bindX, e_bindB, e_lookS, e_lookO, M.toD, e_of, e_asgK, e_gSet, e_stK, e_sqN, e_sqR, e_sqB, e_sqC, e_sNil, e_retK, e_retFK, e_add, e_vI, e_neg, e_fInt, e_fIntB, e_sIf, e_sifT, e_sifF, e_T, e_toB, e_Tru, e_truB, e_And, e_Or, e_andT, e_andF, e_orT, e_orF, e_Not, e_notK, e_AndV, e_OrV, e_andVT, e_andVF, e_orVT, e_orVF, e_NotV, e_notVK, e_If, e_ifT, e_ifF, e_Tup, e_Lst, e_LstF, e_tup0, e_lst0, e_lstF0, e_eqI, e_neI, e_ltI, e_leI, e_gtI, e_geI, e_lenL, e_lenT, e_lenR, e_lenS, e_ixL, e_ixT, at0, at1, at2, at3, e_tupL, e_tupT, e_lstT, e_Own, e_ownK, e_Sub, e_For, e_Items, e_itL, e_itT, e_itR, e_Call, e_CallF, e_aNil, e_aVal, e_aVK, e_aVK2, step0, step1, step2, step3, out0, out1, out2, out3, outX1, outX2, outO1, outO2, outO3, e_onSh, e_onOw, decide_true, decide_false, Bool.not_true, Bool.not_false, List.cons_append, List.nil_append, List.getElem?_cons_zero, List.getElem?_cons_succ, List.set_cons_zero, List.set_cons_succ, Nat.reduceLT, Nat.reduceAdd, Nat.reduceSub, Option.map_some, finF, outsE, e_frz, d_rng7, e_forK, e_tnN, e_tnC, e_tnB, e_tnR, e_whT, e_whF, e_Raise, e_Par, e_parK, e_parK2, e_augK, e_Ch, e_chK1, e_chK2, e_chT, e_chF, e_Try, e_tryO, e_tru, e_While, e_abs, e_max2, e_min2, e_gSq2, e_tup1, e_lst1, e_tup2, e_lst2, e_tup3, e_lst3, e_tup4, e_lst4, e_tup5, e_lst5, e_tup6, e_lst6, e_tup7, e_lst7, e_tup8, e_lst8, e_RaF, e_raF1, e_raF2, e_TryA, e_tryAO, e_asgnK, e_frzX, e_bindX, e_Fld, e_SFld, e_Mk, e_mkK1, e_mkK2, e_mkK3, e_mkK4, e_mkO, e_mkX, e_Met, e_metK2, e_Enum, e_enumL, e_enumT, pairs2, pairs3, pairs4, e_lst13, e_lst14, e_lst15, e_lst16, e_lst9, e_lst10, e_lst11, e_lst12, e_tup9, e_tup10, e_tup11, e_tup12, e_ListF, e_listFT, e_listFL, e_GetK, e_getK, e_IfB, e_ifBT, e_ifBF, e_notB, e_isB, o_int, o_str, o_tup, o_lst, o_non, o_bl, n_int, n_str, n_tup, n_lst, n_non, n_bl, a, l, n, r]
theorem asked_fit {s : Sh} {B : Int} (h : s.fit B) : m__law_asked [.sh (tupI s.lst)] = .ok (.sh s.d) [] := by
  have e := shape2_ok h
  generalize tupI s.lst = T at *
  generalize s.d = S at *
  refine (e_run [] 2 _ _ rfl).trans ?_
  unfold b__law_asked
  simp only [startE, List.map, List.length, List.replicate, e_Seq, e_Asg, e_Ret, e_RetF, e_Expr, e_exprK, e_op, e_op2, e_op1, e_un, e_is, e_B, e_bK, e_Cons, e_consK, e_consK2, e_Nil, e_var, e_C, e_bind, e_bindX, e_bindB, e_lookS, e_lookO, M.toD, e_of, e_asgK, e_gSet, e_stK, e_sqN, e_sqR, e_sqB, e_sqC, e_sNil, e_retK, e_retFK, e_add, e_vI, e_neg, e_fInt, e_fIntB, e_sIf, e_sifT, e_sifF, e_T, e_toB, e_Tru, e_truB, e_And, e_Or, e_andT, e_andF, e_orT, e_orF, e_Not, e_notK, e_AndV, e_OrV, e_andVT, e_andVF, e_orVT, e_orVF, e_NotV, e_notVK, e_If, e_ifT, e_ifF, e_Tup, e_Lst, e_LstF, e_tup0, e_lst0, e_lstF0, e_eqI, e_neI, e_ltI, e_leI, e_gtI, e_geI, e_lenL, e_lenT, e_lenR, e_lenS, e_ixL, e_ixT, at0, at1, at2, at3, e_tupL, e_tupT, e_lstT, e_Own, e_ownK, e_Sub, e_For, e_Items, e_itL, e_itT, e_itR, e_Call, e_CallF, e_aNil, e_aVal, e_aVK, e_aVK2, step0, step1, step2, step3, out0, out1, out2, out3, outX1, outX2, outO1, outO2, outO3, e_onSh, e_onOw, decide_true, decide_false, Bool.not_true, Bool.not_false, List.cons_append, List.nil_append, List.getElem?_cons_zero, List.getElem?_cons_succ, List.set_cons_zero, List.set_cons_succ, Nat.reduceLT, Nat.reduceAdd, Nat.reduceSub, Option.map_some, finF, outsE, e_frz, d_rng7, e_forK, e_tnN, e_tnC, e_tnB, e_tnR, e_whT, e_whF, e_Raise, e_Par, e_parK, e_parK2, e_augK, e_Ch, e_chK1, e_chK2, e_chT, e_chF, e_Try, e_tryO, e_tru, e_While, e_abs, e_max2, e_min2, e_gSq2, e_tup1, e_lst1, e_tup2, e_lst2, e_tup3, e_lst3, e_tup4, e_lst4, e_tup5, e_lst5, e_tup6, e_lst6, e_tup7, e_lst7, e_tup8, e_lst8, e_RaF, e_raF1, e_raF2, e_TryA, e_tryAO, e_asgnK, e_frzX, e_bindX, e_Fld, e_SFld, e_Mk, e_mkK1, e_mkK2, e_mkK3, e_mkK4, e_mkO, e_mkX, e_Met, e_metK2, e_Enum, e_enumL, e_enumT, pairs2, pairs3, pairs4, e_lst13, e_lst14, e_lst15, e_lst16, e_lst9, e_lst10, e_lst11, e_lst12, e_tup9, e_tup10, e_tup11, e_tup12, e_ListF, e_listFT, e_listFL, e_GetK, e_getK, e_IfB, e_ifBT, e_ifBF, e_notB, e_isB, o_int, o_str, o_tup, o_lst, o_non, o_bl, n_int, n_str, n_tup, n_lst, n_non, n_bl, e]
theorem even_sev (k : Int) : m_even_sevens [.sh (.int k)] = .ok (.sh (tupI (evens k))) [] := by kernel_rfl
theorem made_ok (s : Sh) : m__law_made_by [.sh s.d] = .ok (.sh (tupI s.lst)) [] := by
  cases s with
  | ev k =>
    have q : CK.f .eq (.str "even") (.str "even") = some (.bl true) := by kernel_rfl
    have e := even_sev k
    have i0 : vIxI (evenD k) (.int 0) = some (.str "even") := at0 _ _
    have i1 : vIxI (evenD k) (.int 1) = some (.int k) := at1 _ _ _
    unfold Sh.d Sh.lst
    dsimp only
    generalize tupI (evens k) = T at *
    generalize evenD k = Z at *
    refine (e_run [] 1 _ _ rfl).trans ?_
    unfold b__law_made_by
    simp only [startE, List.map, List.length, List.replicate, e_Seq, e_Asg, e_Ret, e_RetF, e_Expr, e_exprK, e_op, e_op2, e_op1, e_un, e_is, e_B, e_bK, e_Cons, e_consK, e_consK2, e_Nil, e_var, e_C, e_bind, e_bindX, e_bindB, e_lookS, e_lookO, M.toD, e_of, e_asgK, e_gSet, e_stK, e_sqN, e_sqR, e_sqB, e_sqC, e_sNil, e_retK, e_retFK, e_add, e_vI, e_neg, e_fInt, e_fIntB, e_sIf, e_sifT, e_sifF, e_T, e_toB, e_Tru, e_truB, e_And, e_Or, e_andT, e_andF, e_orT, e_orF, e_Not, e_notK, e_AndV, e_OrV, e_andVT, e_andVF, e_orVT, e_orVF, e_NotV, e_notVK, e_If, e_ifT, e_ifF, e_Tup, e_Lst, e_LstF, e_tup0, e_lst0, e_lstF0, e_eqI, e_neI, e_ltI, e_leI, e_gtI, e_geI, e_lenL, e_lenT, e_lenR, e_lenS, e_ixL, e_ixT, at0, at1, at2, at3, e_tupL, e_tupT, e_lstT, e_Own, e_ownK, e_Sub, e_For, e_Items, e_itL, e_itT, e_itR, e_Call, e_CallF, e_aNil, e_aVal, e_aVK, e_aVK2, step0, step1, step2, step3, out0, out1, out2, out3, outX1, outX2, outO1, outO2, outO3, e_onSh, e_onOw, decide_true, decide_false, Bool.not_true, Bool.not_false, List.cons_append, List.nil_append, List.getElem?_cons_zero, List.getElem?_cons_succ, List.set_cons_zero, List.set_cons_succ, Nat.reduceLT, Nat.reduceAdd, Nat.reduceSub, Option.map_some, finF, outsE, e_frz, d_rng7, e_forK, e_tnN, e_tnC, e_tnB, e_tnR, e_whT, e_whF, e_Raise, e_Par, e_parK, e_parK2, e_augK, e_Ch, e_chK1, e_chK2, e_chT, e_chF, e_Try, e_tryO, e_tru, e_While, e_abs, e_max2, e_min2, e_gSq2, e_tup1, e_lst1, e_tup2, e_lst2, e_tup3, e_lst3, e_tup4, e_lst4, e_tup5, e_lst5, e_tup6, e_lst6, e_tup7, e_lst7, e_tup8, e_lst8, e_RaF, e_raF1, e_raF2, e_TryA, e_tryAO, e_asgnK, e_frzX, e_bindX, e_Fld, e_SFld, e_Mk, e_mkK1, e_mkK2, e_mkK3, e_mkK4, e_mkO, e_mkX, e_Met, e_metK2, e_Enum, e_enumL, e_enumT, pairs2, pairs3, pairs4, e_lst13, e_lst14, e_lst15, e_lst16, e_lst9, e_lst10, e_lst11, e_lst12, e_tup9, e_tup10, e_tup11, e_tup12, e_ListF, e_listFT, e_listFL, e_GetK, e_getK, e_IfB, e_ifBT, e_ifBF, e_notB, e_isB, o_int, o_str, o_tup, o_lst, o_non, o_bl, n_int, n_str, n_tup, n_lst, n_non, n_bl, i0, i1, q, e, -e_ixT]
  | sw w m =>
    have q : CK.f .eq (.str "saw") (.str "even") = some (.bl false) := by kernel_rfl
    have e := saw_sevens_ok w m
    have i0 : vIxI (sawD w m) (.int 0) = some (.str "saw") := at0 _ _
    have i1 : vIxI (sawD w m) (.int 1) = some (.int w) := at1 _ _ _
    have i2 : vIxI (sawD w m) (.int 2) = some (.int m) := at2 _ _ _ _
    unfold Sh.d Sh.lst
    dsimp only
    generalize tupI (saws w m) = T at *
    generalize sawD w m = Z at *
    refine (e_run [] 1 _ _ rfl).trans ?_
    unfold b__law_made_by
    simp only [startE, List.map, List.length, List.replicate, e_Seq, e_Asg, e_Ret, e_RetF, e_Expr, e_exprK, e_op, e_op2, e_op1, e_un, e_is, e_B, e_bK, e_Cons, e_consK, e_consK2, e_Nil, e_var, e_C, e_bind, e_bindX, e_bindB, e_lookS, e_lookO, M.toD, e_of, e_asgK, e_gSet, e_stK, e_sqN, e_sqR, e_sqB, e_sqC, e_sNil, e_retK, e_retFK, e_add, e_vI, e_neg, e_fInt, e_fIntB, e_sIf, e_sifT, e_sifF, e_T, e_toB, e_Tru, e_truB, e_And, e_Or, e_andT, e_andF, e_orT, e_orF, e_Not, e_notK, e_AndV, e_OrV, e_andVT, e_andVF, e_orVT, e_orVF, e_NotV, e_notVK, e_If, e_ifT, e_ifF, e_Tup, e_Lst, e_LstF, e_tup0, e_lst0, e_lstF0, e_eqI, e_neI, e_ltI, e_leI, e_gtI, e_geI, e_lenL, e_lenT, e_lenR, e_lenS, e_ixL, e_ixT, at0, at1, at2, at3, e_tupL, e_tupT, e_lstT, e_Own, e_ownK, e_Sub, e_For, e_Items, e_itL, e_itT, e_itR, e_Call, e_CallF, e_aNil, e_aVal, e_aVK, e_aVK2, step0, step1, step2, step3, out0, out1, out2, out3, outX1, outX2, outO1, outO2, outO3, e_onSh, e_onOw, decide_true, decide_false, Bool.not_true, Bool.not_false, List.cons_append, List.nil_append, List.getElem?_cons_zero, List.getElem?_cons_succ, List.set_cons_zero, List.set_cons_succ, Nat.reduceLT, Nat.reduceAdd, Nat.reduceSub, Option.map_some, finF, outsE, e_frz, d_rng7, e_forK, e_tnN, e_tnC, e_tnB, e_tnR, e_whT, e_whF, e_Raise, e_Par, e_parK, e_parK2, e_augK, e_Ch, e_chK1, e_chK2, e_chT, e_chF, e_Try, e_tryO, e_tru, e_While, e_abs, e_max2, e_min2, e_gSq2, e_tup1, e_lst1, e_tup2, e_lst2, e_tup3, e_lst3, e_tup4, e_lst4, e_tup5, e_lst5, e_tup6, e_lst6, e_tup7, e_lst7, e_tup8, e_lst8, e_RaF, e_raF1, e_raF2, e_TryA, e_tryAO, e_asgnK, e_frzX, e_bindX, e_Fld, e_SFld, e_Mk, e_mkK1, e_mkK2, e_mkK3, e_mkK4, e_mkO, e_mkX, e_Met, e_metK2, e_Enum, e_enumL, e_enumT, pairs2, pairs3, pairs4, e_lst13, e_lst14, e_lst15, e_lst16, e_lst9, e_lst10, e_lst11, e_lst12, e_tup9, e_tup10, e_tup11, e_tup12, e_ListF, e_listFT, e_listFL, e_GetK, e_getK, e_IfB, e_ifBT, e_ifBF, e_notB, e_isB, o_int, o_str, o_tup, o_lst, o_non, o_bl, n_int, n_str, n_tup, n_lst, n_non, n_bl, i0, i1, i2, q, e, -e_ixT]
theorem sd_same (s : Sh) : CK.f .ne s.d s.d = some (.bl false) := by
  cases s with
  | ev k => exact (same_eq (d := evenD k) (by kernel_rfl) (by kernel_rfl) (fun _ => by simp [evenD])).2
  | sw w m => exact (same_eq (d := sawD w m) (by kernel_rfl) (by kernel_rfl) (fun _ => by simp [sawD])).2
theorem same_fit {s : Sh} {B : Int} (h : s.fit B) : m__law_same_shape [.sh (tupI s.lst)] = .ok (.sh (.bl true)) [] := by
  have a := asked_fit h
  have l := shape_ok h
  have mk := made_ok s
  have sd := sd_same s
  have n : CK.f .isN s.d .non = some (.bl false) := by cases s <;> rfl
  have tT : isTy "tuple" s.d = some true := by cases s <;> rfl
  have eq := t_eq s.lst s.lst
  rw [decide_eq_true rfl] at eq
  have fl : ∀ z : D, (fun ρ => frz ((fLc (dItems (dSl (dVar 2) (dPart (dC (.int 1))) (dNoPart))) (gSet 3) (dNot (dTru (dCall m__law_whole (aVal (dVar 3) (aNil))))) (dVar 3) [3]) ρ)) [some (.sh z), some (.sh s.d), some (.sh s.d), none] = .ok (.lst []) [some (.sh z), some (.sh s.d), some (.sh s.d), none] := fun z => by
    cases s <;> kernel_rfl
  have fl := fl (tupI s.lst)
  have e0 : CK.f .eq (.lst []) (.lst []) = some (.bl true) := by kernel_rfl
  generalize tupI s.lst = T at *
  generalize s.d = S at *
  refine (e_run [] 4 _ _ rfl).trans ?_
  unfold b__law_same_shape
  generalize (fun ρ => frz ((fLc (dItems (dSl (dVar 2) (dPart (dC (.int 1))) (dNoPart))) (gSet 3) (dNot (dTru (dCall m__law_whole (aVal (dVar 3) (aNil))))) (dVar 3) [3]) ρ)) = X at *
  simp only [startE, List.map, List.length, List.replicate, e_Seq, e_Asg, e_Ret, e_RetF, e_Expr, e_exprK, e_op, e_op2, e_op1, e_un, e_is, e_B, e_bK, e_Cons, e_consK, e_consK2, e_Nil, e_var, e_C, e_bind, e_bindX, e_bindB, e_lookS, e_lookO, M.toD, e_of, e_asgK, e_gSet, e_stK, e_sqN, e_sqR, e_sqB, e_sqC, e_sNil, e_retK, e_retFK, e_add, e_vI, e_neg, e_fInt, e_fIntB, e_sIf, e_sifT, e_sifF, e_T, e_toB, e_Tru, e_truB, e_And, e_Or, e_andT, e_andF, e_orT, e_orF, e_Not, e_notK, e_AndV, e_OrV, e_andVT, e_andVF, e_orVT, e_orVF, e_NotV, e_notVK, e_If, e_ifT, e_ifF, e_Tup, e_Lst, e_LstF, e_tup0, e_lst0, e_lstF0, e_eqI, e_neI, e_ltI, e_leI, e_gtI, e_geI, e_lenL, e_lenT, e_lenR, e_lenS, e_ixL, e_ixT, at0, at1, at2, at3, e_tupL, e_tupT, e_lstT, e_Own, e_ownK, e_Sub, e_For, e_Items, e_itL, e_itT, e_itR, e_Call, e_CallF, e_aNil, e_aVal, e_aVK, e_aVK2, step0, step1, step2, step3, out0, out1, out2, out3, outX1, outX2, outO1, outO2, outO3, e_onSh, e_onOw, decide_true, decide_false, Bool.not_true, Bool.not_false, List.cons_append, List.nil_append, List.getElem?_cons_zero, List.getElem?_cons_succ, List.set_cons_zero, List.set_cons_succ, Nat.reduceLT, Nat.reduceAdd, Nat.reduceSub, Option.map_some, finF, outsE, e_frz, d_rng7, e_forK, e_tnN, e_tnC, e_tnB, e_tnR, e_whT, e_whF, e_Raise, e_Par, e_parK, e_parK2, e_augK, e_Ch, e_chK1, e_chK2, e_chT, e_chF, e_Try, e_tryO, e_tru, e_While, e_abs, e_max2, e_min2, e_gSq2, e_tup1, e_lst1, e_tup2, e_lst2, e_tup3, e_lst3, e_tup4, e_lst4, e_tup5, e_lst5, e_tup6, e_lst6, e_tup7, e_lst7, e_tup8, e_lst8, e_RaF, e_raF1, e_raF2, e_TryA, e_tryAO, e_asgnK, e_frzX, e_bindX, e_Fld, e_SFld, e_Mk, e_mkK1, e_mkK2, e_mkK3, e_mkK4, e_mkO, e_mkX, e_Met, e_metK2, e_Enum, e_enumL, e_enumT, pairs2, pairs3, pairs4, e_lst13, e_lst14, e_lst15, e_lst16, e_lst9, e_lst10, e_lst11, e_lst12, e_tup9, e_tup10, e_tup11, e_tup12, e_ListF, e_listFT, e_listFL, e_GetK, e_getK, e_IfB, e_ifBT, e_ifBF, e_notB, e_isB, o_int, o_str, o_tup, o_lst, o_non, o_bl, n_int, n_str, n_tup, n_lst, n_non, n_bl, a, l, mk, n, tT, sd, fl, e0, eq]
theorem same_any {z : D} (h : Odd z ∨ Fit z) : m__law_same_shape [.sh z] = .ok (.sh (.bl true)) [] := by
  rcases h with h | ⟨s, B, hs, rfl⟩
  · exact same_odd h
  · exact same_fit hs
end L20
set_option Elab.async false
set_option linter.all false
set_option maxRecDepth 100000
set_option maxHeartbeats 4000000
namespace L20
open PySem L2 Rf Sv
/-! ### pieces of sevens -/
theorem ti_take {l : List Int} {i : Int} (h0 : 0 ≤ i) (h1 : i ≤ l.length) : vSl (tupI l) none (some i) = some (tupI (l.take i.toNat)) := by
  unfold vSl tupI
  dsimp only
  rw [cut_take h0 (by rw [List.length_map]; exact h1), List.map_take]
theorem ti_drop {l : List Int} {i : Int} (h0 : 0 ≤ i) (h1 : i ≤ l.length) : vSl (tupI l) (some i) none = some (tupI (l.drop i.toNat)) := by
  unfold vSl tupI
  dsimp only
  rw [cut_drop h0 (by rw [List.length_map]; exact h1), List.map_drop]
theorem ti_add {a b : List Int} (h : a.length + b.length ≤ 100) : vAdd (tupI a) (tupI b) = some (tupI (a ++ b)) := by
  unfold tupI
  rw [e_addT _ _ (by rw [List.length_map, List.length_map, sizeLine_eq]; omega), List.map_append]
theorem tx_add {a : List Int} {x : D} (h : a.length ≤ 100) : vAdd (tupI a) (.tup [x]) = some (.tup (a.map D.int ++ [x])) := by
  unfold tupI
  rw [e_addT _ _ (by rw [List.length_map, sizeLine_eq]; show _ + 1 ≤ _; omega)]
theorem ty_add {ds : List D} {b : List Int} (h : ds.length + b.length ≤ 100) : vAdd (.tup ds) (tupI b) = some (.tup (ds ++ b.map D.int)) := by
  unfold tupI
  rw [e_addT _ _ (by rw [List.length_map, sizeLine_eq]; omega)]
/-! ### what is no sevens -/
theorem odd_len {l : List Int} (h : l.length ≠ 7) : Odd (tupI l) := by
  have ll : fLen [tupI l] = some (.int (l.length : Nat)) := t_len l
  have q := neI (l.length : Nat) 7
  rw [show (((l.length : Nat) : Int) != 7) = true by simp; omega] at q
  have tT := t_is l
  generalize tupI l = T at *
  generalize ((l.length : Nat) : Int) = n at *
  constructor
  · refine (e_run [] 4 _ _ rfl).trans ?_
    unfold b_shape_of_sevens bS
    simp only [startE, List.map, List.length, List.replicate, e_Seq, e_Asg, e_Ret, e_RetF, e_Expr, e_exprK, e_op, e_op2, e_op1, e_un, e_is, e_B, e_bK, e_Cons, e_consK, e_consK2, e_Nil, e_var, e_C, e_bind, e_bindX, e_bindB, e_lookS, e_lookO, M.toD, e_of, e_asgK, e_gSet, e_stK, e_sqN, e_sqR, e_sqB, e_sqC, e_sNil, e_retK, e_retFK, e_add, e_vI, e_neg, e_fInt, e_fIntB, e_sIf, e_sifT, e_sifF, e_T, e_toB, e_Tru, e_truB, e_And, e_Or, e_andT, e_andF, e_orT, e_orF, e_Not, e_notK, e_AndV, e_OrV, e_andVT, e_andVF, e_orVT, e_orVF, e_NotV, e_notVK, e_If, e_ifT, e_ifF, e_Tup, e_Lst, e_LstF, e_tup0, e_lst0, e_lstF0, e_eqI, e_neI, e_ltI, e_leI, e_gtI, e_geI, e_lenL, e_lenT, e_lenR, e_lenS, e_ixL, e_ixT, at0, at1, at2, at3, e_tupL, e_tupT, e_lstT, e_Own, e_ownK, e_Sub, e_For, e_Items, e_itL, e_itT, e_itR, e_Call, e_CallF, e_aNil, e_aVal, e_aVK, e_aVK2, step0, step1, step2, step3, out0, out1, out2, out3, outX1, outX2, outO1, outO2, outO3, e_onSh, e_onOw, decide_true, decide_false, Bool.not_true, Bool.not_false, List.cons_append, List.nil_append, List.getElem?_cons_zero, List.getElem?_cons_succ, List.set_cons_zero, List.set_cons_succ, Nat.reduceLT, Nat.reduceAdd, Nat.reduceSub, Option.map_some, finF, outsE, e_frz, d_rng7, e_forK, e_tnN, e_tnC, e_tnB, e_tnR, e_whT, e_whF, e_Raise, e_Par, e_parK, e_parK2, e_augK, e_Ch, e_chK1, e_chK2, e_chT, e_chF, e_Try, e_tryO, e_tru, e_While, e_abs, e_max2, e_min2, e_gSq2, e_tup1, e_lst1, e_tup2, e_lst2, e_tup3, e_lst3, e_tup4, e_lst4, e_tup5, e_lst5, e_tup6, e_lst6, e_tup7, e_lst7, e_tup8, e_lst8, tT, ll, q, -e_lenT, -e_lenL, -e_neI]
  · refine (e_run [] 4 _ _ rfl).trans ?_
    unfold b__law_shape
    simp only [startE, List.map, List.length, List.replicate, e_Seq, e_Asg, e_Ret, e_RetF, e_Expr, e_exprK, e_op, e_op2, e_op1, e_un, e_is, e_B, e_bK, e_Cons, e_consK, e_consK2, e_Nil, e_var, e_C, e_bind, e_bindX, e_bindB, e_lookS, e_lookO, M.toD, e_of, e_asgK, e_gSet, e_stK, e_sqN, e_sqR, e_sqB, e_sqC, e_sNil, e_retK, e_retFK, e_add, e_vI, e_neg, e_fInt, e_fIntB, e_sIf, e_sifT, e_sifF, e_T, e_toB, e_Tru, e_truB, e_And, e_Or, e_andT, e_andF, e_orT, e_orF, e_Not, e_notK, e_AndV, e_OrV, e_andVT, e_andVF, e_orVT, e_orVF, e_NotV, e_notVK, e_If, e_ifT, e_ifF, e_Tup, e_Lst, e_LstF, e_tup0, e_lst0, e_lstF0, e_eqI, e_neI, e_ltI, e_leI, e_gtI, e_geI, e_lenL, e_lenT, e_lenR, e_lenS, e_ixL, e_ixT, at0, at1, at2, at3, e_tupL, e_tupT, e_lstT, e_Own, e_ownK, e_Sub, e_For, e_Items, e_itL, e_itT, e_itR, e_Call, e_CallF, e_aNil, e_aVal, e_aVK, e_aVK2, step0, step1, step2, step3, out0, out1, out2, out3, outX1, outX2, outO1, outO2, outO3, e_onSh, e_onOw, decide_true, decide_false, Bool.not_true, Bool.not_false, List.cons_append, List.nil_append, List.getElem?_cons_zero, List.getElem?_cons_succ, List.set_cons_zero, List.set_cons_succ, Nat.reduceLT, Nat.reduceAdd, Nat.reduceSub, Option.map_some, finF, outsE, e_frz, d_rng7, e_forK, e_tnN, e_tnC, e_tnB, e_tnR, e_whT, e_whF, e_Raise, e_Par, e_parK, e_parK2, e_augK, e_Ch, e_chK1, e_chK2, e_chT, e_chF, e_Try, e_tryO, e_tru, e_While, e_abs, e_max2, e_min2, e_gSq2, e_tup1, e_lst1, e_tup2, e_lst2, e_tup3, e_lst3, e_tup4, e_lst4, e_tup5, e_lst5, e_tup6, e_lst6, e_tup7, e_lst7, e_tup8, e_lst8, tT, ll, q, -e_lenT, -e_lenL, -e_neI]
def isI : D → Bool
  | .int _ => true
  | _ => false
theorem loop_odd {p : DV} {c : Option DV} {x : D} (hx : m__law_whole [.sh x] = .ok (.sh (.bl false)) []) (r : List D) : ∀ (a : List Int) (o : Option DV), ∃ y, forL (gSet 1) (sIf (dNot (dTru (dCall m__law_whole (aVal (dVar 1) (aNil))))) (sRet (dC .non)) (sNil)) (a.map D.int ++ x :: r) [some p, o, c, c] = .ok (.ret (.sh .non)) [some p, y, c, c]
  | [], o => ⟨some (.sh x), by
    rw [List.map_nil, List.nil_append, forL_set _ _ _ _ _ (by show 1 < 4; decide)]
    simp only [startE, List.map, List.length, List.replicate, e_Seq, e_Asg, e_Ret, e_RetF, e_Expr, e_exprK, e_op, e_op2, e_op1, e_un, e_is, e_B, e_bK, e_Cons, e_consK, e_consK2, e_Nil, e_var, e_C, e_bind, e_bindX, e_bindB, e_lookS, e_lookO, M.toD, e_of, e_asgK, e_gSet, e_stK, e_sqN, e_sqR, e_sqB, e_sqC, e_sNil, e_retK, e_retFK, e_add, e_vI, e_neg, e_fInt, e_fIntB, e_sIf, e_sifT, e_sifF, e_T, e_toB, e_Tru, e_truB, e_And, e_Or, e_andT, e_andF, e_orT, e_orF, e_Not, e_notK, e_AndV, e_OrV, e_andVT, e_andVF, e_orVT, e_orVF, e_NotV, e_notVK, e_If, e_ifT, e_ifF, e_Tup, e_Lst, e_LstF, e_tup0, e_lst0, e_lstF0, e_eqI, e_neI, e_ltI, e_leI, e_gtI, e_geI, e_lenL, e_lenT, e_lenR, e_lenS, e_ixL, e_ixT, at0, at1, at2, at3, e_tupL, e_tupT, e_lstT, e_Own, e_ownK, e_Sub, e_For, e_Items, e_itL, e_itT, e_itR, e_Call, e_CallF, e_aNil, e_aVal, e_aVK, e_aVK2, step0, step1, step2, step3, out0, out1, out2, out3, outX1, outX2, outO1, outO2, outO3, e_onSh, e_onOw, decide_true, decide_false, Bool.not_true, Bool.not_false, List.cons_append, List.nil_append, List.getElem?_cons_zero, List.getElem?_cons_succ, List.set_cons_zero, List.set_cons_succ, Nat.reduceLT, Nat.reduceAdd, Nat.reduceSub, Option.map_some, finF, outsE, e_frz, d_rng7, e_forK, e_tnN, e_tnC, e_tnB, e_tnR, e_whT, e_whF, e_Raise, e_Par, e_parK, e_parK2, e_augK, e_Ch, e_chK1, e_chK2, e_chT, e_chF, e_Try, e_tryO, e_tru, e_While, e_abs, e_max2, e_min2, e_gSq2, e_tup1, e_lst1, e_tup2, e_lst2, e_tup3, e_lst3, e_tup4, e_lst4, e_tup5, e_lst5, e_tup6, e_lst6, e_tup7, e_lst7, e_tup8, e_lst8, hx]⟩
  | n :: a, o => by
    obtain ⟨y, hy⟩ := loop_odd hx r a (some (.sh (.int n)))
    refine ⟨y, ?_⟩
    rw [← hy, List.map_cons, List.cons_append, forL_set _ _ _ _ _ (by show 1 < 4; decide)]
    simp only [startE, List.map, List.length, List.replicate, e_Seq, e_Asg, e_Ret, e_RetF, e_Expr, e_exprK, e_op, e_op2, e_op1, e_un, e_is, e_B, e_bK, e_Cons, e_consK, e_consK2, e_Nil, e_var, e_C, e_bind, e_bindX, e_bindB, e_lookS, e_lookO, M.toD, e_of, e_asgK, e_gSet, e_stK, e_sqN, e_sqR, e_sqB, e_sqC, e_sNil, e_retK, e_retFK, e_add, e_vI, e_neg, e_fInt, e_fIntB, e_sIf, e_sifT, e_sifF, e_T, e_toB, e_Tru, e_truB, e_And, e_Or, e_andT, e_andF, e_orT, e_orF, e_Not, e_notK, e_AndV, e_OrV, e_andVT, e_andVF, e_orVT, e_orVF, e_NotV, e_notVK, e_If, e_ifT, e_ifF, e_Tup, e_Lst, e_LstF, e_tup0, e_lst0, e_lstF0, e_eqI, e_neI, e_ltI, e_leI, e_gtI, e_geI, e_lenL, e_lenT, e_lenR, e_lenS, e_ixL, e_ixT, at0, at1, at2, at3, e_tupL, e_tupT, e_lstT, e_Own, e_ownK, e_Sub, e_For, e_Items, e_itL, e_itT, e_itR, e_Call, e_CallF, e_aNil, e_aVal, e_aVK, e_aVK2, step0, step1, step2, step3, out0, out1, out2, out3, outX1, outX2, outO1, outO2, outO3, e_onSh, e_onOw, decide_true, decide_false, Bool.not_true, Bool.not_false, List.cons_append, List.nil_append, List.getElem?_cons_zero, List.getElem?_cons_succ, List.set_cons_zero, List.set_cons_succ, Nat.reduceLT, Nat.reduceAdd, Nat.reduceSub, Option.map_some, finF, outsE, e_frz, d_rng7, e_forK, e_tnN, e_tnC, e_tnB, e_tnR, e_whT, e_whF, e_Raise, e_Par, e_parK, e_parK2, e_augK, e_Ch, e_chK1, e_chK2, e_chT, e_chF, e_Try, e_tryO, e_tru, e_While, e_abs, e_max2, e_min2, e_gSq2, e_tup1, e_lst1, e_tup2, e_lst2, e_tup3, e_lst3, e_tup4, e_lst4, e_tup5, e_lst5, e_tup6, e_lst6, e_tup7, e_lst7, e_tup8, e_lst8, lwhole_i]
theorem odd_elem {a b : List Int} {x : D} (hl : a.length + b.length = 6) (h1 : m_is_whole [.sh x] = .ok (.sh (.bl false)) []) (h2 : m__law_whole [.sh x] = .ok (.sh (.bl false)) []) (hi : isI x = false) : Odd (.tup (a.map D.int ++ x :: b.map D.int)) := by
  have len : (a.map D.int ++ x :: b.map D.int).length = 7 := by simp only [List.length_append, List.length_map, List.length_cons]; omega
  obtain ⟨y, hy⟩ := loop_odd (p := .sh (.tup (a.map D.int ++ x :: b.map D.int))) (c := none) h2 (b.map D.int) a none
  have hw : ∀ d ∈ a.map D.int ++ x :: b.map D.int, m_is_whole [.sh d] = .ok (.sh (.bl (isI d))) [] := fun d hd => by
    rcases List.mem_append.mp hd with hd | hd
    · obtain ⟨n, _, rfl⟩ := List.mem_map.mp hd; exact is_whole_ok n
    · rcases List.mem_cons.mp hd with rfl | hd
      · rw [hi]; exact h1
      · obtain ⟨n, _, rfl⟩ := List.mem_map.mp hd; exact is_whole_ok n
  have al : (a.map D.int ++ x :: b.map D.int).all isI = false := by
    rw [List.all_append, List.all_cons, hi]
    simp
  generalize a.map D.int ++ x :: b.map D.int = ds at *
  have hc : fLc (dItems (dVar 0)) (gSet 3) dYes (dCall m_is_whole (aVal (dVar 3) (aNil))) [3] [some (.sh (.tup ds)), none, none, none] = .ok (.lst (ds.map fun d => D.bl (isI d))) [some (.sh (.tup ds)), none, none, none] :=
    lc_map (ds := ds) (fun d => D.bl (isI d)) rfl rfl (fun d hd => by simp only [startE, List.map, List.length, List.replicate, e_Seq, e_Asg, e_Ret, e_RetF, e_Expr, e_exprK, e_op, e_op2, e_op1, e_un, e_is, e_B, e_bK, e_Cons, e_consK, e_consK2, e_Nil, e_var, e_C, e_bind, e_bindX, e_bindB, e_lookS, e_lookO, M.toD, e_of, e_asgK, e_gSet, e_stK, e_sqN, e_sqR, e_sqB, e_sqC, e_sNil, e_retK, e_retFK, e_add, e_vI, e_neg, e_fInt, e_fIntB, e_sIf, e_sifT, e_sifF, e_T, e_toB, e_Tru, e_truB, e_And, e_Or, e_andT, e_andF, e_orT, e_orF, e_Not, e_notK, e_AndV, e_OrV, e_andVT, e_andVF, e_orVT, e_orVF, e_NotV, e_notVK, e_If, e_ifT, e_ifF, e_Tup, e_Lst, e_LstF, e_tup0, e_lst0, e_lstF0, e_eqI, e_neI, e_ltI, e_leI, e_gtI, e_geI, e_lenL, e_lenT, e_lenR, e_lenS, e_ixL, e_ixT, at0, at1, at2, at3, e_tupL, e_tupT, e_lstT, e_Own, e_ownK, e_Sub, e_For, e_Items, e_itL, e_itT, e_itR, e_Call, e_CallF, e_aNil, e_aVal, e_aVK, e_aVK2, step0, step1, step2, step3, out0, out1, out2, out3, outX1, outX2, outO1, outO2, outO3, e_onSh, e_onOw, decide_true, decide_false, Bool.not_true, Bool.not_false, List.cons_append, List.nil_append, List.getElem?_cons_zero, List.getElem?_cons_succ, List.set_cons_zero, List.set_cons_succ, Nat.reduceLT, Nat.reduceAdd, Nat.reduceSub, Option.map_some, finF, outsE, e_frz, d_rng7, e_forK, e_tnN, e_tnC, e_tnB, e_tnR, e_whT, e_whF, e_Raise, e_Par, e_parK, e_parK2, e_augK, e_Ch, e_chK1, e_chK2, e_chT, e_chF, e_Try, e_tryO, e_tru, e_While, e_abs, e_max2, e_min2, e_gSq2, e_tup1, e_lst1, e_tup2, e_lst2, e_tup3, e_lst3, e_tup4, e_lst4, e_tup5, e_lst5, e_tup6, e_lst6, e_tup7, e_lst7, e_tup8, e_lst8, hw d hd]) (by rw [len]; exact seven_line)
  have fa := all_f isI ds
  rw [al] at fa
  have ll : fLen [.tup ds] = some (.int 7) := by show some (D.int (ds.length : Nat)) = _; rw [len]; rfl
  have nn : CK.f .ne (.int 7) (.int 7) = some (.bl false) := rfl
  have tT : isTy "tuple" (.tup ds) = some true := rfl
  have it : ∀ ρ, itK (.tup ds) ρ = .ok ds ρ := fun _ => rfl
  generalize ds.map (fun d => D.bl (isI d)) = bs at *
  generalize D.tup ds = T at *
  constructor
  · refine (e_run [] 4 _ _ rfl).trans ?_
    unfold b_shape_of_sevens bS
    simp only [startE, List.map, List.length, List.replicate, e_Seq, e_Asg, e_Ret, e_RetF, e_Expr, e_exprK, e_op, e_op2, e_op1, e_un, e_is, e_B, e_bK, e_Cons, e_consK, e_consK2, e_Nil, e_var, e_C, e_bind, e_bindX, e_bindB, e_lookS, e_lookO, M.toD, e_of, e_asgK, e_gSet, e_stK, e_sqN, e_sqR, e_sqB, e_sqC, e_sNil, e_retK, e_retFK, e_add, e_vI, e_neg, e_fInt, e_fIntB, e_sIf, e_sifT, e_sifF, e_T, e_toB, e_Tru, e_truB, e_And, e_Or, e_andT, e_andF, e_orT, e_orF, e_Not, e_notK, e_AndV, e_OrV, e_andVT, e_andVF, e_orVT, e_orVF, e_NotV, e_notVK, e_If, e_ifT, e_ifF, e_Tup, e_Lst, e_LstF, e_tup0, e_lst0, e_lstF0, e_eqI, e_neI, e_ltI, e_leI, e_gtI, e_geI, e_lenL, e_lenT, e_lenR, e_lenS, e_ixL, e_ixT, at0, at1, at2, at3, e_tupL, e_tupT, e_lstT, e_Own, e_ownK, e_Sub, e_For, e_Items, e_itL, e_itT, e_itR, e_Call, e_CallF, e_aNil, e_aVal, e_aVK, e_aVK2, step0, step1, step2, step3, out0, out1, out2, out3, outX1, outX2, outO1, outO2, outO3, e_onSh, e_onOw, decide_true, decide_false, Bool.not_true, Bool.not_false, List.cons_append, List.nil_append, List.getElem?_cons_zero, List.getElem?_cons_succ, List.set_cons_zero, List.set_cons_succ, Nat.reduceLT, Nat.reduceAdd, Nat.reduceSub, Option.map_some, finF, outsE, e_frz, d_rng7, e_forK, e_tnN, e_tnC, e_tnB, e_tnR, e_whT, e_whF, e_Raise, e_Par, e_parK, e_parK2, e_augK, e_Ch, e_chK1, e_chK2, e_chT, e_chF, e_Try, e_tryO, e_tru, e_While, e_abs, e_max2, e_min2, e_gSq2, e_tup1, e_lst1, e_tup2, e_lst2, e_tup3, e_lst3, e_tup4, e_lst4, e_tup5, e_lst5, e_tup6, e_lst6, e_tup7, e_lst7, e_tup8, e_lst8, tT, ll, nn, hc, fa, -e_lenT, -e_lenL, -e_neI]
  · refine (e_run [] 4 _ _ rfl).trans ?_
    unfold b__law_shape
    simp only [startE, List.map, List.length, List.replicate, e_Seq, e_Asg, e_Ret, e_RetF, e_Expr, e_exprK, e_op, e_op2, e_op1, e_un, e_is, e_B, e_bK, e_Cons, e_consK, e_consK2, e_Nil, e_var, e_C, e_bind, e_bindX, e_bindB, e_lookS, e_lookO, M.toD, e_of, e_asgK, e_gSet, e_stK, e_sqN, e_sqR, e_sqB, e_sqC, e_sNil, e_retK, e_retFK, e_add, e_vI, e_neg, e_fInt, e_fIntB, e_sIf, e_sifT, e_sifF, e_T, e_toB, e_Tru, e_truB, e_And, e_Or, e_andT, e_andF, e_orT, e_orF, e_Not, e_notK, e_AndV, e_OrV, e_andVT, e_andVF, e_orVT, e_orVF, e_NotV, e_notVK, e_If, e_ifT, e_ifF, e_Tup, e_Lst, e_LstF, e_tup0, e_lst0, e_lstF0, e_eqI, e_neI, e_ltI, e_leI, e_gtI, e_geI, e_lenL, e_lenT, e_lenR, e_lenS, e_ixL, e_ixT, at0, at1, at2, at3, e_tupL, e_tupT, e_lstT, e_Own, e_ownK, e_Sub, e_For, e_Items, e_itL, e_itT, e_itR, e_Call, e_CallF, e_aNil, e_aVal, e_aVK, e_aVK2, step0, step1, step2, step3, out0, out1, out2, out3, outX1, outX2, outO1, outO2, outO3, e_onSh, e_onOw, decide_true, decide_false, Bool.not_true, Bool.not_false, List.cons_append, List.nil_append, List.getElem?_cons_zero, List.getElem?_cons_succ, List.set_cons_zero, List.set_cons_succ, Nat.reduceLT, Nat.reduceAdd, Nat.reduceSub, Option.map_some, finF, outsE, e_frz, d_rng7, e_forK, e_tnN, e_tnC, e_tnB, e_tnR, e_whT, e_whF, e_Raise, e_Par, e_parK, e_parK2, e_augK, e_Ch, e_chK1, e_chK2, e_chT, e_chF, e_Try, e_tryO, e_tru, e_While, e_abs, e_max2, e_min2, e_gSq2, e_tup1, e_lst1, e_tup2, e_lst2, e_tup3, e_lst3, e_tup4, e_lst4, e_tup5, e_lst5, e_tup6, e_lst6, e_tup7, e_lst7, e_tup8, e_lst8, tT, ll, nn, it, hy, -e_lenT, -e_lenL, -e_neI]
/-! ### sevens spoilt -/
def OF (r : FO) : Prop := ∃ (z : D) (m' : M), r = .ok (.sh z) [m'] ∧ Good m' ∧ (Odd z ∨ Fit z)
def X3 : List D := [.non, .bl true, .bl false, .str "1", .tup [.int 1]]
theorem x3_ok : ∀ x ∈ X3, m_is_whole [.sh x] = .ok (.sh (.bl false)) [] ∧ m__law_whole [.sh x] = .ok (.sh (.bl false)) [] ∧ isI x = false := by
  unfold X3
  refine List.forall_mem_cons.mpr ⟨⟨by kernel_rfl, by kernel_rfl, rfl⟩, ?_⟩
  refine List.forall_mem_cons.mpr ⟨⟨by kernel_rfl, by kernel_rfl, rfl⟩, ?_⟩
  refine List.forall_mem_cons.mpr ⟨⟨by kernel_rfl, by kernel_rfl, rfl⟩, ?_⟩
  refine List.forall_mem_cons.mpr ⟨⟨by kernel_rfl, by kernel_rfl, rfl⟩, ?_⟩
  refine List.forall_mem_cons.mpr ⟨⟨by kernel_rfl, by kernel_rfl, rfl⟩, ?_⟩
  exact fun _ h => nomatch h
def X4 : List D := [.int 1, .int (-1), .int 7, .int (-7), .int 14, .int 1000000000000000]
theorem x4_ok : ∀ x ∈ X4, ∃ d, x = .int d := by
  unfold X4
  refine List.forall_mem_cons.mpr ⟨⟨_, rfl⟩, ?_⟩
  refine List.forall_mem_cons.mpr ⟨⟨_, rfl⟩, ?_⟩
  refine List.forall_mem_cons.mpr ⟨⟨_, rfl⟩, ?_⟩
  refine List.forall_mem_cons.mpr ⟨⟨_, rfl⟩, ?_⟩
  refine List.forall_mem_cons.mpr ⟨⟨_, rfl⟩, ?_⟩
  refine List.forall_mem_cons.mpr ⟨⟨_, rfl⟩, ?_⟩
  exact fun _ h => nomatch h
theorem pw15 : vIc cPow (fun i j => i ^ j.toNat) (.int 10) (.int 15) = some (.int 1000000000000000) := by kernel_rfl
theorem rev_ok (l : List Int) : revT (tupI l) = some (tupI l.reverse) := by unfold revT tupI; dsimp only; rw [List.map_reverse]
section
variable {m m1 m2 : M} {l : List Int} {k : Int}
theorem sp0 (g : Good m2) (e1 : m__law_take [.ow m, .sh (.int 7)] = .ok (.sh (.int k)) [m1]) (e2 : m__law_take [.ow m1, .sh (.int 6)] = .ok (.sh (.int 0)) [m2]) : OF (m__law_spoilt [.ow m, .sh (tupI l)]) := by
  refine ⟨.lst (l.map D.int), m2, ?_, g, .inl ⟨by kernel_rfl, by kernel_rfl⟩⟩
  have f := t_lst l
  generalize l.map D.int = ds at *
  generalize tupI l = T at *
  have q0 : CK.f .eq (.int 0) (.int 0) = some (.bl true) := rfl
  refine (e_run [0] 4 _ _ rfl).trans ?_
  unfold b__law_spoilt
  simp only [startE, List.map, List.length, List.replicate, e_Seq, e_Asg, e_Ret, e_RetF, e_Expr, e_exprK, e_op, e_op2, e_op1, e_un, e_is, e_B, e_bK, e_Cons, e_consK, e_consK2, e_Nil, e_var, e_C, e_bind, e_bindX, e_bindB, e_lookS, e_lookO, M.toD, e_of, e_asgK, e_gSet, e_stK, e_sqN, e_sqR, e_sqB, e_sqC, e_sNil, e_retK, e_retFK, e_add, e_vI, e_neg, e_fInt, e_fIntB, e_sIf, e_sifT, e_sifF, e_T, e_toB, e_Tru, e_truB, e_And, e_Or, e_andT, e_andF, e_orT, e_orF, e_Not, e_notK, e_AndV, e_OrV, e_andVT, e_andVF, e_orVT, e_orVF, e_NotV, e_notVK, e_If, e_ifT, e_ifF, e_Tup, e_Lst, e_LstF, e_tup0, e_lst0, e_lstF0, e_eqI, e_neI, e_ltI, e_leI, e_gtI, e_geI, e_lenL, e_lenT, e_lenR, e_lenS, e_ixL, e_ixT, at0, at1, at2, at3, e_tupL, e_tupT, e_lstT, e_Own, e_ownK, e_Sub, e_For, e_Items, e_itL, e_itT, e_itR, e_Call, e_CallF, e_aNil, e_aVal, e_aVK, e_aVK2, step0, step1, step2, step3, out0, out1, out2, out3, outX1, outX2, outO1, outO2, outO3, e_onSh, e_onOw, decide_true, decide_false, Bool.not_true, Bool.not_false, List.cons_append, List.nil_append, List.getElem?_cons_zero, List.getElem?_cons_succ, List.set_cons_zero, List.set_cons_succ, Nat.reduceLT, Nat.reduceAdd, Nat.reduceSub, Option.map_some, finF, outsE, e_frz, d_rng7, e_forK, e_tnN, e_tnC, e_tnB, e_tnR, e_whT, e_whF, e_Raise, e_Par, e_parK, e_parK2, e_augK, e_Ch, e_chK1, e_chK2, e_chT, e_chF, e_Try, e_tryO, e_tru, e_While, e_abs, e_max2, e_min2, e_gSq2, e_tup1, e_lst1, e_tup2, e_lst2, e_tup3, e_lst3, e_tup4, e_lst4, e_tup5, e_lst5, e_tup6, e_lst6, e_tup7, e_lst7, e_tup8, e_lst8, e_RaF, e_raF1, e_raF2, e_TryA, e_tryAO, e_asgnK, e_frzX, e_bindX, e_Fld, e_SFld, e_Mk, e_mkK1, e_mkK2, e_mkK3, e_mkK4, e_mkO, e_mkX, e_Met, e_metK2, e_Enum, e_enumL, e_enumT, pairs2, pairs3, pairs4, e_lst13, e_lst14, e_lst15, e_lst16, e_lst9, e_lst10, e_lst11, e_lst12, e_tup9, e_tup10, e_tup11, e_tup12, e_ListF, e_listFT, e_listFL, e_GetK, e_getK, e_IfB, e_ifBT, e_ifBF, e_notB, e_isB, o_int, o_str, o_tup, o_lst, o_non, o_bl, n_int, n_str, n_tup, n_lst, n_non, n_bl, e_aIo (m := m), stepO2 (m := m), e1, e_aIo (m := m1), stepO2 (m := m1), e2, q0, f, -e_eqI]
theorem sp1 (h : l.length = 7) (k0 : 0 ≤ k) (k1 : k < 7) (g : Good m2) (e1 : m__law_take [.ow m, .sh (.int 7)] = .ok (.sh (.int k)) [m1]) (e2 : m__law_take [.ow m1, .sh (.int 6)] = .ok (.sh (.int 1)) [m2]) : OF (m__law_spoilt [.ow m, .sh (tupI l)]) := by
  refine ⟨tupI (l.take k.toNat), m2, ?_, g, .inl (odd_len (by rw [List.length_take]; omega))⟩
  have f := ti_take (l := l) k0 (by omega)
  generalize tupI (l.take k.toNat) = R at *
  generalize tupI l = T at *
  have q0 : CK.f .eq (.int 1) (.int 0) = some (.bl false) := rfl
  have q1 : CK.f .eq (.int 1) (.int 1) = some (.bl true) := rfl
  refine (e_run [0] 4 _ _ rfl).trans ?_
  unfold b__law_spoilt
  simp only [startE, List.map, List.length, List.replicate, e_Seq, e_Asg, e_Ret, e_RetF, e_Expr, e_exprK, e_op, e_op2, e_op1, e_un, e_is, e_B, e_bK, e_Cons, e_consK, e_consK2, e_Nil, e_var, e_C, e_bind, e_bindX, e_bindB, e_lookS, e_lookO, M.toD, e_of, e_asgK, e_gSet, e_stK, e_sqN, e_sqR, e_sqB, e_sqC, e_sNil, e_retK, e_retFK, e_add, e_vI, e_neg, e_fInt, e_fIntB, e_sIf, e_sifT, e_sifF, e_T, e_toB, e_Tru, e_truB, e_And, e_Or, e_andT, e_andF, e_orT, e_orF, e_Not, e_notK, e_AndV, e_OrV, e_andVT, e_andVF, e_orVT, e_orVF, e_NotV, e_notVK, e_If, e_ifT, e_ifF, e_Tup, e_Lst, e_LstF, e_tup0, e_lst0, e_lstF0, e_eqI, e_neI, e_ltI, e_leI, e_gtI, e_geI, e_lenL, e_lenT, e_lenR, e_lenS, e_ixL, e_ixT, at0, at1, at2, at3, e_tupL, e_tupT, e_lstT, e_Own, e_ownK, e_Sub, e_For, e_Items, e_itL, e_itT, e_itR, e_Call, e_CallF, e_aNil, e_aVal, e_aVK, e_aVK2, step0, step1, step2, step3, out0, out1, out2, out3, outX1, outX2, outO1, outO2, outO3, e_onSh, e_onOw, decide_true, decide_false, Bool.not_true, Bool.not_false, List.cons_append, List.nil_append, List.getElem?_cons_zero, List.getElem?_cons_succ, List.set_cons_zero, List.set_cons_succ, Nat.reduceLT, Nat.reduceAdd, Nat.reduceSub, Option.map_some, finF, outsE, e_frz, d_rng7, e_forK, e_tnN, e_tnC, e_tnB, e_tnR, e_whT, e_whF, e_Raise, e_Par, e_parK, e_parK2, e_augK, e_Ch, e_chK1, e_chK2, e_chT, e_chF, e_Try, e_tryO, e_tru, e_While, e_abs, e_max2, e_min2, e_gSq2, e_tup1, e_lst1, e_tup2, e_lst2, e_tup3, e_lst3, e_tup4, e_lst4, e_tup5, e_lst5, e_tup6, e_lst6, e_tup7, e_lst7, e_tup8, e_lst8, e_RaF, e_raF1, e_raF2, e_TryA, e_tryAO, e_asgnK, e_frzX, e_bindX, e_Fld, e_SFld, e_Mk, e_mkK1, e_mkK2, e_mkK3, e_mkK4, e_mkO, e_mkX, e_Met, e_metK2, e_Enum, e_enumL, e_enumT, pairs2, pairs3, pairs4, e_lst13, e_lst14, e_lst15, e_lst16, e_lst9, e_lst10, e_lst11, e_lst12, e_tup9, e_tup10, e_tup11, e_tup12, e_ListF, e_listFT, e_listFL, e_GetK, e_getK, e_IfB, e_ifBT, e_ifBF, e_notB, e_isB, o_int, o_str, o_tup, o_lst, o_non, o_bl, n_int, n_str, n_tup, n_lst, n_non, n_bl, e_Sl, e_sl1, e_sl2, e_sl3, e_NoPart, e_Part, e_prt, step4, out4, e_aIo (m := m), stepO2 (m := m), e1, e_aIo (m := m1), stepO2 (m := m1), e2, q0, q1, f, -e_eqI]
theorem sp2 (h : l.length = 7) (k0 : 0 ≤ k) (k1 : k < 7) (g : Good m2) (e1 : m__law_take [.ow m, .sh (.int 7)] = .ok (.sh (.int k)) [m1]) (e2 : m__law_take [.ow m1, .sh (.int 6)] = .ok (.sh (.int 2)) [m2]) : OF (m__law_spoilt [.ow m, .sh (tupI l)]) := by
  have ix : vIxI (tupI l) (.int k) = some (.int (at7 l k)) := t_ix (at7_ok h (by simp only [R7, List.mem_cons, List.not_mem_nil, or_false]; omega))
  have ad : vAdd (tupI l) (.tup [.int (at7 l k)]) = some (tupI (l ++ [at7 l k])) := ti_add (b := [at7 l k]) (by rw [h]; show 7 + 1 ≤ 100; decide)
  refine ⟨tupI (l ++ [at7 l k]), m2, ?_, g, .inl (odd_len (by rw [List.length_append, h]; show 7 + 1 ≠ 7; decide))⟩
  generalize tupI (l ++ [at7 l k]) = R at *
  generalize at7 l k = v at *
  generalize tupI l = T at *
  have q0 : CK.f .eq (.int 2) (.int 0) = some (.bl false) := rfl
  have q1 : CK.f .eq (.int 2) (.int 1) = some (.bl false) := rfl
  have q2 : CK.f .eq (.int 2) (.int 2) = some (.bl true) := rfl
  refine (e_run [0] 4 _ _ rfl).trans ?_
  unfold b__law_spoilt
  simp only [startE, List.map, List.length, List.replicate, e_Seq, e_Asg, e_Ret, e_RetF, e_Expr, e_exprK, e_op, e_op2, e_op1, e_un, e_is, e_B, e_bK, e_Cons, e_consK, e_consK2, e_Nil, e_var, e_C, e_bind, e_bindX, e_bindB, e_lookS, e_lookO, M.toD, e_of, e_asgK, e_gSet, e_stK, e_sqN, e_sqR, e_sqB, e_sqC, e_sNil, e_retK, e_retFK, e_add, e_vI, e_neg, e_fInt, e_fIntB, e_sIf, e_sifT, e_sifF, e_T, e_toB, e_Tru, e_truB, e_And, e_Or, e_andT, e_andF, e_orT, e_orF, e_Not, e_notK, e_AndV, e_OrV, e_andVT, e_andVF, e_orVT, e_orVF, e_NotV, e_notVK, e_If, e_ifT, e_ifF, e_Tup, e_Lst, e_LstF, e_tup0, e_lst0, e_lstF0, e_eqI, e_neI, e_ltI, e_leI, e_gtI, e_geI, e_lenL, e_lenT, e_lenR, e_lenS, e_ixL, e_ixT, at0, at1, at2, at3, e_tupL, e_tupT, e_lstT, e_Own, e_ownK, e_Sub, e_For, e_Items, e_itL, e_itT, e_itR, e_Call, e_CallF, e_aNil, e_aVal, e_aVK, e_aVK2, step0, step1, step2, step3, out0, out1, out2, out3, outX1, outX2, outO1, outO2, outO3, e_onSh, e_onOw, decide_true, decide_false, Bool.not_true, Bool.not_false, List.cons_append, List.nil_append, List.getElem?_cons_zero, List.getElem?_cons_succ, List.set_cons_zero, List.set_cons_succ, Nat.reduceLT, Nat.reduceAdd, Nat.reduceSub, Option.map_some, finF, outsE, e_frz, d_rng7, e_forK, e_tnN, e_tnC, e_tnB, e_tnR, e_whT, e_whF, e_Raise, e_Par, e_parK, e_parK2, e_augK, e_Ch, e_chK1, e_chK2, e_chT, e_chF, e_Try, e_tryO, e_tru, e_While, e_abs, e_max2, e_min2, e_gSq2, e_tup1, e_lst1, e_tup2, e_lst2, e_tup3, e_lst3, e_tup4, e_lst4, e_tup5, e_lst5, e_tup6, e_lst6, e_tup7, e_lst7, e_tup8, e_lst8, e_RaF, e_raF1, e_raF2, e_TryA, e_tryAO, e_asgnK, e_frzX, e_bindX, e_Fld, e_SFld, e_Mk, e_mkK1, e_mkK2, e_mkK3, e_mkK4, e_mkO, e_mkX, e_Met, e_metK2, e_Enum, e_enumL, e_enumT, pairs2, pairs3, pairs4, e_lst13, e_lst14, e_lst15, e_lst16, e_lst9, e_lst10, e_lst11, e_lst12, e_tup9, e_tup10, e_tup11, e_tup12, e_ListF, e_listFT, e_listFL, e_GetK, e_getK, e_IfB, e_ifBT, e_ifBF, e_notB, e_isB, o_int, o_str, o_tup, o_lst, o_non, o_bl, n_int, n_str, n_tup, n_lst, n_non, n_bl, e_Sl, e_sl1, e_sl2, e_sl3, e_NoPart, e_Part, e_prt, step4, out4, e_aIo (m := m), stepO2 (m := m), e1, e_aIo (m := m1), stepO2 (m := m1), e2, q0, q1, q2, ix, ad, -e_eqI, -e_ixT]
theorem sp3 (h : l.length = 7) (k0 : 0 ≤ k) (k1 : k < 7) (g : Good m2) (e1 : m__law_take [.ow m, .sh (.int 7)] = .ok (.sh (.int k)) [m1]) (e2 : m__law_take [.ow m1, .sh (.int 6)] = .ok (.sh (.int 3)) [m2]) : OF (m__law_spoilt [.ow m, .sh (tupI l)]) := by
  obtain ⟨x, m3, e3, g3, hx⟩ := pick_ok g (xs := X3) (by decide) (by decide)
  obtain ⟨x1, x2, x3⟩ := x3_ok x hx
  have f1 := ti_take (l := l) k0 (by omega)
  have f2 := tx_add (a := l.take k.toNat) (x := x) (by rw [List.length_take]; omega)
  have f3 := ti_drop (l := l) (i := k + 1) (by omega) (by omega)
  have f4 := ty_add (ds := (l.take k.toNat).map D.int ++ [x]) (b := l.drop (k + 1).toNat) (by rw [List.length_append, List.length_map, List.length_take, List.length_drop]; show min _ _ + 1 + _ ≤ _; omega)
  have od := odd_elem (a := l.take k.toNat) (b := l.drop (k + 1).toNat) (x := x) (by rw [List.length_take, List.length_drop]; omega) x1 x2 x3
  rw [List.append_assoc, List.singleton_append] at f4
  refine ⟨_, m3, ?_, g3, .inl od⟩
  unfold X3 at e3
  generalize D.tup ((l.take k.toNat).map D.int ++ x :: (l.drop (k + 1).toNat).map D.int) = R at *
  generalize D.tup ((l.take k.toNat).map D.int ++ [x]) = R1 at *
  generalize tupI (l.take k.toNat) = R2 at *
  generalize tupI (l.drop (k + 1).toNat) = R3 at *
  generalize tupI l = T at *
  have q0 : CK.f .eq (.int 3) (.int 0) = some (.bl false) := rfl
  have q1 : CK.f .eq (.int 3) (.int 1) = some (.bl false) := rfl
  have q2 : CK.f .eq (.int 3) (.int 2) = some (.bl false) := rfl
  have q3 : CK.f .eq (.int 3) (.int 3) = some (.bl true) := rfl
  refine (e_run [0] 4 _ _ rfl).trans ?_
  unfold b__law_spoilt
  simp only [startE, List.map, List.length, List.replicate, e_Seq, e_Asg, e_Ret, e_RetF, e_Expr, e_exprK, e_op, e_op2, e_op1, e_un, e_is, e_B, e_bK, e_Cons, e_consK, e_consK2, e_Nil, e_var, e_C, e_bind, e_bindX, e_bindB, e_lookS, e_lookO, M.toD, e_of, e_asgK, e_gSet, e_stK, e_sqN, e_sqR, e_sqB, e_sqC, e_sNil, e_retK, e_retFK, e_add, e_vI, e_neg, e_fInt, e_fIntB, e_sIf, e_sifT, e_sifF, e_T, e_toB, e_Tru, e_truB, e_And, e_Or, e_andT, e_andF, e_orT, e_orF, e_Not, e_notK, e_AndV, e_OrV, e_andVT, e_andVF, e_orVT, e_orVF, e_NotV, e_notVK, e_If, e_ifT, e_ifF, e_Tup, e_Lst, e_LstF, e_tup0, e_lst0, e_lstF0, e_eqI, e_neI, e_ltI, e_leI, e_gtI, e_geI, e_lenL, e_lenT, e_lenR, e_lenS, e_ixL, e_ixT, at0, at1, at2, at3, e_tupL, e_tupT, e_lstT, e_Own, e_ownK, e_Sub, e_For, e_Items, e_itL, e_itT, e_itR, e_Call, e_CallF, e_aNil, e_aVal, e_aVK, e_aVK2, step0, step1, step2, step3, out0, out1, out2, out3, outX1, outX2, outO1, outO2, outO3, e_onSh, e_onOw, decide_true, decide_false, Bool.not_true, Bool.not_false, List.cons_append, List.nil_append, List.getElem?_cons_zero, List.getElem?_cons_succ, List.set_cons_zero, List.set_cons_succ, Nat.reduceLT, Nat.reduceAdd, Nat.reduceSub, Option.map_some, finF, outsE, e_frz, d_rng7, e_forK, e_tnN, e_tnC, e_tnB, e_tnR, e_whT, e_whF, e_Raise, e_Par, e_parK, e_parK2, e_augK, e_Ch, e_chK1, e_chK2, e_chT, e_chF, e_Try, e_tryO, e_tru, e_While, e_abs, e_max2, e_min2, e_gSq2, e_tup1, e_lst1, e_tup2, e_lst2, e_tup3, e_lst3, e_tup4, e_lst4, e_tup5, e_lst5, e_tup6, e_lst6, e_tup7, e_lst7, e_tup8, e_lst8, e_RaF, e_raF1, e_raF2, e_TryA, e_tryAO, e_asgnK, e_frzX, e_bindX, e_Fld, e_SFld, e_Mk, e_mkK1, e_mkK2, e_mkK3, e_mkK4, e_mkO, e_mkX, e_Met, e_metK2, e_Enum, e_enumL, e_enumT, pairs2, pairs3, pairs4, e_lst13, e_lst14, e_lst15, e_lst16, e_lst9, e_lst10, e_lst11, e_lst12, e_tup9, e_tup10, e_tup11, e_tup12, e_ListF, e_listFT, e_listFL, e_GetK, e_getK, e_IfB, e_ifBT, e_ifBF, e_notB, e_isB, o_int, o_str, o_tup, o_lst, o_non, o_bl, n_int, n_str, n_tup, n_lst, n_non, n_bl, e_Sl, e_sl1, e_sl2, e_sl3, e_NoPart, e_Part, e_prt, step4, out4, e_aIo (m := m), stepO2 (m := m), e1, e_aIo (m := m1), stepO2 (m := m1), e2, q0, q1, q2, q3, f1, f2, f3, f4, e_aIo (m := m2), stepO2 (m := m2), e3, -e_eqI]
theorem sp4 (h : l.length = 7) (k0 : 0 ≤ k) (k1 : k < 7) (g : Good m2) (e1 : m__law_take [.ow m, .sh (.int 7)] = .ok (.sh (.int k)) [m1]) (e2 : m__law_take [.ow m1, .sh (.int 6)] = .ok (.sh (.int 4)) [m2]) : OF (m__law_spoilt [.ow m, .sh (tupI l)]) := by
  obtain ⟨x, m3, e3, g3, hx⟩ := pick_ok g (xs := X4) (by decide) (by decide)
  obtain ⟨v, rfl⟩ := x4_ok x hx
  have ix : vIxI (tupI l) (.int k) = some (.int (at7 l k)) := t_ix (at7_ok h (by simp only [R7, List.mem_cons, List.not_mem_nil, or_false]; omega))
  have f1 := ti_take (l := l) k0 (by omega)
  have f2 : vAdd (tupI (l.take k.toNat)) (.tup [.int (at7 l k + v)]) = some (tupI (l.take k.toNat ++ [at7 l k + v])) := ti_add (b := [at7 l k + v]) (by rw [List.length_take]; show min _ _ + 1 ≤ _; omega)
  have f3 := ti_drop (l := l) (i := k + 1) (by omega) (by omega)
  have f4 := ti_add (a := l.take k.toNat ++ [at7 l k + v]) (b := l.drop (k + 1).toNat) (by rw [List.length_append, List.length_take, List.length_drop]; show min _ _ + 1 + _ ≤ _; omega)
  have od := any7 (l := l.take k.toNat ++ [at7 l k + v] ++ l.drop (k + 1).toNat) (by rw [List.length_append, List.length_append, List.length_take, List.length_drop]; show min _ _ + 1 + _ = _; omega)
  refine ⟨_, m3, ?_, g3, od⟩
  unfold X4 at e3
  have p15 := pw15
  generalize tupI (l.take k.toNat ++ [at7 l k + v] ++ l.drop (k + 1).toNat) = R at *
  generalize tupI (l.take k.toNat ++ [at7 l k + v]) = R1 at *
  generalize tupI (l.take k.toNat) = R2 at *
  generalize tupI (l.drop (k + 1).toNat) = R3 at *
  generalize tupI l = T at *
  generalize at7 l k = y at *
  have q0 : CK.f .eq (.int 4) (.int 0) = some (.bl false) := rfl
  have q1 : CK.f .eq (.int 4) (.int 1) = some (.bl false) := rfl
  have q2 : CK.f .eq (.int 4) (.int 2) = some (.bl false) := rfl
  have q3 : CK.f .eq (.int 4) (.int 3) = some (.bl false) := rfl
  have q4 : CK.f .eq (.int 4) (.int 4) = some (.bl true) := rfl
  refine (e_run [0] 4 _ _ rfl).trans ?_
  unfold b__law_spoilt
  simp only [startE, List.map, List.length, List.replicate, e_Seq, e_Asg, e_Ret, e_RetF, e_Expr, e_exprK, e_op, e_op2, e_op1, e_un, e_is, e_B, e_bK, e_Cons, e_consK, e_consK2, e_Nil, e_var, e_C, e_bind, e_bindX, e_bindB, e_lookS, e_lookO, M.toD, e_of, e_asgK, e_gSet, e_stK, e_sqN, e_sqR, e_sqB, e_sqC, e_sNil, e_retK, e_retFK, e_add, e_vI, e_neg, e_fInt, e_fIntB, e_sIf, e_sifT, e_sifF, e_T, e_toB, e_Tru, e_truB, e_And, e_Or, e_andT, e_andF, e_orT, e_orF, e_Not, e_notK, e_AndV, e_OrV, e_andVT, e_andVF, e_orVT, e_orVF, e_NotV, e_notVK, e_If, e_ifT, e_ifF, e_Tup, e_Lst, e_LstF, e_tup0, e_lst0, e_lstF0, e_eqI, e_neI, e_ltI, e_leI, e_gtI, e_geI, e_lenL, e_lenT, e_lenR, e_lenS, e_ixL, e_ixT, at0, at1, at2, at3, e_tupL, e_tupT, e_lstT, e_Own, e_ownK, e_Sub, e_For, e_Items, e_itL, e_itT, e_itR, e_Call, e_CallF, e_aNil, e_aVal, e_aVK, e_aVK2, step0, step1, step2, step3, out0, out1, out2, out3, outX1, outX2, outO1, outO2, outO3, e_onSh, e_onOw, decide_true, decide_false, Bool.not_true, Bool.not_false, List.cons_append, List.nil_append, List.getElem?_cons_zero, List.getElem?_cons_succ, List.set_cons_zero, List.set_cons_succ, Nat.reduceLT, Nat.reduceAdd, Nat.reduceSub, Option.map_some, finF, outsE, e_frz, d_rng7, e_forK, e_tnN, e_tnC, e_tnB, e_tnR, e_whT, e_whF, e_Raise, e_Par, e_parK, e_parK2, e_augK, e_Ch, e_chK1, e_chK2, e_chT, e_chF, e_Try, e_tryO, e_tru, e_While, e_abs, e_max2, e_min2, e_gSq2, e_tup1, e_lst1, e_tup2, e_lst2, e_tup3, e_lst3, e_tup4, e_lst4, e_tup5, e_lst5, e_tup6, e_lst6, e_tup7, e_lst7, e_tup8, e_lst8, e_RaF, e_raF1, e_raF2, e_TryA, e_tryAO, e_asgnK, e_frzX, e_bindX, e_Fld, e_SFld, e_Mk, e_mkK1, e_mkK2, e_mkK3, e_mkK4, e_mkO, e_mkX, e_Met, e_metK2, e_Enum, e_enumL, e_enumT, pairs2, pairs3, pairs4, e_lst13, e_lst14, e_lst15, e_lst16, e_lst9, e_lst10, e_lst11, e_lst12, e_tup9, e_tup10, e_tup11, e_tup12, e_ListF, e_listFT, e_listFL, e_GetK, e_getK, e_IfB, e_ifBT, e_ifBF, e_notB, e_isB, o_int, o_str, o_tup, o_lst, o_non, o_bl, n_int, n_str, n_tup, n_lst, n_non, n_bl, e_Sl, e_sl1, e_sl2, e_sl3, e_NoPart, e_Part, e_prt, step4, out4, e_aIo (m := m), stepO2 (m := m), e1, e_aIo (m := m1), stepO2 (m := m1), e2, q0, q1, q2, q3, q4, f1, f2, f3, f4, ix, p15, e_aIo (m := m2), stepO2 (m := m2), e3, -e_eqI, -e_ixT]
theorem sp5 (h : l.length = 7) (k0 : 0 ≤ k) (k1 : k < 7) (g : Good m2) (e1 : m__law_take [.ow m, .sh (.int 7)] = .ok (.sh (.int k)) [m1]) (e2 : m__law_take [.ow m1, .sh (.int 6)] = .ok (.sh (.int 5)) [m2]) : OF (m__law_spoilt [.ow m, .sh (tupI l)]) := by
  obtain ⟨z, m3, e3, g3, hz⟩ := pick_ok g (xs := [.non, .int 7, .str "abcdefg", tupI (l.drop k.toNat ++ l.take k.toNat), tupI l.reverse]) (by show 0 < 5; decide) (by show 5 < 1000; decide)
  have f1 := ti_take (l := l) k0 (by omega)
  have f3 := ti_drop (l := l) k0 (by omega)
  have f4 := ti_add (a := l.drop k.toNat) (b := l.take k.toNat) (by rw [List.length_take, List.length_drop]; omega)
  have rv := rev_ok l
  refine ⟨z, m3, ?_, g3, ?_⟩
  · generalize tupI (l.drop k.toNat ++ l.take k.toNat) = R at *
    generalize tupI (l.take k.toNat) = R2 at *
    generalize tupI (l.drop k.toNat) = R3 at *
    generalize tupI l.reverse = R4 at *
    generalize tupI l = T at *
    have q0 : CK.f .eq (.int 5) (.int 0) = some (.bl false) := rfl
    have q1 : CK.f .eq (.int 5) (.int 1) = some (.bl false) := rfl
    have q2 : CK.f .eq (.int 5) (.int 2) = some (.bl false) := rfl
    have q3 : CK.f .eq (.int 5) (.int 3) = some (.bl false) := rfl
    have q4 : CK.f .eq (.int 5) (.int 4) = some (.bl false) := rfl
    refine (e_run [0] 4 _ _ rfl).trans ?_
    unfold b__law_spoilt
    simp only [startE, List.map, List.length, List.replicate, e_Seq, e_Asg, e_Ret, e_RetF, e_Expr, e_exprK, e_op, e_op2, e_op1, e_un, e_is, e_B, e_bK, e_Cons, e_consK, e_consK2, e_Nil, e_var, e_C, e_bind, e_bindX, e_bindB, e_lookS, e_lookO, M.toD, e_of, e_asgK, e_gSet, e_stK, e_sqN, e_sqR, e_sqB, e_sqC, e_sNil, e_retK, e_retFK, e_add, e_vI, e_neg, e_fInt, e_fIntB, e_sIf, e_sifT, e_sifF, e_T, e_toB, e_Tru, e_truB, e_And, e_Or, e_andT, e_andF, e_orT, e_orF, e_Not, e_notK, e_AndV, e_OrV, e_andVT, e_andVF, e_orVT, e_orVF, e_NotV, e_notVK, e_If, e_ifT, e_ifF, e_Tup, e_Lst, e_LstF, e_tup0, e_lst0, e_lstF0, e_eqI, e_neI, e_ltI, e_leI, e_gtI, e_geI, e_lenL, e_lenT, e_lenR, e_lenS, e_ixL, e_ixT, at0, at1, at2, at3, e_tupL, e_tupT, e_lstT, e_Own, e_ownK, e_Sub, e_For, e_Items, e_itL, e_itT, e_itR, e_Call, e_CallF, e_aNil, e_aVal, e_aVK, e_aVK2, step0, step1, step2, step3, out0, out1, out2, out3, outX1, outX2, outO1, outO2, outO3, e_onSh, e_onOw, decide_true, decide_false, Bool.not_true, Bool.not_false, List.cons_append, List.nil_append, List.getElem?_cons_zero, List.getElem?_cons_succ, List.set_cons_zero, List.set_cons_succ, Nat.reduceLT, Nat.reduceAdd, Nat.reduceSub, Option.map_some, finF, outsE, e_frz, d_rng7, e_forK, e_tnN, e_tnC, e_tnB, e_tnR, e_whT, e_whF, e_Raise, e_Par, e_parK, e_parK2, e_augK, e_Ch, e_chK1, e_chK2, e_chT, e_chF, e_Try, e_tryO, e_tru, e_While, e_abs, e_max2, e_min2, e_gSq2, e_tup1, e_lst1, e_tup2, e_lst2, e_tup3, e_lst3, e_tup4, e_lst4, e_tup5, e_lst5, e_tup6, e_lst6, e_tup7, e_lst7, e_tup8, e_lst8, e_RaF, e_raF1, e_raF2, e_TryA, e_tryAO, e_asgnK, e_frzX, e_bindX, e_Fld, e_SFld, e_Mk, e_mkK1, e_mkK2, e_mkK3, e_mkK4, e_mkO, e_mkX, e_Met, e_metK2, e_Enum, e_enumL, e_enumT, pairs2, pairs3, pairs4, e_lst13, e_lst14, e_lst15, e_lst16, e_lst9, e_lst10, e_lst11, e_lst12, e_tup9, e_tup10, e_tup11, e_tup12, e_ListF, e_listFT, e_listFL, e_GetK, e_getK, e_IfB, e_ifBT, e_ifBF, e_notB, e_isB, o_int, o_str, o_tup, o_lst, o_non, o_bl, n_int, n_str, n_tup, n_lst, n_non, n_bl, e_Sl, e_sl1, e_sl2, e_sl3, e_NoPart, e_Part, e_prt, step4, out4, e_aIo (m := m), stepO2 (m := m), e1, e_aIo (m := m1), stepO2 (m := m1), e2, q0, q1, q2, q3, q4, f1, f3, f4, rv, e_aIo (m := m2), stepO2 (m := m2), e3, -e_eqI]
  · simp only [List.mem_cons, List.not_mem_nil, or_false] at hz
    rcases hz with rfl | rfl | rfl | rfl | rfl
    · exact .inl ⟨by kernel_rfl, by kernel_rfl⟩
    · exact .inl ⟨by kernel_rfl, by kernel_rfl⟩
    · exact .inl ⟨by kernel_rfl, by kernel_rfl⟩
    · exact any7 (by rw [List.length_append, List.length_take, List.length_drop]; omega)
    · exact any7 (by rw [List.length_reverse, h])
end
theorem spoilt_ok {m : M} (hm : Good m) {l : List Int} (h : l.length = 7) : OF (m__law_spoilt [.ow m, .sh (tupI l)]) := by
  obtain ⟨k, m1, e1, g1, k0, k1⟩ := tk (n := 7) hm (by decide)
  obtain ⟨a, m2, e2, g2, a0, a1⟩ := tk (n := 6) g1 (by decide)
  have ha : a = 0 ∨ a = 1 ∨ a = 2 ∨ a = 3 ∨ a = 4 ∨ a = 5 := by omega
  rcases ha with rfl | rfl | rfl | rfl | rfl | rfl
  · exact sp0 g2 e1 e2
  · exact sp1 h k0 k1 g2 e1 e2
  · exact sp2 h k0 k1 g2 e1 e2
  · exact sp3 h k0 k1 g2 e1 e2
  · exact sp4 h k0 k1 g2 e1 e2
  · exact sp5 h k0 k1 g2 e1 e2
end L20
set_option Elab.async false
set_option linter.all false
set_option maxRecDepth 100000
set_option maxHeartbeats 4000000
namespace L20
open PySem L2 Rf Sv
/-! ### hops drawn -/
theorem step_ok {m : M} (hm : Good m) : ∃ r m', m__law_step [.ow m] = .ok (.sh (.int r)) [m'] ∧ Good m' ∧ -30 ≤ r ∧ r ≤ 30 := by
  obtain ⟨a, m1, e1, g1, a0, a1⟩ := tk (n := 8) hm (by decide)
  have q := eqI a 0
  by_cases ha : a = 0
  · obtain ⟨b, m2, e2, g2, b0, b1⟩ := tk (n := 61) g1 (by decide)
    rw [show (a == 0) = true by rw [ha]; rfl] at q
    refine ⟨b - 30, m2, ?_, g2, by omega, by omega⟩
    refine (e_run [0] 1 _ _ rfl).trans ?_
    unfold b__law_step
    simp only [startE, List.map, List.length, List.replicate, e_Seq, e_Asg, e_Ret, e_RetF, e_Expr, e_exprK, e_op, e_op2, e_op1, e_un, e_is, e_B, e_bK, e_Cons, e_consK, e_consK2, e_Nil, e_var, e_C, e_bind, e_bindX, e_bindB, e_lookS, e_lookO, M.toD, e_of, e_asgK, e_gSet, e_stK, e_sqN, e_sqR, e_sqB, e_sqC, e_sNil, e_retK, e_retFK, e_add, e_vI, e_neg, e_fInt, e_fIntB, e_sIf, e_sifT, e_sifF, e_T, e_toB, e_Tru, e_truB, e_And, e_Or, e_andT, e_andF, e_orT, e_orF, e_Not, e_notK, e_AndV, e_OrV, e_andVT, e_andVF, e_orVT, e_orVF, e_NotV, e_notVK, e_If, e_ifT, e_ifF, e_Tup, e_Lst, e_LstF, e_tup0, e_lst0, e_lstF0, e_eqI, e_neI, e_ltI, e_leI, e_gtI, e_geI, e_lenL, e_lenT, e_lenR, e_lenS, e_ixL, e_ixT, at0, at1, at2, at3, e_tupL, e_tupT, e_lstT, e_Own, e_ownK, e_Sub, e_For, e_Items, e_itL, e_itT, e_itR, e_Call, e_CallF, e_aNil, e_aVal, e_aVK, e_aVK2, step0, step1, step2, step3, out0, out1, out2, out3, outX1, outX2, outO1, outO2, outO3, e_onSh, e_onOw, decide_true, decide_false, Bool.not_true, Bool.not_false, List.cons_append, List.nil_append, List.getElem?_cons_zero, List.getElem?_cons_succ, List.set_cons_zero, List.set_cons_succ, Nat.reduceLT, Nat.reduceAdd, Nat.reduceSub, Option.map_some, finF, outsE, e_frz, d_rng7, e_forK, e_tnN, e_tnC, e_tnB, e_tnR, e_whT, e_whF, e_Raise, e_Par, e_parK, e_parK2, e_augK, e_Ch, e_chK1, e_chK2, e_chT, e_chF, e_Try, e_tryO, e_tru, e_While, e_abs, e_max2, e_min2, e_gSq2, e_tup1, e_lst1, e_tup2, e_lst2, e_tup3, e_lst3, e_tup4, e_lst4, e_tup5, e_lst5, e_tup6, e_lst6, e_tup7, e_lst7, e_tup8, e_lst8, e_RaF, e_raF1, e_raF2, e_TryA, e_tryAO, e_asgnK, e_frzX, e_bindX, e_Fld, e_SFld, e_Mk, e_mkK1, e_mkK2, e_mkK3, e_mkK4, e_mkO, e_mkX, e_Met, e_metK2, e_Enum, e_enumL, e_enumT, pairs2, pairs3, pairs4, e_lst13, e_lst14, e_lst15, e_lst16, e_lst9, e_lst10, e_lst11, e_lst12, e_tup9, e_tup10, e_tup11, e_tup12, e_ListF, e_listFT, e_listFL, e_GetK, e_getK, e_IfB, e_ifBT, e_ifBF, e_notB, e_isB, o_int, o_str, o_tup, o_lst, o_non, o_bl, n_int, n_str, n_tup, n_lst, n_non, n_bl, e_aIo (m := m), stepO2 (m := m), e1, q, e_aIo (m := m1), stepO2 (m := m1), e2, -e_eqI]
  · obtain ⟨b, m2, e2, g2, b0, b1⟩ := tk (n := 7) g1 (by decide)
    rw [beq_false_of_ne ha] at q
    refine ⟨b - 3, m2, ?_, g2, by omega, by omega⟩
    refine (e_run [0] 1 _ _ rfl).trans ?_
    unfold b__law_step
    simp only [startE, List.map, List.length, List.replicate, e_Seq, e_Asg, e_Ret, e_RetF, e_Expr, e_exprK, e_op, e_op2, e_op1, e_un, e_is, e_B, e_bK, e_Cons, e_consK, e_consK2, e_Nil, e_var, e_C, e_bind, e_bindX, e_bindB, e_lookS, e_lookO, M.toD, e_of, e_asgK, e_gSet, e_stK, e_sqN, e_sqR, e_sqB, e_sqC, e_sNil, e_retK, e_retFK, e_add, e_vI, e_neg, e_fInt, e_fIntB, e_sIf, e_sifT, e_sifF, e_T, e_toB, e_Tru, e_truB, e_And, e_Or, e_andT, e_andF, e_orT, e_orF, e_Not, e_notK, e_AndV, e_OrV, e_andVT, e_andVF, e_orVT, e_orVF, e_NotV, e_notVK, e_If, e_ifT, e_ifF, e_Tup, e_Lst, e_LstF, e_tup0, e_lst0, e_lstF0, e_eqI, e_neI, e_ltI, e_leI, e_gtI, e_geI, e_lenL, e_lenT, e_lenR, e_lenS, e_ixL, e_ixT, at0, at1, at2, at3, e_tupL, e_tupT, e_lstT, e_Own, e_ownK, e_Sub, e_For, e_Items, e_itL, e_itT, e_itR, e_Call, e_CallF, e_aNil, e_aVal, e_aVK, e_aVK2, step0, step1, step2, step3, out0, out1, out2, out3, outX1, outX2, outO1, outO2, outO3, e_onSh, e_onOw, decide_true, decide_false, Bool.not_true, Bool.not_false, List.cons_append, List.nil_append, List.getElem?_cons_zero, List.getElem?_cons_succ, List.set_cons_zero, List.set_cons_succ, Nat.reduceLT, Nat.reduceAdd, Nat.reduceSub, Option.map_some, finF, outsE, e_frz, d_rng7, e_forK, e_tnN, e_tnC, e_tnB, e_tnR, e_whT, e_whF, e_Raise, e_Par, e_parK, e_parK2, e_augK, e_Ch, e_chK1, e_chK2, e_chT, e_chF, e_Try, e_tryO, e_tru, e_While, e_abs, e_max2, e_min2, e_gSq2, e_tup1, e_lst1, e_tup2, e_lst2, e_tup3, e_lst3, e_tup4, e_lst4, e_tup5, e_lst5, e_tup6, e_lst6, e_tup7, e_lst7, e_tup8, e_lst8, e_RaF, e_raF1, e_raF2, e_TryA, e_tryAO, e_asgnK, e_frzX, e_bindX, e_Fld, e_SFld, e_Mk, e_mkK1, e_mkK2, e_mkK3, e_mkK4, e_mkO, e_mkX, e_Met, e_metK2, e_Enum, e_enumL, e_enumT, pairs2, pairs3, pairs4, e_lst13, e_lst14, e_lst15, e_lst16, e_lst9, e_lst10, e_lst11, e_lst12, e_tup9, e_tup10, e_tup11, e_tup12, e_ListF, e_listFT, e_listFL, e_GetK, e_getK, e_IfB, e_ifBT, e_ifBF, e_notB, e_isB, o_int, o_str, o_tup, o_lst, o_non, o_bl, n_int, n_str, n_tup, n_lst, n_non, n_bl, e_aIo (m := m), stepO2 (m := m), e1, q, e_aIo (m := m1), stepO2 (m := m1), e2, -e_eqI]
theorem hop_ok {m : M} (hm : Good m) : ∃ (h : Hop) (m' : M), m__law_hop [.ow m] = .ok (.sh h.d) [m'] ∧ Good m' ∧ h.fit := by
  obtain ⟨a, m1, e1, g1, a0, a1⟩ := tk (n := 4) hm (by decide)
  have q := ltI a 2
  by_cases h2 : a < 2
  · obtain ⟨k, m2, e2, g2, k0, k1⟩ := step_ok g1
    rw [decide_eq_true h2] at q
    refine ⟨.pl k, m2, ?_, g2, k0, k1⟩
    refine (e_run [0] 2 _ _ rfl).trans ?_
    unfold b__law_hop Hop.d
    simp only [startE, List.map, List.length, List.replicate, e_Seq, e_Asg, e_Ret, e_RetF, e_Expr, e_exprK, e_op, e_op2, e_op1, e_un, e_is, e_B, e_bK, e_Cons, e_consK, e_consK2, e_Nil, e_var, e_C, e_bind, e_bindX, e_bindB, e_lookS, e_lookO, M.toD, e_of, e_asgK, e_gSet, e_stK, e_sqN, e_sqR, e_sqB, e_sqC, e_sNil, e_retK, e_retFK, e_add, e_vI, e_neg, e_fInt, e_fIntB, e_sIf, e_sifT, e_sifF, e_T, e_toB, e_Tru, e_truB, e_And, e_Or, e_andT, e_andF, e_orT, e_orF, e_Not, e_notK, e_AndV, e_OrV, e_andVT, e_andVF, e_orVT, e_orVF, e_NotV, e_notVK, e_If, e_ifT, e_ifF, e_Tup, e_Lst, e_LstF, e_tup0, e_lst0, e_lstF0, e_eqI, e_neI, e_ltI, e_leI, e_gtI, e_geI, e_lenL, e_lenT, e_lenR, e_lenS, e_ixL, e_ixT, at0, at1, at2, at3, e_tupL, e_tupT, e_lstT, e_Own, e_ownK, e_Sub, e_For, e_Items, e_itL, e_itT, e_itR, e_Call, e_CallF, e_aNil, e_aVal, e_aVK, e_aVK2, step0, step1, step2, step3, out0, out1, out2, out3, outX1, outX2, outO1, outO2, outO3, e_onSh, e_onOw, decide_true, decide_false, Bool.not_true, Bool.not_false, List.cons_append, List.nil_append, List.getElem?_cons_zero, List.getElem?_cons_succ, List.set_cons_zero, List.set_cons_succ, Nat.reduceLT, Nat.reduceAdd, Nat.reduceSub, Option.map_some, finF, outsE, e_frz, d_rng7, e_forK, e_tnN, e_tnC, e_tnB, e_tnR, e_whT, e_whF, e_Raise, e_Par, e_parK, e_parK2, e_augK, e_Ch, e_chK1, e_chK2, e_chT, e_chF, e_Try, e_tryO, e_tru, e_While, e_abs, e_max2, e_min2, e_gSq2, e_tup1, e_lst1, e_tup2, e_lst2, e_tup3, e_lst3, e_tup4, e_lst4, e_tup5, e_lst5, e_tup6, e_lst6, e_tup7, e_lst7, e_tup8, e_lst8, e_RaF, e_raF1, e_raF2, e_TryA, e_tryAO, e_asgnK, e_frzX, e_bindX, e_Fld, e_SFld, e_Mk, e_mkK1, e_mkK2, e_mkK3, e_mkK4, e_mkO, e_mkX, e_Met, e_metK2, e_Enum, e_enumL, e_enumT, pairs2, pairs3, pairs4, e_lst13, e_lst14, e_lst15, e_lst16, e_lst9, e_lst10, e_lst11, e_lst12, e_tup9, e_tup10, e_tup11, e_tup12, e_ListF, e_listFT, e_listFL, e_GetK, e_getK, e_IfB, e_ifBT, e_ifBF, e_notB, e_isB, o_int, o_str, o_tup, o_lst, o_non, o_bl, n_int, n_str, n_tup, n_lst, n_non, n_bl, e_aIo (m := m), stepO2 (m := m), e1, q, e_aIo (m := m1), stepO1 (m := m1), e2, -e_ltI]
  · obtain ⟨w, m2, e2, g2, w0, w1⟩ := tk (n := 7) g1 (by decide)
    rw [decide_eq_false h2] at q
    have ha : a = 2 ∨ a = 3 := by omega
    rcases ha with rfl | rfl
    · refine ⟨.co w, m2, ?_, g2, w0, by omega⟩
      have i0 : vIxI (.lst [.str "coming", .str "last"]) (.int (2 - 2)) = some (.str "coming") := by kernel_rfl
      refine (e_run [0] 2 _ _ rfl).trans ?_
      unfold b__law_hop Hop.d
      simp only [startE, List.map, List.length, List.replicate, e_Seq, e_Asg, e_Ret, e_RetF, e_Expr, e_exprK, e_op, e_op2, e_op1, e_un, e_is, e_B, e_bK, e_Cons, e_consK, e_consK2, e_Nil, e_var, e_C, e_bind, e_bindX, e_bindB, e_lookS, e_lookO, M.toD, e_of, e_asgK, e_gSet, e_stK, e_sqN, e_sqR, e_sqB, e_sqC, e_sNil, e_retK, e_retFK, e_add, e_vI, e_neg, e_fInt, e_fIntB, e_sIf, e_sifT, e_sifF, e_T, e_toB, e_Tru, e_truB, e_And, e_Or, e_andT, e_andF, e_orT, e_orF, e_Not, e_notK, e_AndV, e_OrV, e_andVT, e_andVF, e_orVT, e_orVF, e_NotV, e_notVK, e_If, e_ifT, e_ifF, e_Tup, e_Lst, e_LstF, e_tup0, e_lst0, e_lstF0, e_eqI, e_neI, e_ltI, e_leI, e_gtI, e_geI, e_lenL, e_lenT, e_lenR, e_lenS, e_ixL, e_ixT, at0, at1, at2, at3, e_tupL, e_tupT, e_lstT, e_Own, e_ownK, e_Sub, e_For, e_Items, e_itL, e_itT, e_itR, e_Call, e_CallF, e_aNil, e_aVal, e_aVK, e_aVK2, step0, step1, step2, step3, out0, out1, out2, out3, outX1, outX2, outO1, outO2, outO3, e_onSh, e_onOw, decide_true, decide_false, Bool.not_true, Bool.not_false, List.cons_append, List.nil_append, List.getElem?_cons_zero, List.getElem?_cons_succ, List.set_cons_zero, List.set_cons_succ, Nat.reduceLT, Nat.reduceAdd, Nat.reduceSub, Option.map_some, finF, outsE, e_frz, d_rng7, e_forK, e_tnN, e_tnC, e_tnB, e_tnR, e_whT, e_whF, e_Raise, e_Par, e_parK, e_parK2, e_augK, e_Ch, e_chK1, e_chK2, e_chT, e_chF, e_Try, e_tryO, e_tru, e_While, e_abs, e_max2, e_min2, e_gSq2, e_tup1, e_lst1, e_tup2, e_lst2, e_tup3, e_lst3, e_tup4, e_lst4, e_tup5, e_lst5, e_tup6, e_lst6, e_tup7, e_lst7, e_tup8, e_lst8, e_RaF, e_raF1, e_raF2, e_TryA, e_tryAO, e_asgnK, e_frzX, e_bindX, e_Fld, e_SFld, e_Mk, e_mkK1, e_mkK2, e_mkK3, e_mkK4, e_mkO, e_mkX, e_Met, e_metK2, e_Enum, e_enumL, e_enumT, pairs2, pairs3, pairs4, e_lst13, e_lst14, e_lst15, e_lst16, e_lst9, e_lst10, e_lst11, e_lst12, e_tup9, e_tup10, e_tup11, e_tup12, e_ListF, e_listFT, e_listFL, e_GetK, e_getK, e_IfB, e_ifBT, e_ifBF, e_notB, e_isB, o_int, o_str, o_tup, o_lst, o_non, o_bl, n_int, n_str, n_tup, n_lst, n_non, n_bl, e_aIo (m := m), stepO2 (m := m), e1, q, i0, e_aIo (m := m1), stepO2 (m := m1), e2, -e_ltI, -e_ixL]
    · refine ⟨.la w, m2, ?_, g2, w0, by omega⟩
      have i0 : vIxI (.lst [.str "coming", .str "last"]) (.int (3 - 2)) = some (.str "last") := by kernel_rfl
      refine (e_run [0] 2 _ _ rfl).trans ?_
      unfold b__law_hop Hop.d
      simp only [startE, List.map, List.length, List.replicate, e_Seq, e_Asg, e_Ret, e_RetF, e_Expr, e_exprK, e_op, e_op2, e_op1, e_un, e_is, e_B, e_bK, e_Cons, e_consK, e_consK2, e_Nil, e_var, e_C, e_bind, e_bindX, e_bindB, e_lookS, e_lookO, M.toD, e_of, e_asgK, e_gSet, e_stK, e_sqN, e_sqR, e_sqB, e_sqC, e_sNil, e_retK, e_retFK, e_add, e_vI, e_neg, e_fInt, e_fIntB, e_sIf, e_sifT, e_sifF, e_T, e_toB, e_Tru, e_truB, e_And, e_Or, e_andT, e_andF, e_orT, e_orF, e_Not, e_notK, e_AndV, e_OrV, e_andVT, e_andVF, e_orVT, e_orVF, e_NotV, e_notVK, e_If, e_ifT, e_ifF, e_Tup, e_Lst, e_LstF, e_tup0, e_lst0, e_lstF0, e_eqI, e_neI, e_ltI, e_leI, e_gtI, e_geI, e_lenL, e_lenT, e_lenR, e_lenS, e_ixL, e_ixT, at0, at1, at2, at3, e_tupL, e_tupT, e_lstT, e_Own, e_ownK, e_Sub, e_For, e_Items, e_itL, e_itT, e_itR, e_Call, e_CallF, e_aNil, e_aVal, e_aVK, e_aVK2, step0, step1, step2, step3, out0, out1, out2, out3, outX1, outX2, outO1, outO2, outO3, e_onSh, e_onOw, decide_true, decide_false, Bool.not_true, Bool.not_false, List.cons_append, List.nil_append, List.getElem?_cons_zero, List.getElem?_cons_succ, List.set_cons_zero, List.set_cons_succ, Nat.reduceLT, Nat.reduceAdd, Nat.reduceSub, Option.map_some, finF, outsE, e_frz, d_rng7, e_forK, e_tnN, e_tnC, e_tnB, e_tnR, e_whT, e_whF, e_Raise, e_Par, e_parK, e_parK2, e_augK, e_Ch, e_chK1, e_chK2, e_chT, e_chF, e_Try, e_tryO, e_tru, e_While, e_abs, e_max2, e_min2, e_gSq2, e_tup1, e_lst1, e_tup2, e_lst2, e_tup3, e_lst3, e_tup4, e_lst4, e_tup5, e_lst5, e_tup6, e_lst6, e_tup7, e_lst7, e_tup8, e_lst8, e_RaF, e_raF1, e_raF2, e_TryA, e_tryAO, e_asgnK, e_frzX, e_bindX, e_Fld, e_SFld, e_Mk, e_mkK1, e_mkK2, e_mkK3, e_mkK4, e_mkO, e_mkX, e_Met, e_metK2, e_Enum, e_enumL, e_enumT, pairs2, pairs3, pairs4, e_lst13, e_lst14, e_lst15, e_lst16, e_lst9, e_lst10, e_lst11, e_lst12, e_tup9, e_tup10, e_tup11, e_tup12, e_ListF, e_listFT, e_listFL, e_GetK, e_getK, e_IfB, e_ifBT, e_ifBF, e_notB, e_isB, o_int, o_str, o_tup, o_lst, o_non, o_bl, n_int, n_str, n_tup, n_lst, n_non, n_bl, e_aIo (m := m), stepO2 (m := m), e1, q, i0, e_aIo (m := m1), stepO2 (m := m1), e2, -e_ltI, -e_ixL]
/-! ### is it a hop? -/
section
variable {T : D} {k : Str} {i : Int}
theorem ishop_pl (b c : Bool) (h1 : decide (-30 ≤ i) = b) (h2 : decide (i ≤ 30) = c) : m_is_hop [.sh (.tup [.str "plus", .int i])] = .ok (.sh (.bl (b && c))) [] := by
  have tT : isTy "tuple" (.tup [.str "plus", .int i]) = some true := rfl
  have ll : fLen [.tup [.str "plus", .int i]] = some (.int 2) := rfl
  have i0 : vIxI (.tup [.str "plus", .int i]) (.int 0) = some (.str "plus") := at0 _ _
  have i1 : vIxI (.tup [.str "plus", .int i]) (.int 1) = some (.int i) := at1 _ _ _
  have nn : CK.f .ne (.int 2) (.int 2) = some (.bl false) := rfl
  have w := is_whole_ok i
  have q1 := leI (-30) i
  have q2 := leI i 30
  rw [h1] at q1
  rw [h2] at q2
  generalize D.tup [.str "plus", .int i] = Z at *
  refine (e_run [] 1 _ _ rfl).trans ?_
  unfold b_is_hop
  cases b <;> cases c <;> simp only [startE, List.map, List.length, List.replicate, e_Seq, e_Asg, e_Ret, e_RetF, e_Expr, e_exprK, e_op, e_op2, e_op1, e_un, e_is, e_B, e_bK, e_Cons, e_consK, e_consK2, e_Nil, e_var, e_C, e_bind, e_bindX, e_bindB, e_lookS, e_lookO, M.toD, e_of, e_asgK, e_gSet, e_stK, e_sqN, e_sqR, e_sqB, e_sqC, e_sNil, e_retK, e_retFK, e_add, e_vI, e_neg, e_fInt, e_fIntB, e_sIf, e_sifT, e_sifF, e_T, e_toB, e_Tru, e_truB, e_And, e_Or, e_andT, e_andF, e_orT, e_orF, e_Not, e_notK, e_AndV, e_OrV, e_andVT, e_andVF, e_orVT, e_orVF, e_NotV, e_notVK, e_If, e_ifT, e_ifF, e_Tup, e_Lst, e_LstF, e_tup0, e_lst0, e_lstF0, e_eqI, e_neI, e_ltI, e_leI, e_gtI, e_geI, e_lenL, e_lenT, e_lenR, e_lenS, e_ixL, e_ixT, at0, at1, at2, at3, e_tupL, e_tupT, e_lstT, e_Own, e_ownK, e_Sub, e_For, e_Items, e_itL, e_itT, e_itR, e_Call, e_CallF, e_aNil, e_aVal, e_aVK, e_aVK2, step0, step1, step2, step3, out0, out1, out2, out3, outX1, outX2, outO1, outO2, outO3, e_onSh, e_onOw, decide_true, decide_false, Bool.not_true, Bool.not_false, List.cons_append, List.nil_append, List.getElem?_cons_zero, List.getElem?_cons_succ, List.set_cons_zero, List.set_cons_succ, Nat.reduceLT, Nat.reduceAdd, Nat.reduceSub, Option.map_some, finF, outsE, e_frz, d_rng7, e_forK, e_tnN, e_tnC, e_tnB, e_tnR, e_whT, e_whF, e_Raise, e_Par, e_parK, e_parK2, e_augK, e_Ch, e_chK1, e_chK2, e_chT, e_chF, e_Try, e_tryO, e_tru, e_While, e_abs, e_max2, e_min2, e_gSq2, e_tup1, e_lst1, e_tup2, e_lst2, e_tup3, e_lst3, e_tup4, e_lst4, e_tup5, e_lst5, e_tup6, e_lst6, e_tup7, e_lst7, e_tup8, e_lst8, e_RaF, e_raF1, e_raF2, e_TryA, e_tryAO, e_asgnK, e_frzX, e_bindX, e_Fld, e_SFld, e_Mk, e_mkK1, e_mkK2, e_mkK3, e_mkK4, e_mkO, e_mkX, e_Met, e_metK2, e_Enum, e_enumL, e_enumT, pairs2, pairs3, pairs4, e_lst13, e_lst14, e_lst15, e_lst16, e_lst9, e_lst10, e_lst11, e_lst12, e_tup9, e_tup10, e_tup11, e_tup12, e_ListF, e_listFT, e_listFL, e_GetK, e_getK, e_IfB, e_ifBT, e_ifBF, e_notB, e_isB, o_int, o_str, o_tup, o_lst, o_non, o_bl, n_int, n_str, n_tup, n_lst, n_non, n_bl, tT, ll, i0, i1, nn, w, q1, q2, s_pp, Bool.and_true, Bool.and_false, Bool.and_self, -e_ixT, -e_lenT, -e_neI, -e_leI]
theorem ishop_wk (hk : k = "coming" ∨ k = "last") (b c : Bool) (h1 : decide (0 ≤ i) = b) (h2 : decide (i ≤ 6) = c) : m_is_hop [.sh (.tup [.str k, .int i])] = .ok (.sh (.bl (b && c))) [] := by
  have tT : isTy "tuple" (.tup [.str k, .int i]) = some true := rfl
  have ll : fLen [.tup [.str k, .int i]] = some (.int 2) := rfl
  have i0 : vIxI (.tup [.str k, .int i]) (.int 0) = some (.str k) := at0 _ _
  have i1 : vIxI (.tup [.str k, .int i]) (.int 1) = some (.int i) := at1 _ _ _
  have nn : CK.f .ne (.int 2) (.int 2) = some (.bl false) := rfl
  have w := is_whole_ok i
  have p : CK.f .eq (.str k) (.str "plus") = some (.bl false) := by rcases hk with rfl | rfl <;> kernel_rfl
  have n : CK.f .in_ (.str k) (.tup [.str "coming", .str "last"]) = some (.bl true) := by rcases hk with rfl | rfl <;> kernel_rfl
  have q1 := leI 0 i
  have q2 := leI i 6
  rw [h1] at q1
  rw [h2] at q2
  generalize D.tup [.str k, .int i] = Z at *
  refine (e_run [] 1 _ _ rfl).trans ?_
  unfold b_is_hop
  cases b <;> cases c <;> simp only [startE, List.map, List.length, List.replicate, e_Seq, e_Asg, e_Ret, e_RetF, e_Expr, e_exprK, e_op, e_op2, e_op1, e_un, e_is, e_B, e_bK, e_Cons, e_consK, e_consK2, e_Nil, e_var, e_C, e_bind, e_bindX, e_bindB, e_lookS, e_lookO, M.toD, e_of, e_asgK, e_gSet, e_stK, e_sqN, e_sqR, e_sqB, e_sqC, e_sNil, e_retK, e_retFK, e_add, e_vI, e_neg, e_fInt, e_fIntB, e_sIf, e_sifT, e_sifF, e_T, e_toB, e_Tru, e_truB, e_And, e_Or, e_andT, e_andF, e_orT, e_orF, e_Not, e_notK, e_AndV, e_OrV, e_andVT, e_andVF, e_orVT, e_orVF, e_NotV, e_notVK, e_If, e_ifT, e_ifF, e_Tup, e_Lst, e_LstF, e_tup0, e_lst0, e_lstF0, e_eqI, e_neI, e_ltI, e_leI, e_gtI, e_geI, e_lenL, e_lenT, e_lenR, e_lenS, e_ixL, e_ixT, at0, at1, at2, at3, e_tupL, e_tupT, e_lstT, e_Own, e_ownK, e_Sub, e_For, e_Items, e_itL, e_itT, e_itR, e_Call, e_CallF, e_aNil, e_aVal, e_aVK, e_aVK2, step0, step1, step2, step3, out0, out1, out2, out3, outX1, outX2, outO1, outO2, outO3, e_onSh, e_onOw, decide_true, decide_false, Bool.not_true, Bool.not_false, List.cons_append, List.nil_append, List.getElem?_cons_zero, List.getElem?_cons_succ, List.set_cons_zero, List.set_cons_succ, Nat.reduceLT, Nat.reduceAdd, Nat.reduceSub, Option.map_some, finF, outsE, e_frz, d_rng7, e_forK, e_tnN, e_tnC, e_tnB, e_tnR, e_whT, e_whF, e_Raise, e_Par, e_parK, e_parK2, e_augK, e_Ch, e_chK1, e_chK2, e_chT, e_chF, e_Try, e_tryO, e_tru, e_While, e_abs, e_max2, e_min2, e_gSq2, e_tup1, e_lst1, e_tup2, e_lst2, e_tup3, e_lst3, e_tup4, e_lst4, e_tup5, e_lst5, e_tup6, e_lst6, e_tup7, e_lst7, e_tup8, e_lst8, e_RaF, e_raF1, e_raF2, e_TryA, e_tryAO, e_asgnK, e_frzX, e_bindX, e_Fld, e_SFld, e_Mk, e_mkK1, e_mkK2, e_mkK3, e_mkK4, e_mkO, e_mkX, e_Met, e_metK2, e_Enum, e_enumL, e_enumT, pairs2, pairs3, pairs4, e_lst13, e_lst14, e_lst15, e_lst16, e_lst9, e_lst10, e_lst11, e_lst12, e_tup9, e_tup10, e_tup11, e_tup12, e_ListF, e_listFT, e_listFL, e_GetK, e_getK, e_IfB, e_ifBT, e_ifBF, e_notB, e_isB, o_int, o_str, o_tup, o_lst, o_non, o_bl, n_int, n_str, n_tup, n_lst, n_non, n_bl, tT, ll, i0, i1, nn, w, q1, q2, p, n, Bool.and_true, Bool.and_false, Bool.and_self, -e_ixT, -e_lenT, -e_neI, -e_leI]
end
theorem hop_is {h : Hop} (hh : h.fit) : m_is_hop [.sh h.d] = .ok (.sh (.bl true)) [] := by
  cases h with
  | pl k => exact ishop_pl true true (decide_eq_true hh.1) (decide_eq_true hh.2)
  | co w => exact ishop_wk (.inl rfl) true true (decide_eq_true hh.1) (decide_eq_true hh.2)
  | la w => exact ishop_wk (.inr rfl) true true (decide_eq_true hh.1) (decide_eq_true hh.2)
def BadH (z : D) : Prop := m_is_hop [.sh z] = .ok (.sh (.bl false)) []
def LB (k : Int) : List D := [.tup [.str "plus", .int (31 + k)], .tup [.str "plus", .int (-31 - k)], .tup [.str "plus", .bl true], .tup [.str "plus", .non], .tup [.str "coming", .int (7 + k)], .tup [.str "coming", .int (-1 - k)], .tup [.str "last", .int 7], .tup [.str "last", .bl true], .tup [.str "then", .int 3], .tup [.str "plus"], .tup [.str "plus", .int 1, .int 1], .lst [.str "plus", .int 1], .str "plus", .non, .tup [], .tup [.int 3, .str "plus"]]
theorem lb_bad {k : Int} (h0 : 0 ≤ k) : ∀ z ∈ LB k, BadH z := by
  unfold LB
  refine List.forall_mem_cons.mpr ⟨ishop_pl true false (decide_eq_true (by omega)) (decide_eq_false (by omega)), ?_⟩
  refine List.forall_mem_cons.mpr ⟨ishop_pl false true (decide_eq_false (by omega)) (decide_eq_true (by omega)), ?_⟩
  refine List.forall_mem_cons.mpr ⟨(by unfold BadH; kernel_rfl), ?_⟩
  refine List.forall_mem_cons.mpr ⟨(by unfold BadH; kernel_rfl), ?_⟩
  refine List.forall_mem_cons.mpr ⟨ishop_wk (.inl rfl) true false (decide_eq_true (by omega)) (decide_eq_false (by omega)), ?_⟩
  refine List.forall_mem_cons.mpr ⟨ishop_wk (.inl rfl) false true (decide_eq_false (by omega)) (decide_eq_true (by omega)), ?_⟩
  refine List.forall_mem_cons.mpr ⟨(by unfold BadH; kernel_rfl), ?_⟩
  refine List.forall_mem_cons.mpr ⟨(by unfold BadH; kernel_rfl), ?_⟩
  refine List.forall_mem_cons.mpr ⟨(by unfold BadH; kernel_rfl), ?_⟩
  refine List.forall_mem_cons.mpr ⟨(by unfold BadH; kernel_rfl), ?_⟩
  refine List.forall_mem_cons.mpr ⟨(by unfold BadH; kernel_rfl), ?_⟩
  refine List.forall_mem_cons.mpr ⟨(by unfold BadH; kernel_rfl), ?_⟩
  refine List.forall_mem_cons.mpr ⟨(by unfold BadH; kernel_rfl), ?_⟩
  refine List.forall_mem_cons.mpr ⟨(by unfold BadH; kernel_rfl), ?_⟩
  refine List.forall_mem_cons.mpr ⟨(by unfold BadH; kernel_rfl), ?_⟩
  refine List.forall_mem_cons.mpr ⟨(by unfold BadH; kernel_rfl), ?_⟩
  exact fun _ h => nomatch h
theorem pw6 : vIc cPow (fun i j => i ^ j.toNat) (.int 10) (.int 6) = some (.int 1000000) := by kernel_rfl
theorem badhop_ok {m : M} (hm : Good m) : ∃ z m', m__law_bad_hop [.ow m] = .ok (.sh z) [m'] ∧ Good m' ∧ BadH z := by
  obtain ⟨k, m1, e1, g1, k0, k1⟩ := tk (n := 1000000) hm (by decide)
  obtain ⟨z, m2, e2, g2, hz⟩ := pick_ok g1 (xs := LB k) (by show 0 < 16; decide) (by show 16 < 1000; decide)
  refine ⟨z, m2, ?_, g2, lb_bad k0 z hz⟩
  unfold LB at e2
  have p6 := pw6
  refine (e_run [0] 2 _ _ rfl).trans ?_
  unfold b__law_bad_hop
  simp only [startE, List.map, List.length, List.replicate, e_Seq, e_Asg, e_Ret, e_RetF, e_Expr, e_exprK, e_op, e_op2, e_op1, e_un, e_is, e_B, e_bK, e_Cons, e_consK, e_consK2, e_Nil, e_var, e_C, e_bind, e_bindX, e_bindB, e_lookS, e_lookO, M.toD, e_of, e_asgK, e_gSet, e_stK, e_sqN, e_sqR, e_sqB, e_sqC, e_sNil, e_retK, e_retFK, e_add, e_vI, e_neg, e_fInt, e_fIntB, e_sIf, e_sifT, e_sifF, e_T, e_toB, e_Tru, e_truB, e_And, e_Or, e_andT, e_andF, e_orT, e_orF, e_Not, e_notK, e_AndV, e_OrV, e_andVT, e_andVF, e_orVT, e_orVF, e_NotV, e_notVK, e_If, e_ifT, e_ifF, e_Tup, e_Lst, e_LstF, e_tup0, e_lst0, e_lstF0, e_eqI, e_neI, e_ltI, e_leI, e_gtI, e_geI, e_lenL, e_lenT, e_lenR, e_lenS, e_ixL, e_ixT, at0, at1, at2, at3, e_tupL, e_tupT, e_lstT, e_Own, e_ownK, e_Sub, e_For, e_Items, e_itL, e_itT, e_itR, e_Call, e_CallF, e_aNil, e_aVal, e_aVK, e_aVK2, step0, step1, step2, step3, out0, out1, out2, out3, outX1, outX2, outO1, outO2, outO3, e_onSh, e_onOw, decide_true, decide_false, Bool.not_true, Bool.not_false, List.cons_append, List.nil_append, List.getElem?_cons_zero, List.getElem?_cons_succ, List.set_cons_zero, List.set_cons_succ, Nat.reduceLT, Nat.reduceAdd, Nat.reduceSub, Option.map_some, finF, outsE, e_frz, d_rng7, e_forK, e_tnN, e_tnC, e_tnB, e_tnR, e_whT, e_whF, e_Raise, e_Par, e_parK, e_parK2, e_augK, e_Ch, e_chK1, e_chK2, e_chT, e_chF, e_Try, e_tryO, e_tru, e_While, e_abs, e_max2, e_min2, e_gSq2, e_tup1, e_lst1, e_tup2, e_lst2, e_tup3, e_lst3, e_tup4, e_lst4, e_tup5, e_lst5, e_tup6, e_lst6, e_tup7, e_lst7, e_tup8, e_lst8, e_RaF, e_raF1, e_raF2, e_TryA, e_tryAO, e_asgnK, e_frzX, e_bindX, e_Fld, e_SFld, e_Mk, e_mkK1, e_mkK2, e_mkK3, e_mkK4, e_mkO, e_mkX, e_Met, e_metK2, e_Enum, e_enumL, e_enumT, pairs2, pairs3, pairs4, e_lst13, e_lst14, e_lst15, e_lst16, e_lst9, e_lst10, e_lst11, e_lst12, e_tup9, e_tup10, e_tup11, e_tup12, e_ListF, e_listFT, e_listFL, e_GetK, e_getK, e_IfB, e_ifBT, e_ifBF, e_notB, e_isB, o_int, o_str, o_tup, o_lst, o_non, o_bl, n_int, n_str, n_tup, n_lst, n_non, n_bl, p6, e_aIo (m := m), stepO2 (m := m), e1, e_aIo (m := m1), stepO2 (m := m1), e2]
/-! ### led -/
theorem led_lst {s : Sh} {h : Hop} {B : Int} (hs : s.fit B) (hh : h.fit) : ledL s h = (s.hop h).lst := by
  rw [← (s.hop h).map]
  unfold ledL
  exact List.map_congr_left fun r _ => hop_at hs (by cases h <;> first | trivial | exact hh) r
theorem hopped_ok {s : Sh} {h : Hop} (hh : h.fit) : m__law_hopped [.sh (tupI s.lst), .sh h.d] = .ok (.sh (tupI (ledL s h))) [] := by
  have cn := fun d => counted_ok (hop_w hh) d
  have ix : ∀ n ∈ R7, vIxI (tupI s.lst) (.int n) = some (.int (s.at n)) := fun n hn => t_ix (s.atI hn)
  have sl : (sAsg (dIf (dT (dCmp .eq (dIx (dVar 1) (dC (.int 0))) (dC (.str "plus")))) (dTup (dCons (dC (.str "today")) (dCons (dIx (dVar 1) (dC (.int 1))) (dNil)))) (dVar 1)) (gSet 2)) [some (.sh (tupI s.lst)), some (.sh h.d), none, none] = .ok .nx [some (.sh (tupI s.lst)), some (.sh h.d), some (.sh (wordD h)), none] := by
    generalize tupI s.lst = S at *
    cases h with
    | pl k =>
      have i0 : vIxI (Hop.pl k).d (.int 0) = some (.str "plus") := at0 _ _
      have i1 : vIxI (Hop.pl k).d (.int 1) = some (.int k) := at1 _ _ _
      unfold wordD
      dsimp only
      generalize (Hop.pl k).d = H at *
      simp only [startE, List.map, List.length, List.replicate, e_Seq, e_Asg, e_Ret, e_RetF, e_Expr, e_exprK, e_op, e_op2, e_op1, e_un, e_is, e_B, e_bK, e_Cons, e_consK, e_consK2, e_Nil, e_var, e_C, e_bind, e_bindX, e_bindB, e_lookS, e_lookO, M.toD, e_of, e_asgK, e_gSet, e_stK, e_sqN, e_sqR, e_sqB, e_sqC, e_sNil, e_retK, e_retFK, e_add, e_vI, e_neg, e_fInt, e_fIntB, e_sIf, e_sifT, e_sifF, e_T, e_toB, e_Tru, e_truB, e_And, e_Or, e_andT, e_andF, e_orT, e_orF, e_Not, e_notK, e_AndV, e_OrV, e_andVT, e_andVF, e_orVT, e_orVF, e_NotV, e_notVK, e_If, e_ifT, e_ifF, e_Tup, e_Lst, e_LstF, e_tup0, e_lst0, e_lstF0, e_eqI, e_neI, e_ltI, e_leI, e_gtI, e_geI, e_lenL, e_lenT, e_lenR, e_lenS, e_ixL, e_ixT, at0, at1, at2, at3, e_tupL, e_tupT, e_lstT, e_Own, e_ownK, e_Sub, e_For, e_Items, e_itL, e_itT, e_itR, e_Call, e_CallF, e_aNil, e_aVal, e_aVK, e_aVK2, step0, step1, step2, step3, out0, out1, out2, out3, outX1, outX2, outO1, outO2, outO3, e_onSh, e_onOw, decide_true, decide_false, Bool.not_true, Bool.not_false, List.cons_append, List.nil_append, List.getElem?_cons_zero, List.getElem?_cons_succ, List.set_cons_zero, List.set_cons_succ, Nat.reduceLT, Nat.reduceAdd, Nat.reduceSub, Option.map_some, finF, outsE, e_frz, d_rng7, e_forK, e_tnN, e_tnC, e_tnB, e_tnR, e_whT, e_whF, e_Raise, e_Par, e_parK, e_parK2, e_augK, e_Ch, e_chK1, e_chK2, e_chT, e_chF, e_Try, e_tryO, e_tru, e_While, e_abs, e_max2, e_min2, e_gSq2, e_tup1, e_lst1, e_tup2, e_lst2, e_tup3, e_lst3, e_tup4, e_lst4, e_tup5, e_lst5, e_tup6, e_lst6, e_tup7, e_lst7, e_tup8, e_lst8, e_RaF, e_raF1, e_raF2, e_TryA, e_tryAO, e_asgnK, e_frzX, e_bindX, e_Fld, e_SFld, e_Mk, e_mkK1, e_mkK2, e_mkK3, e_mkK4, e_mkO, e_mkX, e_Met, e_metK2, e_Enum, e_enumL, e_enumT, pairs2, pairs3, pairs4, e_lst13, e_lst14, e_lst15, e_lst16, e_lst9, e_lst10, e_lst11, e_lst12, e_tup9, e_tup10, e_tup11, e_tup12, e_ListF, e_listFT, e_listFL, e_GetK, e_getK, e_IfB, e_ifBT, e_ifBF, e_notB, e_isB, o_int, o_str, o_tup, o_lst, o_non, o_bl, n_int, n_str, n_tup, n_lst, n_non, n_bl, i0, i1, s_pp, -e_ixT]
    | co k =>
      have i0 : vIxI (Hop.co k).d (.int 0) = some (.str "coming") := at0 _ _
      unfold wordD
      dsimp only
      generalize (Hop.co k).d = H at *
      simp only [startE, List.map, List.length, List.replicate, e_Seq, e_Asg, e_Ret, e_RetF, e_Expr, e_exprK, e_op, e_op2, e_op1, e_un, e_is, e_B, e_bK, e_Cons, e_consK, e_consK2, e_Nil, e_var, e_C, e_bind, e_bindX, e_bindB, e_lookS, e_lookO, M.toD, e_of, e_asgK, e_gSet, e_stK, e_sqN, e_sqR, e_sqB, e_sqC, e_sNil, e_retK, e_retFK, e_add, e_vI, e_neg, e_fInt, e_fIntB, e_sIf, e_sifT, e_sifF, e_T, e_toB, e_Tru, e_truB, e_And, e_Or, e_andT, e_andF, e_orT, e_orF, e_Not, e_notK, e_AndV, e_OrV, e_andVT, e_andVF, e_orVT, e_orVF, e_NotV, e_notVK, e_If, e_ifT, e_ifF, e_Tup, e_Lst, e_LstF, e_tup0, e_lst0, e_lstF0, e_eqI, e_neI, e_ltI, e_leI, e_gtI, e_geI, e_lenL, e_lenT, e_lenR, e_lenS, e_ixL, e_ixT, at0, at1, at2, at3, e_tupL, e_tupT, e_lstT, e_Own, e_ownK, e_Sub, e_For, e_Items, e_itL, e_itT, e_itR, e_Call, e_CallF, e_aNil, e_aVal, e_aVK, e_aVK2, step0, step1, step2, step3, out0, out1, out2, out3, outX1, outX2, outO1, outO2, outO3, e_onSh, e_onOw, decide_true, decide_false, Bool.not_true, Bool.not_false, List.cons_append, List.nil_append, List.getElem?_cons_zero, List.getElem?_cons_succ, List.set_cons_zero, List.set_cons_succ, Nat.reduceLT, Nat.reduceAdd, Nat.reduceSub, Option.map_some, finF, outsE, e_frz, d_rng7, e_forK, e_tnN, e_tnC, e_tnB, e_tnR, e_whT, e_whF, e_Raise, e_Par, e_parK, e_parK2, e_augK, e_Ch, e_chK1, e_chK2, e_chT, e_chF, e_Try, e_tryO, e_tru, e_While, e_abs, e_max2, e_min2, e_gSq2, e_tup1, e_lst1, e_tup2, e_lst2, e_tup3, e_lst3, e_tup4, e_lst4, e_tup5, e_lst5, e_tup6, e_lst6, e_tup7, e_lst7, e_tup8, e_lst8, e_RaF, e_raF1, e_raF2, e_TryA, e_tryAO, e_asgnK, e_frzX, e_bindX, e_Fld, e_SFld, e_Mk, e_mkK1, e_mkK2, e_mkK3, e_mkK4, e_mkO, e_mkX, e_Met, e_metK2, e_Enum, e_enumL, e_enumT, pairs2, pairs3, pairs4, e_lst13, e_lst14, e_lst15, e_lst16, e_lst9, e_lst10, e_lst11, e_lst12, e_tup9, e_tup10, e_tup11, e_tup12, e_ListF, e_listFT, e_listFL, e_GetK, e_getK, e_IfB, e_ifBT, e_ifBF, e_notB, e_isB, o_int, o_str, o_tup, o_lst, o_non, o_bl, n_int, n_str, n_tup, n_lst, n_non, n_bl, i0, s_cp, -e_ixT]
    | la k =>
      have i0 : vIxI (Hop.la k).d (.int 0) = some (.str "last") := at0 _ _
      unfold wordD
      dsimp only
      generalize (Hop.la k).d = H at *
      simp only [startE, List.map, List.length, List.replicate, e_Seq, e_Asg, e_Ret, e_RetF, e_Expr, e_exprK, e_op, e_op2, e_op1, e_un, e_is, e_B, e_bK, e_Cons, e_consK, e_consK2, e_Nil, e_var, e_C, e_bind, e_bindX, e_bindB, e_lookS, e_lookO, M.toD, e_of, e_asgK, e_gSet, e_stK, e_sqN, e_sqR, e_sqB, e_sqC, e_sNil, e_retK, e_retFK, e_add, e_vI, e_neg, e_fInt, e_fIntB, e_sIf, e_sifT, e_sifF, e_T, e_toB, e_Tru, e_truB, e_And, e_Or, e_andT, e_andF, e_orT, e_orF, e_Not, e_notK, e_AndV, e_OrV, e_andVT, e_andVF, e_orVT, e_orVF, e_NotV, e_notVK, e_If, e_ifT, e_ifF, e_Tup, e_Lst, e_LstF, e_tup0, e_lst0, e_lstF0, e_eqI, e_neI, e_ltI, e_leI, e_gtI, e_geI, e_lenL, e_lenT, e_lenR, e_lenS, e_ixL, e_ixT, at0, at1, at2, at3, e_tupL, e_tupT, e_lstT, e_Own, e_ownK, e_Sub, e_For, e_Items, e_itL, e_itT, e_itR, e_Call, e_CallF, e_aNil, e_aVal, e_aVK, e_aVK2, step0, step1, step2, step3, out0, out1, out2, out3, outX1, outX2, outO1, outO2, outO3, e_onSh, e_onOw, decide_true, decide_false, Bool.not_true, Bool.not_false, List.cons_append, List.nil_append, List.getElem?_cons_zero, List.getElem?_cons_succ, List.set_cons_zero, List.set_cons_succ, Nat.reduceLT, Nat.reduceAdd, Nat.reduceSub, Option.map_some, finF, outsE, e_frz, d_rng7, e_forK, e_tnN, e_tnC, e_tnB, e_tnR, e_whT, e_whF, e_Raise, e_Par, e_parK, e_parK2, e_augK, e_Ch, e_chK1, e_chK2, e_chT, e_chF, e_Try, e_tryO, e_tru, e_While, e_abs, e_max2, e_min2, e_gSq2, e_tup1, e_lst1, e_tup2, e_lst2, e_tup3, e_lst3, e_tup4, e_lst4, e_tup5, e_lst5, e_tup6, e_lst6, e_tup7, e_lst7, e_tup8, e_lst8, e_RaF, e_raF1, e_raF2, e_TryA, e_tryAO, e_asgnK, e_frzX, e_bindX, e_Fld, e_SFld, e_Mk, e_mkK1, e_mkK2, e_mkK3, e_mkK4, e_mkO, e_mkX, e_Met, e_metK2, e_Enum, e_enumL, e_enumT, pairs2, pairs3, pairs4, e_lst13, e_lst14, e_lst15, e_lst16, e_lst9, e_lst10, e_lst11, e_lst12, e_tup9, e_tup10, e_tup11, e_tup12, e_ListF, e_listFT, e_listFL, e_GetK, e_getK, e_IfB, e_ifBT, e_ifBF, e_notB, e_isB, o_int, o_str, o_tup, o_lst, o_non, o_bl, n_int, n_str, n_tup, n_lst, n_non, n_bl, i0, s_lp, -e_ixT]
  generalize tupI s.lst = S at *
  generalize wordD h = W at *
  generalize h.d = H at *
  have hc := lc_mapI (ρ := [some (.sh S), some (.sh H), some (.sh W), none]) (i := 3) (ns := [0, 1, 2, 3, 4, 5, 6]) (di := dRng1 (dC (.int 7)))
    (te := dSub (dCall m__law_counted (aVal (dAdd (dVar 3) (dIx (dVar 0) (dVar 3))) (aVal (dVar 2) (aNil)))) (dVar 3)) (fun r => h.on (r + s.at r) - r) (d_rng7 _) rfl (fun n hn => by
      have := ix n hn
      simp only [startE, List.map, List.length, List.replicate, e_Seq, e_Asg, e_Ret, e_RetF, e_Expr, e_exprK, e_op, e_op2, e_op1, e_un, e_is, e_B, e_bK, e_Cons, e_consK, e_consK2, e_Nil, e_var, e_C, e_bind, e_bindX, e_bindB, e_lookS, e_lookO, M.toD, e_of, e_asgK, e_gSet, e_stK, e_sqN, e_sqR, e_sqB, e_sqC, e_sNil, e_retK, e_retFK, e_add, e_vI, e_neg, e_fInt, e_fIntB, e_sIf, e_sifT, e_sifF, e_T, e_toB, e_Tru, e_truB, e_And, e_Or, e_andT, e_andF, e_orT, e_orF, e_Not, e_notK, e_AndV, e_OrV, e_andVT, e_andVF, e_orVT, e_orVF, e_NotV, e_notVK, e_If, e_ifT, e_ifF, e_Tup, e_Lst, e_LstF, e_tup0, e_lst0, e_lstF0, e_eqI, e_neI, e_ltI, e_leI, e_gtI, e_geI, e_lenL, e_lenT, e_lenR, e_lenS, e_ixL, e_ixT, at0, at1, at2, at3, e_tupL, e_tupT, e_lstT, e_Own, e_ownK, e_Sub, e_For, e_Items, e_itL, e_itT, e_itR, e_Call, e_CallF, e_aNil, e_aVal, e_aVK, e_aVK2, step0, step1, step2, step3, out0, out1, out2, out3, outX1, outX2, outO1, outO2, outO3, e_onSh, e_onOw, decide_true, decide_false, Bool.not_true, Bool.not_false, List.cons_append, List.nil_append, List.getElem?_cons_zero, List.getElem?_cons_succ, List.set_cons_zero, List.set_cons_succ, Nat.reduceLT, Nat.reduceAdd, Nat.reduceSub, Option.map_some, finF, outsE, e_frz, d_rng7, e_forK, e_tnN, e_tnC, e_tnB, e_tnR, e_whT, e_whF, e_Raise, e_Par, e_parK, e_parK2, e_augK, e_Ch, e_chK1, e_chK2, e_chT, e_chF, e_Try, e_tryO, e_tru, e_While, e_abs, e_max2, e_min2, e_gSq2, e_tup1, e_lst1, e_tup2, e_lst2, e_tup3, e_lst3, e_tup4, e_lst4, e_tup5, e_lst5, e_tup6, e_lst6, e_tup7, e_lst7, e_tup8, e_lst8, this, cn, -e_ixT]) (by decide)
  have e7 : ([0, 1, 2, 3, 4, 5, 6] : List Int) = R7 := rfl
  rw [e7] at hc
  have tf := t_of (ledL s h)
  have hl : R7.map (fun r => h.on (r + s.at r) - r) = ledL s h := rfl
  rw [hl] at hc
  generalize ledL s h = L at *
  refine (e_run [] 4 _ _ rfl).trans ?_
  unfold b__law_hopped
  rw [show startE 4 [.sh S, .sh H] = [some (.sh S), some (.sh H), none, none] from rfl, seq_ok sl]
  generalize fLc _ _ _ _ _ = X at *
  simp only [startE, List.map, List.length, List.replicate, e_Seq, e_Asg, e_Ret, e_RetF, e_Expr, e_exprK, e_op, e_op2, e_op1, e_un, e_is, e_B, e_bK, e_Cons, e_consK, e_consK2, e_Nil, e_var, e_C, e_bind, e_bindX, e_bindB, e_lookS, e_lookO, M.toD, e_of, e_asgK, e_gSet, e_stK, e_sqN, e_sqR, e_sqB, e_sqC, e_sNil, e_retK, e_retFK, e_add, e_vI, e_neg, e_fInt, e_fIntB, e_sIf, e_sifT, e_sifF, e_T, e_toB, e_Tru, e_truB, e_And, e_Or, e_andT, e_andF, e_orT, e_orF, e_Not, e_notK, e_AndV, e_OrV, e_andVT, e_andVF, e_orVT, e_orVF, e_NotV, e_notVK, e_If, e_ifT, e_ifF, e_Tup, e_Lst, e_LstF, e_tup0, e_lst0, e_lstF0, e_eqI, e_neI, e_ltI, e_leI, e_gtI, e_geI, e_lenL, e_lenT, e_lenR, e_lenS, e_ixL, e_ixT, at0, at1, at2, at3, e_tupL, e_tupT, e_lstT, e_Own, e_ownK, e_Sub, e_For, e_Items, e_itL, e_itT, e_itR, e_Call, e_CallF, e_aNil, e_aVal, e_aVK, e_aVK2, step0, step1, step2, step3, out0, out1, out2, out3, outX1, outX2, outO1, outO2, outO3, e_onSh, e_onOw, decide_true, decide_false, Bool.not_true, Bool.not_false, List.cons_append, List.nil_append, List.getElem?_cons_zero, List.getElem?_cons_succ, List.set_cons_zero, List.set_cons_succ, Nat.reduceLT, Nat.reduceAdd, Nat.reduceSub, Option.map_some, finF, outsE, e_frz, d_rng7, e_forK, e_tnN, e_tnC, e_tnB, e_tnR, e_whT, e_whF, e_Raise, e_Par, e_parK, e_parK2, e_augK, e_Ch, e_chK1, e_chK2, e_chT, e_chF, e_Try, e_tryO, e_tru, e_While, e_abs, e_max2, e_min2, e_gSq2, e_tup1, e_lst1, e_tup2, e_lst2, e_tup3, e_lst3, e_tup4, e_lst4, e_tup5, e_lst5, e_tup6, e_lst6, e_tup7, e_lst7, e_tup8, e_lst8, e_RaF, e_raF1, e_raF2, e_TryA, e_tryAO, e_asgnK, e_frzX, e_bindX, e_Fld, e_SFld, e_Mk, e_mkK1, e_mkK2, e_mkK3, e_mkK4, e_mkO, e_mkX, e_Met, e_metK2, e_Enum, e_enumL, e_enumT, pairs2, pairs3, pairs4, e_lst13, e_lst14, e_lst15, e_lst16, e_lst9, e_lst10, e_lst11, e_lst12, e_tup9, e_tup10, e_tup11, e_tup12, e_ListF, e_listFT, e_listFL, e_GetK, e_getK, e_IfB, e_ifBT, e_ifBF, e_notB, e_isB, o_int, o_str, o_tup, o_lst, o_non, o_bl, n_int, n_str, n_tup, n_lst, n_non, n_bl, hc, tf]
section
variable {s : Sh} {B : Int}
theorem lead_fit {h : Hop} (hs : s.fit B) (hh : h.fit) : m_lead_sevens [.sh (tupI s.lst), .sh h.d] = .ok (.sh (tupI (ledL s h))) [] := by
  have e := shape2_ok hs
  have i := hop_is hh
  have l := lead_ok s h
  generalize tupI s.lst = S at *
  generalize tupI (ledL s h) = L at *
  generalize s.d = Z at *
  generalize h.d = H at *
  refine (e_run [] 2 _ _ rfl).trans ?_
  unfold b_lead_sevens
  simp only [startE, List.map, List.length, List.replicate, e_Seq, e_Asg, e_Ret, e_RetF, e_Expr, e_exprK, e_op, e_op2, e_op1, e_un, e_is, e_B, e_bK, e_Cons, e_consK, e_consK2, e_Nil, e_var, e_C, e_bind, e_bindX, e_bindB, e_lookS, e_lookO, M.toD, e_of, e_asgK, e_gSet, e_stK, e_sqN, e_sqR, e_sqB, e_sqC, e_sNil, e_retK, e_retFK, e_add, e_vI, e_neg, e_fInt, e_fIntB, e_sIf, e_sifT, e_sifF, e_T, e_toB, e_Tru, e_truB, e_And, e_Or, e_andT, e_andF, e_orT, e_orF, e_Not, e_notK, e_AndV, e_OrV, e_andVT, e_andVF, e_orVT, e_orVF, e_NotV, e_notVK, e_If, e_ifT, e_ifF, e_Tup, e_Lst, e_LstF, e_tup0, e_lst0, e_lstF0, e_eqI, e_neI, e_ltI, e_leI, e_gtI, e_geI, e_lenL, e_lenT, e_lenR, e_lenS, e_ixL, e_ixT, at0, at1, at2, at3, e_tupL, e_tupT, e_lstT, e_Own, e_ownK, e_Sub, e_For, e_Items, e_itL, e_itT, e_itR, e_Call, e_CallF, e_aNil, e_aVal, e_aVK, e_aVK2, step0, step1, step2, step3, out0, out1, out2, out3, outX1, outX2, outO1, outO2, outO3, e_onSh, e_onOw, decide_true, decide_false, Bool.not_true, Bool.not_false, List.cons_append, List.nil_append, List.getElem?_cons_zero, List.getElem?_cons_succ, List.set_cons_zero, List.set_cons_succ, Nat.reduceLT, Nat.reduceAdd, Nat.reduceSub, Option.map_some, finF, outsE, e_frz, d_rng7, e_forK, e_tnN, e_tnC, e_tnB, e_tnR, e_whT, e_whF, e_Raise, e_Par, e_parK, e_parK2, e_augK, e_Ch, e_chK1, e_chK2, e_chT, e_chF, e_Try, e_tryO, e_tru, e_While, e_abs, e_max2, e_min2, e_gSq2, e_tup1, e_lst1, e_tup2, e_lst2, e_tup3, e_lst3, e_tup4, e_lst4, e_tup5, e_lst5, e_tup6, e_lst6, e_tup7, e_lst7, e_tup8, e_lst8, e_RaF, e_raF1, e_raF2, e_TryA, e_tryAO, e_asgnK, e_frzX, e_bindX, e_Fld, e_SFld, e_Mk, e_mkK1, e_mkK2, e_mkK3, e_mkK4, e_mkO, e_mkX, e_Met, e_metK2, e_Enum, e_enumL, e_enumT, pairs2, pairs3, pairs4, e_lst13, e_lst14, e_lst15, e_lst16, e_lst9, e_lst10, e_lst11, e_lst12, e_tup9, e_tup10, e_tup11, e_tup12, e_ListF, e_listFT, e_listFL, e_GetK, e_getK, e_IfB, e_ifBT, e_ifBF, e_notB, e_isB, o_int, o_str, o_tup, o_lst, o_non, o_bl, n_int, n_str, n_tup, n_lst, n_non, n_bl, e, i, l]
def bH (i : Int) : EX := ⟨2, [("index", .int i)]⟩
theorem lead_badh {z : D} (hs : s.fit B) (hz : BadH z) : m_lead_sevens [.sh (tupI s.lst), .sh z] = .exc (bH 0) [] := by
  have e := shape2_ok hs
  unfold BadH at hz
  generalize tupI s.lst = S at *
  generalize s.d = Z at *
  refine (e_run [] 2 _ _ rfl).trans ?_
  unfold b_lead_sevens bH
  simp only [startE, List.map, List.length, List.replicate, e_Seq, e_Asg, e_Ret, e_RetF, e_Expr, e_exprK, e_op, e_op2, e_op1, e_un, e_is, e_B, e_bK, e_Cons, e_consK, e_consK2, e_Nil, e_var, e_C, e_bind, e_bindX, e_bindB, e_lookS, e_lookO, M.toD, e_of, e_asgK, e_gSet, e_stK, e_sqN, e_sqR, e_sqB, e_sqC, e_sNil, e_retK, e_retFK, e_add, e_vI, e_neg, e_fInt, e_fIntB, e_sIf, e_sifT, e_sifF, e_T, e_toB, e_Tru, e_truB, e_And, e_Or, e_andT, e_andF, e_orT, e_orF, e_Not, e_notK, e_AndV, e_OrV, e_andVT, e_andVF, e_orVT, e_orVF, e_NotV, e_notVK, e_If, e_ifT, e_ifF, e_Tup, e_Lst, e_LstF, e_tup0, e_lst0, e_lstF0, e_eqI, e_neI, e_ltI, e_leI, e_gtI, e_geI, e_lenL, e_lenT, e_lenR, e_lenS, e_ixL, e_ixT, at0, at1, at2, at3, e_tupL, e_tupT, e_lstT, e_Own, e_ownK, e_Sub, e_For, e_Items, e_itL, e_itT, e_itR, e_Call, e_CallF, e_aNil, e_aVal, e_aVK, e_aVK2, step0, step1, step2, step3, out0, out1, out2, out3, outX1, outX2, outO1, outO2, outO3, e_onSh, e_onOw, decide_true, decide_false, Bool.not_true, Bool.not_false, List.cons_append, List.nil_append, List.getElem?_cons_zero, List.getElem?_cons_succ, List.set_cons_zero, List.set_cons_succ, Nat.reduceLT, Nat.reduceAdd, Nat.reduceSub, Option.map_some, finF, outsE, e_frz, d_rng7, e_forK, e_tnN, e_tnC, e_tnB, e_tnR, e_whT, e_whF, e_Raise, e_Par, e_parK, e_parK2, e_augK, e_Ch, e_chK1, e_chK2, e_chT, e_chF, e_Try, e_tryO, e_tru, e_While, e_abs, e_max2, e_min2, e_gSq2, e_tup1, e_lst1, e_tup2, e_lst2, e_tup3, e_lst3, e_tup4, e_lst4, e_tup5, e_lst5, e_tup6, e_lst6, e_tup7, e_lst7, e_tup8, e_lst8, e_RaF, e_raF1, e_raF2, e_TryA, e_tryAO, e_asgnK, e_frzX, e_bindX, e_Fld, e_SFld, e_Mk, e_mkK1, e_mkK2, e_mkK3, e_mkK4, e_mkO, e_mkX, e_Met, e_metK2, e_Enum, e_enumL, e_enumT, pairs2, pairs3, pairs4, e_lst13, e_lst14, e_lst15, e_lst16, e_lst9, e_lst10, e_lst11, e_lst12, e_tup9, e_tup10, e_tup11, e_tup12, e_ListF, e_listFT, e_listFL, e_GetK, e_getK, e_IfB, e_ifBT, e_ifBF, e_notB, e_isB, o_int, o_str, o_tup, o_lst, o_non, o_bl, n_int, n_str, n_tup, n_lst, n_non, n_bl, e, hz]
end
theorem lead_odd {z h : D} (hz : Odd z) : m_lead_sevens [.sh z, .sh h] = .exc bS [] := by
  have e := hz.1
  have o : ∀ ρ, outK [.inl z] ρ (.exc bS []) = .exc bS ρ := fun _ => rfl
  refine (e_run [] 2 _ _ rfl).trans ?_
  unfold b_lead_sevens
  simp only [startE, List.map, List.length, List.replicate, e_Seq, e_Asg, e_Ret, e_RetF, e_Expr, e_exprK, e_op, e_op2, e_op1, e_un, e_is, e_B, e_bK, e_Cons, e_consK, e_consK2, e_Nil, e_var, e_C, e_bind, e_bindX, e_bindB, e_lookS, e_lookO, M.toD, e_of, e_asgK, e_gSet, e_stK, e_sqN, e_sqR, e_sqB, e_sqC, e_sNil, e_retK, e_retFK, e_add, e_vI, e_neg, e_fInt, e_fIntB, e_sIf, e_sifT, e_sifF, e_T, e_toB, e_Tru, e_truB, e_And, e_Or, e_andT, e_andF, e_orT, e_orF, e_Not, e_notK, e_AndV, e_OrV, e_andVT, e_andVF, e_orVT, e_orVF, e_NotV, e_notVK, e_If, e_ifT, e_ifF, e_Tup, e_Lst, e_LstF, e_tup0, e_lst0, e_lstF0, e_eqI, e_neI, e_ltI, e_leI, e_gtI, e_geI, e_lenL, e_lenT, e_lenR, e_lenS, e_ixL, e_ixT, at0, at1, at2, at3, e_tupL, e_tupT, e_lstT, e_Own, e_ownK, e_Sub, e_For, e_Items, e_itL, e_itT, e_itR, e_Call, e_CallF, e_aNil, e_aVal, e_aVK, e_aVK2, step0, step1, step2, step3, out0, out1, out2, out3, outX1, outX2, outO1, outO2, outO3, e_onSh, e_onOw, decide_true, decide_false, Bool.not_true, Bool.not_false, List.cons_append, List.nil_append, List.getElem?_cons_zero, List.getElem?_cons_succ, List.set_cons_zero, List.set_cons_succ, Nat.reduceLT, Nat.reduceAdd, Nat.reduceSub, Option.map_some, finF, outsE, e_frz, d_rng7, e_forK, e_tnN, e_tnC, e_tnB, e_tnR, e_whT, e_whF, e_Raise, e_Par, e_parK, e_parK2, e_augK, e_Ch, e_chK1, e_chK2, e_chT, e_chF, e_Try, e_tryO, e_tru, e_While, e_abs, e_max2, e_min2, e_gSq2, e_tup1, e_lst1, e_tup2, e_lst2, e_tup3, e_lst3, e_tup4, e_lst4, e_tup5, e_lst5, e_tup6, e_lst6, e_tup7, e_lst7, e_tup8, e_lst8, e_RaF, e_raF1, e_raF2, e_TryA, e_tryAO, e_asgnK, e_frzX, e_bindX, e_Fld, e_SFld, e_Mk, e_mkK1, e_mkK2, e_mkK3, e_mkK4, e_mkO, e_mkX, e_Met, e_metK2, e_Enum, e_enumL, e_enumT, pairs2, pairs3, pairs4, e_lst13, e_lst14, e_lst15, e_lst16, e_lst9, e_lst10, e_lst11, e_lst12, e_tup9, e_tup10, e_tup11, e_tup12, e_ListF, e_listFT, e_listFL, e_GetK, e_getK, e_IfB, e_ifBT, e_ifBF, e_notB, e_isB, o_int, o_str, o_tup, o_lst, o_non, o_bl, n_int, n_str, n_tup, n_lst, n_non, n_bl, e, o]
def hdS : List HdD := [(1, none, fun _ => sRet (dC (.str "sevens"))), (2, some 2, fun ex_ => sRet (dIf (dAnd (dT (dCmp .eq (dXf (fun c => c == 2) "index" ex_) (dC (.int 0)))) (dTru (dCall m__law_whole (aVal (dXf (fun c => c == 2) "index" ex_) (aNil))))) (dC (.str "hop")) (dC (.str "index"))))]
def lrB : ENV → R Fl := sExpr (dCall m_lead_sevens (aVal (dVar 0) (aVal (dVar 1) (aNil))))
theorem lr_cut : b__law_lead_refused = sSeq (sTryM subT lrB hdS) (sRet (dC (.str "let"))) := rfl
theorem refused_odd {z h : D} (hz : Odd z) : m__law_lead_refused [.sh z, .sh h] = .ok (.sh (.str "sevens")) [] := by
  have e := lead_odd (h := h) hz
  have b : lrB [some (.sh z), some (.sh h), none] = .exc bS [some (.sh z), some (.sh h), none] := by
    unfold lrB
    have o : ∀ ρ, outK [.inl z, .inl h] ρ (.exc bS []) = .exc bS ρ := fun _ => rfl
    simp only [startE, List.map, List.length, List.replicate, e_Seq, e_Asg, e_Ret, e_RetF, e_Expr, e_exprK, e_op, e_op2, e_op1, e_un, e_is, e_B, e_bK, e_Cons, e_consK, e_consK2, e_Nil, e_var, e_C, e_bind, e_bindX, e_bindB, e_lookS, e_lookO, M.toD, e_of, e_asgK, e_gSet, e_stK, e_sqN, e_sqR, e_sqB, e_sqC, e_sNil, e_retK, e_retFK, e_add, e_vI, e_neg, e_fInt, e_fIntB, e_sIf, e_sifT, e_sifF, e_T, e_toB, e_Tru, e_truB, e_And, e_Or, e_andT, e_andF, e_orT, e_orF, e_Not, e_notK, e_AndV, e_OrV, e_andVT, e_andVF, e_orVT, e_orVF, e_NotV, e_notVK, e_If, e_ifT, e_ifF, e_Tup, e_Lst, e_LstF, e_tup0, e_lst0, e_lstF0, e_eqI, e_neI, e_ltI, e_leI, e_gtI, e_geI, e_lenL, e_lenT, e_lenR, e_lenS, e_ixL, e_ixT, at0, at1, at2, at3, e_tupL, e_tupT, e_lstT, e_Own, e_ownK, e_Sub, e_For, e_Items, e_itL, e_itT, e_itR, e_Call, e_CallF, e_aNil, e_aVal, e_aVK, e_aVK2, step0, step1, step2, step3, out0, out1, out2, out3, outX1, outX2, outO1, outO2, outO3, e_onSh, e_onOw, decide_true, decide_false, Bool.not_true, Bool.not_false, List.cons_append, List.nil_append, List.getElem?_cons_zero, List.getElem?_cons_succ, List.set_cons_zero, List.set_cons_succ, Nat.reduceLT, Nat.reduceAdd, Nat.reduceSub, Option.map_some, finF, outsE, e_frz, d_rng7, e_forK, e_tnN, e_tnC, e_tnB, e_tnR, e_whT, e_whF, e_Raise, e_Par, e_parK, e_parK2, e_augK, e_Ch, e_chK1, e_chK2, e_chT, e_chF, e_Try, e_tryO, e_tru, e_While, e_abs, e_max2, e_min2, e_gSq2, e_tup1, e_lst1, e_tup2, e_lst2, e_tup3, e_lst3, e_tup4, e_lst4, e_tup5, e_lst5, e_tup6, e_lst6, e_tup7, e_lst7, e_tup8, e_lst8, e_RaF, e_raF1, e_raF2, e_TryA, e_tryAO, e_asgnK, e_frzX, e_bindX, e_Fld, e_SFld, e_Mk, e_mkK1, e_mkK2, e_mkK3, e_mkK4, e_mkO, e_mkX, e_Met, e_metK2, e_Enum, e_enumL, e_enumT, pairs2, pairs3, pairs4, e_lst13, e_lst14, e_lst15, e_lst16, e_lst9, e_lst10, e_lst11, e_lst12, e_tup9, e_tup10, e_tup11, e_tup12, e_ListF, e_listFT, e_listFL, e_GetK, e_getK, e_IfB, e_ifBT, e_ifBF, e_notB, e_isB, o_int, o_str, o_tup, o_lst, o_non, o_bl, n_int, n_str, n_tup, n_lst, n_non, n_bl, e, o]
  have hd : hdR subT hdS bS [some (.sh z), some (.sh h), none] = .ok (.ret (.sh (.str "sevens"))) [some (.sh z), some (.sh h), none] := by kernel_rfl
  have t : sTryM subT lrB hdS [some (.sh z), some (.sh h), none] = .ok (.ret (.sh (.str "sevens"))) [some (.sh z), some (.sh h), none] := by
    unfold sTryM
    rw [b]
    exact hd
  refine (e_run [] 3 _ _ rfl).trans ?_
  rw [lr_cut, show startE 3 [.sh z, .sh h] = [some (.sh z), some (.sh h), none] from rfl, seq_ret t]
  rfl
theorem refused_badh {s : Sh} {B : Int} {z : D} (hs : s.fit B) (hz : BadH z) : m__law_lead_refused [.sh (tupI s.lst), .sh z] = .ok (.sh (.str "hop")) [] := by
  have e := lead_badh hs hz
  generalize tupI s.lst = S at *
  have b : lrB [some (.sh S), some (.sh z), none] = .exc (bH 0) [some (.sh S), some (.sh z), none] := by
    unfold lrB
    have o : ∀ ρ, outK [.inl S, .inl z] ρ (.exc (bH 0) []) = .exc (bH 0) ρ := fun _ => rfl
    simp only [startE, List.map, List.length, List.replicate, e_Seq, e_Asg, e_Ret, e_RetF, e_Expr, e_exprK, e_op, e_op2, e_op1, e_un, e_is, e_B, e_bK, e_Cons, e_consK, e_consK2, e_Nil, e_var, e_C, e_bind, e_bindX, e_bindB, e_lookS, e_lookO, M.toD, e_of, e_asgK, e_gSet, e_stK, e_sqN, e_sqR, e_sqB, e_sqC, e_sNil, e_retK, e_retFK, e_add, e_vI, e_neg, e_fInt, e_fIntB, e_sIf, e_sifT, e_sifF, e_T, e_toB, e_Tru, e_truB, e_And, e_Or, e_andT, e_andF, e_orT, e_orF, e_Not, e_notK, e_AndV, e_OrV, e_andVT, e_andVF, e_orVT, e_orVF, e_NotV, e_notVK, e_If, e_ifT, e_ifF, e_Tup, e_Lst, e_LstF, e_tup0, e_lst0, e_lstF0, e_eqI, e_neI, e_ltI, e_leI, e_gtI, e_geI, e_lenL, e_lenT, e_lenR, e_lenS, e_ixL, e_ixT, at0, at1, at2, at3, e_tupL, e_tupT, e_lstT, e_Own, e_ownK, e_Sub, e_For, e_Items, e_itL, e_itT, e_itR, e_Call, e_CallF, e_aNil, e_aVal, e_aVK, e_aVK2, step0, step1, step2, step3, out0, out1, out2, out3, outX1, outX2, outO1, outO2, outO3, e_onSh, e_onOw, decide_true, decide_false, Bool.not_true, Bool.not_false, List.cons_append, List.nil_append, List.getElem?_cons_zero, List.getElem?_cons_succ, List.set_cons_zero, List.set_cons_succ, Nat.reduceLT, Nat.reduceAdd, Nat.reduceSub, Option.map_some, finF, outsE, e_frz, d_rng7, e_forK, e_tnN, e_tnC, e_tnB, e_tnR, e_whT, e_whF, e_Raise, e_Par, e_parK, e_parK2, e_augK, e_Ch, e_chK1, e_chK2, e_chT, e_chF, e_Try, e_tryO, e_tru, e_While, e_abs, e_max2, e_min2, e_gSq2, e_tup1, e_lst1, e_tup2, e_lst2, e_tup3, e_lst3, e_tup4, e_lst4, e_tup5, e_lst5, e_tup6, e_lst6, e_tup7, e_lst7, e_tup8, e_lst8, e_RaF, e_raF1, e_raF2, e_TryA, e_tryAO, e_asgnK, e_frzX, e_bindX, e_Fld, e_SFld, e_Mk, e_mkK1, e_mkK2, e_mkK3, e_mkK4, e_mkO, e_mkX, e_Met, e_metK2, e_Enum, e_enumL, e_enumT, pairs2, pairs3, pairs4, e_lst13, e_lst14, e_lst15, e_lst16, e_lst9, e_lst10, e_lst11, e_lst12, e_tup9, e_tup10, e_tup11, e_tup12, e_ListF, e_listFT, e_listFL, e_GetK, e_getK, e_IfB, e_ifBT, e_ifBF, e_notB, e_isB, o_int, o_str, o_tup, o_lst, o_non, o_bl, n_int, n_str, n_tup, n_lst, n_non, n_bl, e, o]
  have hd : hdR subT hdS (bH 0) [some (.sh S), some (.sh z), none] = .ok (.ret (.sh (.str "hop"))) [some (.sh S), some (.sh z), none] := by kernel_rfl
  have t : sTryM subT lrB hdS [some (.sh S), some (.sh z), none] = .ok (.ret (.sh (.str "hop"))) [some (.sh S), some (.sh z), none] := by
    unfold sTryM
    rw [b]
    exact hd
  refine (e_run [] 3 _ _ rfl).trans ?_
  rw [lr_cut, show startE 3 [.sh S, .sh z] = [some (.sh S), some (.sh z), none] from rfl, seq_ret t]
  rfl
end L20
set_option Elab.async false
set_option linter.all false
set_option maxRecDepth 100000
set_option maxHeartbeats 4000000
namespace L20
open PySem L2 Rf Sv
/-! ### rows of hops -/
def endS (s : Sh) (hs : List Hop) : Sh := hs.foldl Sh.hop s
theorem end_fit : ∀ (hs : List Hop) (s : Sh) (B : Int), (∀ h ∈ hs, h.fit) → s.fit B → ∃ C, (endS s hs).fit C
  | [], s, B, _, h => ⟨B, h⟩
  | h :: hs, s, B, hh, hf => end_fit hs (s.hop h) (B + 30) (fun g hg => hh g (List.mem_cons_of_mem _ hg)) (hop_fit hf (hh h List.mem_cons_self))
def wB : ENV → R Fl := sSeq (sAsg (dCall m__law_hopped (aVal (dVar 3) (aVal (dVar 4) (aNil)))) (gSet 3))
  (sSeq (sAsg (dCall m_lead_sevens (aVal (dVar 2) (aVal (dVar 4) (aNil)))) (gSet 2))
  (sIf (dOr (dT (dCmp .ne (dVar 2) (dVar 3))) (dOr (dNot (dTru (dIs (isTy "tuple") (dVar 2)))) (dNot (dTru (dCall m__law_same_shape (aVal (dVar 2) (aNil))))))) (sRet (dC .non)) (sNil)))
theorem wk_cut : b__law_walked = sSeq (sAsg (dCall m_even_sevens (aVal (dC (.int 0)) (aNil))) (gSet 2)) (sSeq (sAsg (dCall m__law_even (aVal (dC (.int 0)) (aNil))) (gSet 3)) (sSeq (sFor (dItems (dVar 1)) (gSet 4) wB) (sRet (dVar 2)))) := rfl
theorem wB_ok {o : DV} {L : D} {s : Sh} {h : Hop} {B : Int} (hs : s.fit B) (hh : h.fit) : wB [some o, some (.sh L), some (.sh (tupI s.lst)), some (.sh (tupI s.lst)), some (.sh h.d)] = .ok .nx [some o, some (.sh L), some (.sh (tupI (s.hop h).lst)), some (.sh (tupI (s.hop h).lst)), some (.sh h.d)] := by
  have e1 := hopped_ok (s := s) hh
  have e2 := lead_fit hs hh
  rw [led_lst hs hh] at e1 e2
  have n := t_ne (s.hop h).lst (s.hop h).lst
  rw [decide_eq_true rfl] at n
  have tT := t_is (s.hop h).lst
  have sm := same_fit (hop_fit hs hh)
  generalize tupI (s.hop h).lst = S2 at *
  generalize tupI s.lst = S1 at *
  generalize h.d = H at *
  unfold wB
  simp only [startE, List.map, List.length, List.replicate, e_Seq, e_Asg, e_Ret, e_RetF, e_Expr, e_exprK, e_op, e_op2, e_op1, e_un, e_is, e_B, e_bK, e_Cons, e_consK, e_consK2, e_Nil, e_var, e_C, e_bind, e_bindX, e_bindB, e_lookS, e_lookO, M.toD, e_of, e_asgK, e_gSet, e_stK, e_sqN, e_sqR, e_sqB, e_sqC, e_sNil, e_retK, e_retFK, e_add, e_vI, e_neg, e_fInt, e_fIntB, e_sIf, e_sifT, e_sifF, e_T, e_toB, e_Tru, e_truB, e_And, e_Or, e_andT, e_andF, e_orT, e_orF, e_Not, e_notK, e_AndV, e_OrV, e_andVT, e_andVF, e_orVT, e_orVF, e_NotV, e_notVK, e_If, e_ifT, e_ifF, e_Tup, e_Lst, e_LstF, e_tup0, e_lst0, e_lstF0, e_eqI, e_neI, e_ltI, e_leI, e_gtI, e_geI, e_lenL, e_lenT, e_lenR, e_lenS, e_ixL, e_ixT, at0, at1, at2, at3, e_tupL, e_tupT, e_lstT, e_Own, e_ownK, e_Sub, e_For, e_Items, e_itL, e_itT, e_itR, e_Call, e_CallF, e_aNil, e_aVal, e_aVK, e_aVK2, step0, step1, step2, step3, out0, out1, out2, out3, outX1, outX2, outO1, outO2, outO3, e_onSh, e_onOw, decide_true, decide_false, Bool.not_true, Bool.not_false, List.cons_append, List.nil_append, List.getElem?_cons_zero, List.getElem?_cons_succ, List.set_cons_zero, List.set_cons_succ, Nat.reduceLT, Nat.reduceAdd, Nat.reduceSub, Option.map_some, finF, outsE, e_frz, d_rng7, e_forK, e_tnN, e_tnC, e_tnB, e_tnR, e_whT, e_whF, e_Raise, e_Par, e_parK, e_parK2, e_augK, e_Ch, e_chK1, e_chK2, e_chT, e_chF, e_Try, e_tryO, e_tru, e_While, e_abs, e_max2, e_min2, e_gSq2, e_tup1, e_lst1, e_tup2, e_lst2, e_tup3, e_lst3, e_tup4, e_lst4, e_tup5, e_lst5, e_tup6, e_lst6, e_tup7, e_lst7, e_tup8, e_lst8, e_RaF, e_raF1, e_raF2, e_TryA, e_tryAO, e_asgnK, e_frzX, e_bindX, e_Fld, e_SFld, e_Mk, e_mkK1, e_mkK2, e_mkK3, e_mkK4, e_mkO, e_mkX, e_Met, e_metK2, e_Enum, e_enumL, e_enumT, pairs2, pairs3, pairs4, e_lst13, e_lst14, e_lst15, e_lst16, e_lst9, e_lst10, e_lst11, e_lst12, e_tup9, e_tup10, e_tup11, e_tup12, e_ListF, e_listFT, e_listFL, e_GetK, e_getK, e_IfB, e_ifBT, e_ifBF, e_notB, e_isB, o_int, o_str, o_tup, o_lst, o_non, o_bl, n_int, n_str, n_tup, n_lst, n_non, n_bl, e1, e2, n, tT, sm]
theorem walk_loop {o : DV} {L : D} : ∀ (hs : List Hop) (s : Sh) (B : Int) (x : Option DV), (∀ h ∈ hs, h.fit) → s.fit B → ∃ y, forL (gSet 4) wB (hs.map Hop.d) [some o, some (.sh L), some (.sh (tupI s.lst)), some (.sh (tupI s.lst)), x] = .ok .nx [some o, some (.sh L), some (.sh (tupI (endS s hs).lst)), some (.sh (tupI (endS s hs).lst)), y]
  | [], s, B, x, _, _ => ⟨x, rfl⟩
  | h :: hs, s, B, x, hh, hf => by
    obtain ⟨y, hy⟩ := walk_loop hs (s.hop h) (B + 30) (some (.sh h.d)) (fun g hg => hh g (List.mem_cons_of_mem _ hg)) (hop_fit hf (hh h List.mem_cons_self))
    refine ⟨y, ?_⟩
    rw [List.map_cons, forL_set _ _ _ _ _ (by show 4 < 5; decide)]
    show (wB [some o, some (.sh L), some (.sh (tupI s.lst)), some (.sh (tupI s.lst)), some (.sh h.d)]).bind _ = _
    rw [wB_ok hf (hh h List.mem_cons_self)]
    exact hy
theorem ev0 : (Sh.ev 0).fit 0 := ⟨by decide, by decide⟩
theorem walked_ok {m : M} {hs : List Hop} (hh : ∀ h ∈ hs, h.fit) : m__law_walked [.ow m, .sh (.lst (hs.map Hop.d))] = .ok (.sh (tupI (endS (.ev 0) hs).lst)) [m] := by
  obtain ⟨y, hy⟩ := walk_loop (o := .ow m) (L := .lst (hs.map Hop.d)) hs (.ev 0) 0 none hh ev0
  have e1 : m_even_sevens [.sh (.int 0)] = .ok (.sh (tupI (Sh.ev 0).lst)) [] := even_sev 0
  have e2 : m__law_even [.sh (.int 0)] = .ok (.sh (tupI (Sh.ev 0).lst)) [] := even_ok 0
  generalize tupI (endS (.ev 0) hs).lst = R at *
  generalize tupI (Sh.ev 0).lst = E at *
  have s0 : sAsg (dCall m_even_sevens (aVal (dC (.int 0)) (aNil))) (gSet 2) [some (.ow m), some (.sh (.lst (hs.map Hop.d))), none, none, none] = .ok .nx [some (.ow m), some (.sh (.lst (hs.map Hop.d))), some (.sh E), none, none] := by
    generalize D.lst (hs.map Hop.d) = L at *
    simp only [startE, List.map, List.length, List.replicate, e_Seq, e_Asg, e_Ret, e_RetF, e_Expr, e_exprK, e_op, e_op2, e_op1, e_un, e_is, e_B, e_bK, e_Cons, e_consK, e_consK2, e_Nil, e_var, e_C, e_bind, e_bindX, e_bindB, e_lookS, e_lookO, M.toD, e_of, e_asgK, e_gSet, e_stK, e_sqN, e_sqR, e_sqB, e_sqC, e_sNil, e_retK, e_retFK, e_add, e_vI, e_neg, e_fInt, e_fIntB, e_sIf, e_sifT, e_sifF, e_T, e_toB, e_Tru, e_truB, e_And, e_Or, e_andT, e_andF, e_orT, e_orF, e_Not, e_notK, e_AndV, e_OrV, e_andVT, e_andVF, e_orVT, e_orVF, e_NotV, e_notVK, e_If, e_ifT, e_ifF, e_Tup, e_Lst, e_LstF, e_tup0, e_lst0, e_lstF0, e_eqI, e_neI, e_ltI, e_leI, e_gtI, e_geI, e_lenL, e_lenT, e_lenR, e_lenS, e_ixL, e_ixT, at0, at1, at2, at3, e_tupL, e_tupT, e_lstT, e_Own, e_ownK, e_Sub, e_For, e_Items, e_itL, e_itT, e_itR, e_Call, e_CallF, e_aNil, e_aVal, e_aVK, e_aVK2, step0, step1, step2, step3, out0, out1, out2, out3, outX1, outX2, outO1, outO2, outO3, e_onSh, e_onOw, decide_true, decide_false, Bool.not_true, Bool.not_false, List.cons_append, List.nil_append, List.getElem?_cons_zero, List.getElem?_cons_succ, List.set_cons_zero, List.set_cons_succ, Nat.reduceLT, Nat.reduceAdd, Nat.reduceSub, Option.map_some, finF, outsE, e_frz, d_rng7, e_forK, e_tnN, e_tnC, e_tnB, e_tnR, e_whT, e_whF, e_Raise, e_Par, e_parK, e_parK2, e_augK, e_Ch, e_chK1, e_chK2, e_chT, e_chF, e_Try, e_tryO, e_tru, e_While, e_abs, e_max2, e_min2, e_gSq2, e_tup1, e_lst1, e_tup2, e_lst2, e_tup3, e_lst3, e_tup4, e_lst4, e_tup5, e_lst5, e_tup6, e_lst6, e_tup7, e_lst7, e_tup8, e_lst8, e_RaF, e_raF1, e_raF2, e_TryA, e_tryAO, e_asgnK, e_frzX, e_bindX, e_Fld, e_SFld, e_Mk, e_mkK1, e_mkK2, e_mkK3, e_mkK4, e_mkO, e_mkX, e_Met, e_metK2, e_Enum, e_enumL, e_enumT, pairs2, pairs3, pairs4, e_lst13, e_lst14, e_lst15, e_lst16, e_lst9, e_lst10, e_lst11, e_lst12, e_tup9, e_tup10, e_tup11, e_tup12, e_ListF, e_listFT, e_listFL, e_GetK, e_getK, e_IfB, e_ifBT, e_ifBF, e_notB, e_isB, o_int, o_str, o_tup, o_lst, o_non, o_bl, n_int, n_str, n_tup, n_lst, n_non, n_bl, e1]
  have s1 : sAsg (dCall m__law_even (aVal (dC (.int 0)) (aNil))) (gSet 3) [some (.ow m), some (.sh (.lst (hs.map Hop.d))), some (.sh E), none, none] = .ok .nx [some (.ow m), some (.sh (.lst (hs.map Hop.d))), some (.sh E), some (.sh E), none] := by
    generalize D.lst (hs.map Hop.d) = L at *
    simp only [startE, List.map, List.length, List.replicate, e_Seq, e_Asg, e_Ret, e_RetF, e_Expr, e_exprK, e_op, e_op2, e_op1, e_un, e_is, e_B, e_bK, e_Cons, e_consK, e_consK2, e_Nil, e_var, e_C, e_bind, e_bindX, e_bindB, e_lookS, e_lookO, M.toD, e_of, e_asgK, e_gSet, e_stK, e_sqN, e_sqR, e_sqB, e_sqC, e_sNil, e_retK, e_retFK, e_add, e_vI, e_neg, e_fInt, e_fIntB, e_sIf, e_sifT, e_sifF, e_T, e_toB, e_Tru, e_truB, e_And, e_Or, e_andT, e_andF, e_orT, e_orF, e_Not, e_notK, e_AndV, e_OrV, e_andVT, e_andVF, e_orVT, e_orVF, e_NotV, e_notVK, e_If, e_ifT, e_ifF, e_Tup, e_Lst, e_LstF, e_tup0, e_lst0, e_lstF0, e_eqI, e_neI, e_ltI, e_leI, e_gtI, e_geI, e_lenL, e_lenT, e_lenR, e_lenS, e_ixL, e_ixT, at0, at1, at2, at3, e_tupL, e_tupT, e_lstT, e_Own, e_ownK, e_Sub, e_For, e_Items, e_itL, e_itT, e_itR, e_Call, e_CallF, e_aNil, e_aVal, e_aVK, e_aVK2, step0, step1, step2, step3, out0, out1, out2, out3, outX1, outX2, outO1, outO2, outO3, e_onSh, e_onOw, decide_true, decide_false, Bool.not_true, Bool.not_false, List.cons_append, List.nil_append, List.getElem?_cons_zero, List.getElem?_cons_succ, List.set_cons_zero, List.set_cons_succ, Nat.reduceLT, Nat.reduceAdd, Nat.reduceSub, Option.map_some, finF, outsE, e_frz, d_rng7, e_forK, e_tnN, e_tnC, e_tnB, e_tnR, e_whT, e_whF, e_Raise, e_Par, e_parK, e_parK2, e_augK, e_Ch, e_chK1, e_chK2, e_chT, e_chF, e_Try, e_tryO, e_tru, e_While, e_abs, e_max2, e_min2, e_gSq2, e_tup1, e_lst1, e_tup2, e_lst2, e_tup3, e_lst3, e_tup4, e_lst4, e_tup5, e_lst5, e_tup6, e_lst6, e_tup7, e_lst7, e_tup8, e_lst8, e_RaF, e_raF1, e_raF2, e_TryA, e_tryAO, e_asgnK, e_frzX, e_bindX, e_Fld, e_SFld, e_Mk, e_mkK1, e_mkK2, e_mkK3, e_mkK4, e_mkO, e_mkX, e_Met, e_metK2, e_Enum, e_enumL, e_enumT, pairs2, pairs3, pairs4, e_lst13, e_lst14, e_lst15, e_lst16, e_lst9, e_lst10, e_lst11, e_lst12, e_tup9, e_tup10, e_tup11, e_tup12, e_ListF, e_listFT, e_listFL, e_GetK, e_getK, e_IfB, e_ifBT, e_ifBF, e_notB, e_isB, o_int, o_str, o_tup, o_lst, o_non, o_bl, n_int, n_str, n_tup, n_lst, n_non, n_bl, e2]
  have s2 : sFor (dItems (dVar 1)) (gSet 4) wB [some (.ow m), some (.sh (.lst (hs.map Hop.d))), some (.sh E), some (.sh E), none] = .ok .nx [some (.ow m), some (.sh (.lst (hs.map Hop.d))), some (.sh R), some (.sh R), y] := by
    rw [e_For]
    exact hy
  refine (e_run [0] 5 _ _ rfl).trans ?_
  rw [wk_cut, show startE 5 [.ow m, .sh (.lst (hs.map Hop.d))] = [some (.ow m), some (.sh (.lst (hs.map Hop.d))), none, none, none] from rfl, seq_ok s0, seq_ok s1, seq_ok s2]
  rfl
/-! ### led by a row -/
def lbI : ENV → R Fl := sIf (dNot (dTru (dCall m_is_hop (aVal (dVar 2) (aNil))))) (sRaiseF 2 ["index"] (dCons (dVar 1) (dNil))) (sNil)
def lbL : ENV → R Fl := sAsg (dCall m_lead_by_one (aVal (dVar 3) (aVal (dVar 2) (aNil)))) (gSet 3)
def g2 : D → ENV → Option ENV := gSeq 2 (gsCons (gSet 1) (gsCons (gSet 2) (gsNil)))
theorem lb_cut : b_led_by = sSeq (sIf (dNot (dTru (dIs (or2 (isTy "list") (isTy "tuple")) (dVar 0)))) (sRaiseF 2 ["index"] (dCons (dC (.int 0)) (dNil))) (sNil))
  (sSeq (sFor (dEnumT (dVar 0)) g2 lbI) (sSeq (sAsg (dCall m_even_sevens (aVal (dC (.int 0)) (aNil))) (gSet 3)) (sSeq (sFor (dItems (dVar 0)) (gSet 2) lbL) (sRet (dVar 3))))) := rfl
theorem lbI_good {G : D} {h : Hop} {k : Int} {o : Option DV} (hh : h.fit) : lbI [some (.sh G), some (.sh (.int k)), some (.sh h.d), o] = .ok .nx [some (.sh G), some (.sh (.int k)), some (.sh h.d), o] := by
  have i := hop_is hh
  generalize h.d = H at *
  unfold lbI
  simp only [startE, List.map, List.length, List.replicate, e_Seq, e_Asg, e_Ret, e_RetF, e_Expr, e_exprK, e_op, e_op2, e_op1, e_un, e_is, e_B, e_bK, e_Cons, e_consK, e_consK2, e_Nil, e_var, e_C, e_bind, e_bindX, e_bindB, e_lookS, e_lookO, M.toD, e_of, e_asgK, e_gSet, e_stK, e_sqN, e_sqR, e_sqB, e_sqC, e_sNil, e_retK, e_retFK, e_add, e_vI, e_neg, e_fInt, e_fIntB, e_sIf, e_sifT, e_sifF, e_T, e_toB, e_Tru, e_truB, e_And, e_Or, e_andT, e_andF, e_orT, e_orF, e_Not, e_notK, e_AndV, e_OrV, e_andVT, e_andVF, e_orVT, e_orVF, e_NotV, e_notVK, e_If, e_ifT, e_ifF, e_Tup, e_Lst, e_LstF, e_tup0, e_lst0, e_lstF0, e_eqI, e_neI, e_ltI, e_leI, e_gtI, e_geI, e_lenL, e_lenT, e_lenR, e_lenS, e_ixL, e_ixT, at0, at1, at2, at3, e_tupL, e_tupT, e_lstT, e_Own, e_ownK, e_Sub, e_For, e_Items, e_itL, e_itT, e_itR, e_Call, e_CallF, e_aNil, e_aVal, e_aVK, e_aVK2, step0, step1, step2, step3, out0, out1, out2, out3, outX1, outX2, outO1, outO2, outO3, e_onSh, e_onOw, decide_true, decide_false, Bool.not_true, Bool.not_false, List.cons_append, List.nil_append, List.getElem?_cons_zero, List.getElem?_cons_succ, List.set_cons_zero, List.set_cons_succ, Nat.reduceLT, Nat.reduceAdd, Nat.reduceSub, Option.map_some, finF, outsE, e_frz, d_rng7, e_forK, e_tnN, e_tnC, e_tnB, e_tnR, e_whT, e_whF, e_Raise, e_Par, e_parK, e_parK2, e_augK, e_Ch, e_chK1, e_chK2, e_chT, e_chF, e_Try, e_tryO, e_tru, e_While, e_abs, e_max2, e_min2, e_gSq2, e_tup1, e_lst1, e_tup2, e_lst2, e_tup3, e_lst3, e_tup4, e_lst4, e_tup5, e_lst5, e_tup6, e_lst6, e_tup7, e_lst7, e_tup8, e_lst8, e_RaF, e_raF1, e_raF2, e_TryA, e_tryAO, e_asgnK, e_frzX, e_bindX, e_Fld, e_SFld, e_Mk, e_mkK1, e_mkK2, e_mkK3, e_mkK4, e_mkO, e_mkX, e_Met, e_metK2, e_Enum, e_enumL, e_enumT, pairs2, pairs3, pairs4, e_lst13, e_lst14, e_lst15, e_lst16, e_lst9, e_lst10, e_lst11, e_lst12, e_tup9, e_tup10, e_tup11, e_tup12, e_ListF, e_listFT, e_listFL, e_GetK, e_getK, e_IfB, e_ifBT, e_ifBF, e_notB, e_isB, o_int, o_str, o_tup, o_lst, o_non, o_bl, n_int, n_str, n_tup, n_lst, n_non, n_bl, i]
theorem lbI_bad {G z : D} {k : Int} {o : Option DV} (hz : BadH z) : lbI [some (.sh G), some (.sh (.int k)), some (.sh z), o] = .exc (bH k) [some (.sh G), some (.sh (.int k)), some (.sh z), o] := by
  unfold BadH at hz
  unfold lbI bH
  simp only [startE, List.map, List.length, List.replicate, e_Seq, e_Asg, e_Ret, e_RetF, e_Expr, e_exprK, e_op, e_op2, e_op1, e_un, e_is, e_B, e_bK, e_Cons, e_consK, e_consK2, e_Nil, e_var, e_C, e_bind, e_bindX, e_bindB, e_lookS, e_lookO, M.toD, e_of, e_asgK, e_gSet, e_stK, e_sqN, e_sqR, e_sqB, e_sqC, e_sNil, e_retK, e_retFK, e_add, e_vI, e_neg, e_fInt, e_fIntB, e_sIf, e_sifT, e_sifF, e_T, e_toB, e_Tru, e_truB, e_And, e_Or, e_andT, e_andF, e_orT, e_orF, e_Not, e_notK, e_AndV, e_OrV, e_andVT, e_andVF, e_orVT, e_orVF, e_NotV, e_notVK, e_If, e_ifT, e_ifF, e_Tup, e_Lst, e_LstF, e_tup0, e_lst0, e_lstF0, e_eqI, e_neI, e_ltI, e_leI, e_gtI, e_geI, e_lenL, e_lenT, e_lenR, e_lenS, e_ixL, e_ixT, at0, at1, at2, at3, e_tupL, e_tupT, e_lstT, e_Own, e_ownK, e_Sub, e_For, e_Items, e_itL, e_itT, e_itR, e_Call, e_CallF, e_aNil, e_aVal, e_aVK, e_aVK2, step0, step1, step2, step3, out0, out1, out2, out3, outX1, outX2, outO1, outO2, outO3, e_onSh, e_onOw, decide_true, decide_false, Bool.not_true, Bool.not_false, List.cons_append, List.nil_append, List.getElem?_cons_zero, List.getElem?_cons_succ, List.set_cons_zero, List.set_cons_succ, Nat.reduceLT, Nat.reduceAdd, Nat.reduceSub, Option.map_some, finF, outsE, e_frz, d_rng7, e_forK, e_tnN, e_tnC, e_tnB, e_tnR, e_whT, e_whF, e_Raise, e_Par, e_parK, e_parK2, e_augK, e_Ch, e_chK1, e_chK2, e_chT, e_chF, e_Try, e_tryO, e_tru, e_While, e_abs, e_max2, e_min2, e_gSq2, e_tup1, e_lst1, e_tup2, e_lst2, e_tup3, e_lst3, e_tup4, e_lst4, e_tup5, e_lst5, e_tup6, e_lst6, e_tup7, e_lst7, e_tup8, e_lst8, e_RaF, e_raF1, e_raF2, e_TryA, e_tryAO, e_asgnK, e_frzX, e_bindX, e_Fld, e_SFld, e_Mk, e_mkK1, e_mkK2, e_mkK3, e_mkK4, e_mkO, e_mkX, e_Met, e_metK2, e_Enum, e_enumL, e_enumT, pairs2, pairs3, pairs4, e_lst13, e_lst14, e_lst15, e_lst16, e_lst9, e_lst10, e_lst11, e_lst12, e_tup9, e_tup10, e_tup11, e_tup12, e_ListF, e_listFT, e_listFL, e_GetK, e_getK, e_IfB, e_ifBT, e_ifBF, e_notB, e_isB, o_int, o_str, o_tup, o_lst, o_non, o_bl, n_int, n_str, n_tup, n_lst, n_non, n_bl, hz]
theorem enum_good {G : D} (R : List D) : ∀ (ps : List D) (x y : Option DV), (∀ p ∈ ps, ∃ (k : Int) (h : Hop), p = .tup [.int k, h.d] ∧ h.fit) → ∃ x' y', forL g2 lbI (ps ++ R) [some (.sh G), x, y, none] = forL g2 lbI R [some (.sh G), x', y', none]
  | [], x, y, _ => ⟨x, y, rfl⟩
  | p :: ps, x, y, h => by
    obtain ⟨k, hp, rfl, hf⟩ := h p List.mem_cons_self
    obtain ⟨x', y', e⟩ := enum_good R ps (some (.sh (.int k))) (some (.sh hp.d)) fun q hq => h q (List.mem_cons_of_mem _ hq)
    refine ⟨x', y', ?_⟩
    rw [← e, List.cons_append]
    unfold g2
    rw [forL_gS2 1 2 _ _ _ _ _ (by show 1 < 4; decide) (by show 2 < 4; decide)]
    show (lbI [some (.sh G), some (.sh (.int k)), some (.sh hp.d), none]).bind _ = _
    rw [lbI_good hf]
    rfl
theorem enum_bad {G z : D} {k : Int} (hz : BadH z) (r : List D) (x y : Option DV) : ∃ ρ, forL g2 lbI (.tup [.int k, z] :: r) [some (.sh G), x, y, none] = .exc (bH k) ρ := by
  refine ⟨[some (.sh G), some (.sh (.int k)), some (.sh z), none], ?_⟩
  unfold g2
  rw [forL_gS2 1 2 _ _ _ _ _ (by show 1 < 4; decide) (by show 2 < 4; decide)]
  show (lbI [some (.sh G), some (.sh (.int k)), some (.sh z), none]).bind _ = _
  rw [lbI_bad hz]
  rfl
theorem lead_loop {G : D} {o : Option DV} : ∀ (hs : List Hop) (s : Sh) (B : Int) (x : Option DV), (∀ h ∈ hs, h.fit) → s.fit B → ∃ y, forL (gSet 2) lbL (hs.map Hop.d) [some (.sh G), o, x, some (.sh (tupI s.lst))] = .ok .nx [some (.sh G), o, y, some (.sh (tupI (endS s hs).lst))]
  | [], s, B, x, _, _ => ⟨x, rfl⟩
  | h :: hs, s, B, x, hh, hf => by
    have hfh := hh h List.mem_cons_self
    obtain ⟨y, hy⟩ := lead_loop hs (s.hop h) (B + 30) (some (.sh h.d)) (fun g hg => hh g (List.mem_cons_of_mem _ hg)) (hop_fit hf hfh)
    refine ⟨y, ?_⟩
    have e : lbL [some (.sh G), o, some (.sh h.d), some (.sh (tupI s.lst))] = .ok .nx [some (.sh G), o, some (.sh h.d), some (.sh (tupI (s.hop h).lst))] := by
      have l := lead_ok s h
      rw [led_lst hf hfh] at l
      generalize tupI (s.hop h).lst = S2 at *
      generalize tupI s.lst = S1 at *
      generalize h.d = H at *
      unfold lbL
      simp only [startE, List.map, List.length, List.replicate, e_Seq, e_Asg, e_Ret, e_RetF, e_Expr, e_exprK, e_op, e_op2, e_op1, e_un, e_is, e_B, e_bK, e_Cons, e_consK, e_consK2, e_Nil, e_var, e_C, e_bind, e_bindX, e_bindB, e_lookS, e_lookO, M.toD, e_of, e_asgK, e_gSet, e_stK, e_sqN, e_sqR, e_sqB, e_sqC, e_sNil, e_retK, e_retFK, e_add, e_vI, e_neg, e_fInt, e_fIntB, e_sIf, e_sifT, e_sifF, e_T, e_toB, e_Tru, e_truB, e_And, e_Or, e_andT, e_andF, e_orT, e_orF, e_Not, e_notK, e_AndV, e_OrV, e_andVT, e_andVF, e_orVT, e_orVF, e_NotV, e_notVK, e_If, e_ifT, e_ifF, e_Tup, e_Lst, e_LstF, e_tup0, e_lst0, e_lstF0, e_eqI, e_neI, e_ltI, e_leI, e_gtI, e_geI, e_lenL, e_lenT, e_lenR, e_lenS, e_ixL, e_ixT, at0, at1, at2, at3, e_tupL, e_tupT, e_lstT, e_Own, e_ownK, e_Sub, e_For, e_Items, e_itL, e_itT, e_itR, e_Call, e_CallF, e_aNil, e_aVal, e_aVK, e_aVK2, step0, step1, step2, step3, out0, out1, out2, out3, outX1, outX2, outO1, outO2, outO3, e_onSh, e_onOw, decide_true, decide_false, Bool.not_true, Bool.not_false, List.cons_append, List.nil_append, List.getElem?_cons_zero, List.getElem?_cons_succ, List.set_cons_zero, List.set_cons_succ, Nat.reduceLT, Nat.reduceAdd, Nat.reduceSub, Option.map_some, finF, outsE, e_frz, d_rng7, e_forK, e_tnN, e_tnC, e_tnB, e_tnR, e_whT, e_whF, e_Raise, e_Par, e_parK, e_parK2, e_augK, e_Ch, e_chK1, e_chK2, e_chT, e_chF, e_Try, e_tryO, e_tru, e_While, e_abs, e_max2, e_min2, e_gSq2, e_tup1, e_lst1, e_tup2, e_lst2, e_tup3, e_lst3, e_tup4, e_lst4, e_tup5, e_lst5, e_tup6, e_lst6, e_tup7, e_lst7, e_tup8, e_lst8, e_RaF, e_raF1, e_raF2, e_TryA, e_tryAO, e_asgnK, e_frzX, e_bindX, e_Fld, e_SFld, e_Mk, e_mkK1, e_mkK2, e_mkK3, e_mkK4, e_mkO, e_mkX, e_Met, e_metK2, e_Enum, e_enumL, e_enumT, pairs2, pairs3, pairs4, e_lst13, e_lst14, e_lst15, e_lst16, e_lst9, e_lst10, e_lst11, e_lst12, e_tup9, e_tup10, e_tup11, e_tup12, e_ListF, e_listFT, e_listFL, e_GetK, e_getK, e_IfB, e_ifBT, e_ifBF, e_notB, e_isB, o_int, o_str, o_tup, o_lst, o_non, o_bl, n_int, n_str, n_tup, n_lst, n_non, n_bl, l]
    rw [List.map_cons, forL_set _ _ _ _ _ (by show 2 < 4; decide)]
    show (lbL [some (.sh G), o, some (.sh h.d), some (.sh (tupI s.lst))]).bind _ = _
    rw [e]
    exact hy
theorem pairs_hop {hs : List Hop} (hh : ∀ h ∈ hs, h.fit) : ∀ p ∈ pairs (hs.map Hop.d), ∃ (k : Int) (h : Hop), p = .tup [.int k, h.d] ∧ h.fit := fun p hp => by
  obtain ⟨k, v, rfl, hv⟩ := pairs_mem hp
  rw [List.getElem?_map] at hv
  cases e : hs[k]? with
  | none => rw [e] at hv; cases hv
  | some h =>
    rw [e] at hv
    cases hv
    exact ⟨_, h, rfl, hh h (List.mem_of_getElem? e)⟩
def seqD (G : D) (ds : List D) : Prop := or2 (isTy "list") (isTy "tuple") G = some true ∧ (∀ ρ, enumKT G ρ = .ok (pairs ds) ρ) ∧ ∀ ρ, itK G ρ = .ok ds ρ
theorem seq_l (ds : List D) : seqD (.lst ds) ds := ⟨by kernel_rfl, fun _ => rfl, fun _ => rfl⟩
theorem seq_t (ds : List D) : seqD (.tup ds) ds := ⟨by kernel_rfl, fun _ => rfl, fun _ => rfl⟩
theorem led_by_ok {hs : List Hop} (hh : ∀ h ∈ hs, h.fit) {G : D} (hG : seqD G (hs.map Hop.d)) : m_led_by [.sh G] = .ok (.sh (tupI (endS (.ev 0) hs).lst)) [] := by
  obtain ⟨g1, g3, g4⟩ := hG
  obtain ⟨x, y, he⟩ := enum_good (G := G) [] (pairs (hs.map Hop.d)) none none (pairs_hop hh)
  rw [List.append_nil] at he
  obtain ⟨y2, hy⟩ := lead_loop (G := G) (o := x) hs (.ev 0) 0 y hh ev0
  have e1 : m_even_sevens [.sh (.int 0)] = .ok (.sh (tupI (Sh.ev 0).lst)) [] := even_sev 0
  generalize tupI (endS (.ev 0) hs).lst = R at *
  generalize tupI (Sh.ev 0).lst = E at *
  have s0 : sIf (dNot (dTru (dIs (or2 (isTy "list") (isTy "tuple")) (dVar 0)))) (sRaiseF 2 ["index"] (dCons (dC (.int 0)) (dNil))) (sNil) [some (.sh G), none, none, none] = .ok .nx [some (.sh G), none, none, none] := by
    simp only [startE, List.map, List.length, List.replicate, e_Seq, e_Asg, e_Ret, e_RetF, e_Expr, e_exprK, e_op, e_op2, e_op1, e_un, e_is, e_B, e_bK, e_Cons, e_consK, e_consK2, e_Nil, e_var, e_C, e_bind, e_bindX, e_bindB, e_lookS, e_lookO, M.toD, e_of, e_asgK, e_gSet, e_stK, e_sqN, e_sqR, e_sqB, e_sqC, e_sNil, e_retK, e_retFK, e_add, e_vI, e_neg, e_fInt, e_fIntB, e_sIf, e_sifT, e_sifF, e_T, e_toB, e_Tru, e_truB, e_And, e_Or, e_andT, e_andF, e_orT, e_orF, e_Not, e_notK, e_AndV, e_OrV, e_andVT, e_andVF, e_orVT, e_orVF, e_NotV, e_notVK, e_If, e_ifT, e_ifF, e_Tup, e_Lst, e_LstF, e_tup0, e_lst0, e_lstF0, e_eqI, e_neI, e_ltI, e_leI, e_gtI, e_geI, e_lenL, e_lenT, e_lenR, e_lenS, e_ixL, e_ixT, at0, at1, at2, at3, e_tupL, e_tupT, e_lstT, e_Own, e_ownK, e_Sub, e_For, e_Items, e_itL, e_itT, e_itR, e_Call, e_CallF, e_aNil, e_aVal, e_aVK, e_aVK2, step0, step1, step2, step3, out0, out1, out2, out3, outX1, outX2, outO1, outO2, outO3, e_onSh, e_onOw, decide_true, decide_false, Bool.not_true, Bool.not_false, List.cons_append, List.nil_append, List.getElem?_cons_zero, List.getElem?_cons_succ, List.set_cons_zero, List.set_cons_succ, Nat.reduceLT, Nat.reduceAdd, Nat.reduceSub, Option.map_some, finF, outsE, e_frz, d_rng7, e_forK, e_tnN, e_tnC, e_tnB, e_tnR, e_whT, e_whF, e_Raise, e_Par, e_parK, e_parK2, e_augK, e_Ch, e_chK1, e_chK2, e_chT, e_chF, e_Try, e_tryO, e_tru, e_While, e_abs, e_max2, e_min2, e_gSq2, e_tup1, e_lst1, e_tup2, e_lst2, e_tup3, e_lst3, e_tup4, e_lst4, e_tup5, e_lst5, e_tup6, e_lst6, e_tup7, e_lst7, e_tup8, e_lst8, e_RaF, e_raF1, e_raF2, e_TryA, e_tryAO, e_asgnK, e_frzX, e_bindX, e_Fld, e_SFld, e_Mk, e_mkK1, e_mkK2, e_mkK3, e_mkK4, e_mkO, e_mkX, e_Met, e_metK2, e_Enum, e_enumL, e_enumT, pairs2, pairs3, pairs4, e_lst13, e_lst14, e_lst15, e_lst16, e_lst9, e_lst10, e_lst11, e_lst12, e_tup9, e_tup10, e_tup11, e_tup12, e_ListF, e_listFT, e_listFL, e_GetK, e_getK, e_IfB, e_ifBT, e_ifBF, e_notB, e_isB, o_int, o_str, o_tup, o_lst, o_non, o_bl, n_int, n_str, n_tup, n_lst, n_non, n_bl, g1]
  have s1 : sFor (dEnumT (dVar 0)) g2 lbI [some (.sh G), none, none, none] = .ok .nx [some (.sh G), x, y, none] := by
    rw [e_For, e_Enum]
    show ((enumKT G [some (.sh G), none, none, none]).bind (forK g2 lbI)) = _
    rw [g3]
    exact he
  have s2 : sAsg (dCall m_even_sevens (aVal (dC (.int 0)) (aNil))) (gSet 3) [some (.sh G), x, y, none] = .ok .nx [some (.sh G), x, y, some (.sh E)] := by
    simp only [startE, List.map, List.length, List.replicate, e_Seq, e_Asg, e_Ret, e_RetF, e_Expr, e_exprK, e_op, e_op2, e_op1, e_un, e_is, e_B, e_bK, e_Cons, e_consK, e_consK2, e_Nil, e_var, e_C, e_bind, e_bindX, e_bindB, e_lookS, e_lookO, M.toD, e_of, e_asgK, e_gSet, e_stK, e_sqN, e_sqR, e_sqB, e_sqC, e_sNil, e_retK, e_retFK, e_add, e_vI, e_neg, e_fInt, e_fIntB, e_sIf, e_sifT, e_sifF, e_T, e_toB, e_Tru, e_truB, e_And, e_Or, e_andT, e_andF, e_orT, e_orF, e_Not, e_notK, e_AndV, e_OrV, e_andVT, e_andVF, e_orVT, e_orVF, e_NotV, e_notVK, e_If, e_ifT, e_ifF, e_Tup, e_Lst, e_LstF, e_tup0, e_lst0, e_lstF0, e_eqI, e_neI, e_ltI, e_leI, e_gtI, e_geI, e_lenL, e_lenT, e_lenR, e_lenS, e_ixL, e_ixT, at0, at1, at2, at3, e_tupL, e_tupT, e_lstT, e_Own, e_ownK, e_Sub, e_For, e_Items, e_itL, e_itT, e_itR, e_Call, e_CallF, e_aNil, e_aVal, e_aVK, e_aVK2, step0, step1, step2, step3, out0, out1, out2, out3, outX1, outX2, outO1, outO2, outO3, e_onSh, e_onOw, decide_true, decide_false, Bool.not_true, Bool.not_false, List.cons_append, List.nil_append, List.getElem?_cons_zero, List.getElem?_cons_succ, List.set_cons_zero, List.set_cons_succ, Nat.reduceLT, Nat.reduceAdd, Nat.reduceSub, Option.map_some, finF, outsE, e_frz, d_rng7, e_forK, e_tnN, e_tnC, e_tnB, e_tnR, e_whT, e_whF, e_Raise, e_Par, e_parK, e_parK2, e_augK, e_Ch, e_chK1, e_chK2, e_chT, e_chF, e_Try, e_tryO, e_tru, e_While, e_abs, e_max2, e_min2, e_gSq2, e_tup1, e_lst1, e_tup2, e_lst2, e_tup3, e_lst3, e_tup4, e_lst4, e_tup5, e_lst5, e_tup6, e_lst6, e_tup7, e_lst7, e_tup8, e_lst8, e_RaF, e_raF1, e_raF2, e_TryA, e_tryAO, e_asgnK, e_frzX, e_bindX, e_Fld, e_SFld, e_Mk, e_mkK1, e_mkK2, e_mkK3, e_mkK4, e_mkO, e_mkX, e_Met, e_metK2, e_Enum, e_enumL, e_enumT, pairs2, pairs3, pairs4, e_lst13, e_lst14, e_lst15, e_lst16, e_lst9, e_lst10, e_lst11, e_lst12, e_tup9, e_tup10, e_tup11, e_tup12, e_ListF, e_listFT, e_listFL, e_GetK, e_getK, e_IfB, e_ifBT, e_ifBF, e_notB, e_isB, o_int, o_str, o_tup, o_lst, o_non, o_bl, n_int, n_str, n_tup, n_lst, n_non, n_bl, e1]
  have s3 : sFor (dItems (dVar 0)) (gSet 2) lbL [some (.sh G), x, y, some (.sh E)] = .ok .nx [some (.sh G), x, y2, some (.sh R)] := by
    rw [e_For, e_Items]
    show ((itK G [some (.sh G), x, y, some (.sh E)]).bind (forK (gSet 2) lbL)) = _
    rw [g4]
    exact hy
  refine (e_run [] 4 _ _ rfl).trans ?_
  rw [lb_cut, show startE 4 [.sh G] = [some (.sh G), none, none, none] from rfl, seq_ok s0, seq_ok s1, seq_ok s2, seq_ok s3]
  rfl
theorem seq_exc {a b : ENV → R Fl} {ρ ρ1 : ENV} {e : EX} (h : a ρ = .exc e ρ1) : sSeq a b ρ = .exc e ρ1 := by unfold sSeq; rw [h]
theorem led_by_bad {hs : List Hop} (hh : ∀ h ∈ hs, h.fit) {z : D} (hz : BadH z) (r : List D) {G : D} (hG : seqD G (hs.map Hop.d ++ z :: r)) : m_led_by [.sh G] = .exc (bH (hs.length : Nat)) [] := by
  obtain ⟨g1, g3, _⟩ := hG
  have pe : ∃ r2, pairs (hs.map Hop.d ++ z :: r) = pairs (hs.map Hop.d) ++ .tup [.int (hs.length : Nat), z] :: r2 := by
    refine ⟨r.mapIdx fun i d => .tup [.int ((i + 1 + hs.length : Nat) : Int), d], ?_⟩
    unfold pairs
    rw [List.mapIdx_append, List.mapIdx_cons, List.length_map, Nat.zero_add]
  obtain ⟨r2, pe⟩ := pe
  obtain ⟨x, y, he⟩ := enum_good (G := G) (.tup [.int (hs.length : Nat), z] :: r2) (pairs (hs.map Hop.d)) none none (pairs_hop hh)
  obtain ⟨ρ, hb⟩ := enum_bad (G := G) (k := (hs.length : Nat)) hz r2 x y
  rw [← he, ← pe] at hb
  have s0 : sIf (dNot (dTru (dIs (or2 (isTy "list") (isTy "tuple")) (dVar 0)))) (sRaiseF 2 ["index"] (dCons (dC (.int 0)) (dNil))) (sNil) [some (.sh G), none, none, none] = .ok .nx [some (.sh G), none, none, none] := by
    simp only [startE, List.map, List.length, List.replicate, e_Seq, e_Asg, e_Ret, e_RetF, e_Expr, e_exprK, e_op, e_op2, e_op1, e_un, e_is, e_B, e_bK, e_Cons, e_consK, e_consK2, e_Nil, e_var, e_C, e_bind, e_bindX, e_bindB, e_lookS, e_lookO, M.toD, e_of, e_asgK, e_gSet, e_stK, e_sqN, e_sqR, e_sqB, e_sqC, e_sNil, e_retK, e_retFK, e_add, e_vI, e_neg, e_fInt, e_fIntB, e_sIf, e_sifT, e_sifF, e_T, e_toB, e_Tru, e_truB, e_And, e_Or, e_andT, e_andF, e_orT, e_orF, e_Not, e_notK, e_AndV, e_OrV, e_andVT, e_andVF, e_orVT, e_orVF, e_NotV, e_notVK, e_If, e_ifT, e_ifF, e_Tup, e_Lst, e_LstF, e_tup0, e_lst0, e_lstF0, e_eqI, e_neI, e_ltI, e_leI, e_gtI, e_geI, e_lenL, e_lenT, e_lenR, e_lenS, e_ixL, e_ixT, at0, at1, at2, at3, e_tupL, e_tupT, e_lstT, e_Own, e_ownK, e_Sub, e_For, e_Items, e_itL, e_itT, e_itR, e_Call, e_CallF, e_aNil, e_aVal, e_aVK, e_aVK2, step0, step1, step2, step3, out0, out1, out2, out3, outX1, outX2, outO1, outO2, outO3, e_onSh, e_onOw, decide_true, decide_false, Bool.not_true, Bool.not_false, List.cons_append, List.nil_append, List.getElem?_cons_zero, List.getElem?_cons_succ, List.set_cons_zero, List.set_cons_succ, Nat.reduceLT, Nat.reduceAdd, Nat.reduceSub, Option.map_some, finF, outsE, e_frz, d_rng7, e_forK, e_tnN, e_tnC, e_tnB, e_tnR, e_whT, e_whF, e_Raise, e_Par, e_parK, e_parK2, e_augK, e_Ch, e_chK1, e_chK2, e_chT, e_chF, e_Try, e_tryO, e_tru, e_While, e_abs, e_max2, e_min2, e_gSq2, e_tup1, e_lst1, e_tup2, e_lst2, e_tup3, e_lst3, e_tup4, e_lst4, e_tup5, e_lst5, e_tup6, e_lst6, e_tup7, e_lst7, e_tup8, e_lst8, e_RaF, e_raF1, e_raF2, e_TryA, e_tryAO, e_asgnK, e_frzX, e_bindX, e_Fld, e_SFld, e_Mk, e_mkK1, e_mkK2, e_mkK3, e_mkK4, e_mkO, e_mkX, e_Met, e_metK2, e_Enum, e_enumL, e_enumT, pairs2, pairs3, pairs4, e_lst13, e_lst14, e_lst15, e_lst16, e_lst9, e_lst10, e_lst11, e_lst12, e_tup9, e_tup10, e_tup11, e_tup12, e_ListF, e_listFT, e_listFL, e_GetK, e_getK, e_IfB, e_ifBT, e_ifBF, e_notB, e_isB, o_int, o_str, o_tup, o_lst, o_non, o_bl, n_int, n_str, n_tup, n_lst, n_non, n_bl, g1]
  have s1 : sFor (dEnumT (dVar 0)) g2 lbI [some (.sh G), none, none, none] = .exc (bH (hs.length : Nat)) ρ := by
    rw [e_For, e_Enum]
    show ((enumKT G [some (.sh G), none, none, none]).bind (forK g2 lbI)) = _
    rw [g3]
    exact hb
  refine (e_run [] 4 _ _ rfl).trans ?_
  rw [lb_cut, show startE 4 [.sh G] = [some (.sh G), none, none, none] from rfl, seq_ok s0, seq_exc s1]
  rfl
theorem led_x {G : D} {k : Int} (h : m_led_by [.sh G] = .exc (bH k) []) : m__law_led_refused [.sh G] = .ok (.sh (.int k)) [] := by
  have q : (fun ex_ => sRet (dXf (fun c => c == 2) "index" ex_)) (bH k) [some (.sh G), none] = .ok (.ret (.sh (.int k))) [some (.sh G), none] := by kernel_rfl
  have b : sExpr (dCall m_led_by (aVal (dVar 0) (aNil))) [some (.sh G), none] = .exc (bH k) [some (.sh G), none] := by
    have o : ∀ ρ, outK [.inl G] ρ (.exc (bH k) []) = .exc (bH k) ρ := fun _ => rfl
    simp only [startE, List.map, List.length, List.replicate, e_Seq, e_Asg, e_Ret, e_RetF, e_Expr, e_exprK, e_op, e_op2, e_op1, e_un, e_is, e_B, e_bK, e_Cons, e_consK, e_consK2, e_Nil, e_var, e_C, e_bind, e_bindX, e_bindB, e_lookS, e_lookO, M.toD, e_of, e_asgK, e_gSet, e_stK, e_sqN, e_sqR, e_sqB, e_sqC, e_sNil, e_retK, e_retFK, e_add, e_vI, e_neg, e_fInt, e_fIntB, e_sIf, e_sifT, e_sifF, e_T, e_toB, e_Tru, e_truB, e_And, e_Or, e_andT, e_andF, e_orT, e_orF, e_Not, e_notK, e_AndV, e_OrV, e_andVT, e_andVF, e_orVT, e_orVF, e_NotV, e_notVK, e_If, e_ifT, e_ifF, e_Tup, e_Lst, e_LstF, e_tup0, e_lst0, e_lstF0, e_eqI, e_neI, e_ltI, e_leI, e_gtI, e_geI, e_lenL, e_lenT, e_lenR, e_lenS, e_ixL, e_ixT, at0, at1, at2, at3, e_tupL, e_tupT, e_lstT, e_Own, e_ownK, e_Sub, e_For, e_Items, e_itL, e_itT, e_itR, e_Call, e_CallF, e_aNil, e_aVal, e_aVK, e_aVK2, step0, step1, step2, step3, out0, out1, out2, out3, outX1, outX2, outO1, outO2, outO3, e_onSh, e_onOw, decide_true, decide_false, Bool.not_true, Bool.not_false, List.cons_append, List.nil_append, List.getElem?_cons_zero, List.getElem?_cons_succ, List.set_cons_zero, List.set_cons_succ, Nat.reduceLT, Nat.reduceAdd, Nat.reduceSub, Option.map_some, finF, outsE, e_frz, d_rng7, e_forK, e_tnN, e_tnC, e_tnB, e_tnR, e_whT, e_whF, e_Raise, e_Par, e_parK, e_parK2, e_augK, e_Ch, e_chK1, e_chK2, e_chT, e_chF, e_Try, e_tryO, e_tru, e_While, e_abs, e_max2, e_min2, e_gSq2, e_tup1, e_lst1, e_tup2, e_lst2, e_tup3, e_lst3, e_tup4, e_lst4, e_tup5, e_lst5, e_tup6, e_lst6, e_tup7, e_lst7, e_tup8, e_lst8, e_RaF, e_raF1, e_raF2, e_TryA, e_tryAO, e_asgnK, e_frzX, e_bindX, e_Fld, e_SFld, e_Mk, e_mkK1, e_mkK2, e_mkK3, e_mkK4, e_mkO, e_mkX, e_Met, e_metK2, e_Enum, e_enumL, e_enumT, pairs2, pairs3, pairs4, e_lst13, e_lst14, e_lst15, e_lst16, e_lst9, e_lst10, e_lst11, e_lst12, e_tup9, e_tup10, e_tup11, e_tup12, e_ListF, e_listFT, e_listFL, e_GetK, e_getK, e_IfB, e_ifBT, e_ifBF, e_notB, e_isB, o_int, o_str, o_tup, o_lst, o_non, o_bl, n_int, n_str, n_tup, n_lst, n_non, n_bl, h, o]
  have t : sTryAs subT (sExpr (dCall m_led_by (aVal (dVar 0) (aNil)))) 2 1 (fun ex_ => sRet (dXf (fun c => c == 2) "index" ex_)) [some (.sh G), none] = .ok (.ret (.sh (.int k))) [some (.sh G), none] := by
    rw [e_TryA, b, e_tryAX (h := by kernel_rfl) (hi := by show 1 < 2; decide)]
    show asgnK 1 ((fun ex_ => sRet (dXf (fun c => c == 2) "index" ex_)) (bH k) [some (.sh G), none]) = _
    rw [q]
    rfl
  refine (e_run [] 2 _ _ rfl).trans ?_
  unfold b__law_led_refused
  rw [show startE 2 [.sh G] = [some (.sh G), none] from rfl, seq_ret t]
  rfl
end L20
set_option Elab.async false
set_option linter.all false
set_option maxRecDepth 100000
set_option maxHeartbeats 4000000
namespace L20
open PySem L2 Rf Sv
/-! ### the law -/
def lS0 : ENV → R Fl := (sOwn (fCall m__law_hand (aVal (dVar 0) (aNil))) 1)
def lB0 : ENV → R Fl := (sAsg (fun ρ => frz ((fLc (dRng1 (dCall m__law_take (aIo 1 (aVal (dC (.int 9)) (aNil))))) (gSet 12) (dYes) (dCall m__law_hop (aIo 1 (aNil))) [12]) ρ)) (gSet 3))
def lB1 : ENV → R Fl := (sAsg (dCall m__law_walked (aIo 1 (aVal (dVar 3) (aNil)))) (gSet 4))
def lB2 : ENV → R Fl := (sAsg (dB fList (dCons (dVar 3) (dNil))) (gSet 5))
def lB3 : ENV → R Fl := (sAsg (dIf (dT (dCmp .eq (dVar 2) (dC (.int 1)))) (dVar 3) (dB fTuple (dCons (dVar 3) (dNil)))) (gSet 6))
def lB4 : ENV → R Fl := (sIf (dOr (dT (dCmp .isN (dVar 4) (dC .non))) (dOr (dT (dCmp .ne (dCall m_led_by (aVal (dVar 6) (aNil))) (dVar 4))) (dT (dCmp .ne (dB fList (dCons (dVar 6) (dNil))) (dVar 5))))) (sRet (dC (.bl false))) (sNil))
def lB5 : ENV → R Fl := (sAsg (dCall m__law_sevens (aIo 1 (aVal (dPow (dC (.int 10)) (dC (.int 12))) (aNil)))) (gSet 7))
def lB6 : ENV → R Fl := (sAsg (dCall m__law_hop (aIo 1 (aNil))) (gSet 8))
def lB7 : ENV → R Fl := (sIf (dOr (dNot (dTru (dCall m__law_same_shape (aVal (dVar 7) (aNil))))) (dT (dCmp .ne (dCall m_lead_sevens (aVal (dVar 7) (aVal (dVar 8) (aNil)))) (dCall m__law_hopped (aVal (dVar 7) (aVal (dVar 8) (aNil))))))) (sRet (dC (.bl false))) (sNil))
def lB8 : ENV → R Fl := (sAsg (dCall m__law_spoilt (aIo 1 (aVal (dVar 7) (aNil)))) (gSet 9))
def lB9 : ENV → R Fl := (sAsg (dCall m__law_bad_hop (aIo 1 (aNil))) (gSet 10))
def lB10 : ENV → R Fl := (sIf (dNot (dTru (dCall m__law_same_shape (aVal (dVar 9) (aNil))))) (sRet (dC (.bl false))) (sNil))
def lB11 : ENV → R Fl := (sIf (dAnd (dT (dCmp .isN (dCall m__law_shape (aVal (dVar 9) (aNil))) (dC .non))) (dT (dCmp .ne (dCall m__law_lead_refused (aVal (dVar 9) (aVal (dCall m__law_pick (aIo 1 (aVal (dLst (dCons (dVar 8) (dCons (dVar 10) (dNil)))) (aNil)))) (aNil)))) (dC (.str "sevens"))))) (sRet (dC (.bl false))) (sNil))
def lB12 : ENV → R Fl := (sIf (dT (dCmp .ne (dCall m__law_lead_refused (aVal (dVar 7) (aVal (dVar 10) (aNil)))) (dC (.str "hop")))) (sRet (dC (.bl false))) (sNil))
def lB13 : ENV → R Fl := (sAsg (dCall m__law_take (aIo 1 (aVal (dAdd (dB fLen (dCons (dVar 3) (dNil))) (dC (.int 1))) (aNil)))) (gSet 11))
def lB14 : ENV → R Fl := (sIf (dT (dCmp .ne (dCall m__law_led_refused (aVal (dAdd (dAdd (dAdd (dSl (dVar 3) (dNoPart) (dPart (dVar 11))) (dLst (dCons (dVar 10) (dNil)))) (dSl (dVar 3) (dPart (dVar 11)) (dNoPart))) (dLst (dCons (dVar 10) (dNil)))) (aNil))) (dVar 11))) (sRet (dC (.bl false))) (sNil))
def lB : ENV → R Fl := sSeq lB0 (sSeq lB1 (sSeq lB2 (sSeq lB3 (sSeq lB4 (sSeq lB5 (sSeq lB6 (sSeq lB7 (sSeq lB8 (sSeq lB9 (sSeq lB10 (sSeq lB11 (sSeq lB12 (sSeq lB13 (lB14))))))))))))))
def lE : ENV → R Fl := (sRet (dCmp .eq (dCall m__law_led_refused (aVal (dCall m__law_pick (aIo 1 (aVal (dLst (dCons (dC .non) (dCons (dC (.int 5)) (dCons (dC (.str "plus")) (dNil))))) (aNil)))) (aNil))) (dC (.int 0))))
theorem law_cut : b_law = sSeq lS0 (sSeq (sFor (dRng1 (dC (.int 3))) (gSet 2) lB) lE) := rfl
theorem fLc_di {di : ENV → R (List D)} {g : D → ENV → Option ENV} {tt : ENV → R Bool} {te : ENV → R D} {vs : List Nat} {ρ ρ1 : ENV} {ds : List D} (h : di ρ = .ok ds ρ1) : fLc di g tt te vs ρ = fLc (fun ρ => .ok ds ρ) g tt te vs ρ1 := by
  unfold fLc
  rw [h]
theorem hops_of : ∀ (ys : List D), (∀ z ∈ ys, ∃ h : Hop, z = h.d ∧ h.fit) → ∃ hs : List Hop, ys = hs.map Hop.d ∧ ∀ h ∈ hs, h.fit
  | [], _ => ⟨[], rfl, fun _ h => nomatch h⟩
  | y :: ys, h => by
    obtain ⟨f, rfl, hf⟩ := h y List.mem_cons_self
    obtain ⟨hs, rfl, hh⟩ := hops_of ys fun z hz => h z (List.mem_cons_of_mem _ hz)
    refine ⟨f :: hs, rfl, fun g hg => ?_⟩
    rcases List.mem_cons.mp hg with rfl | hg
    · exact hf
    · exact hh g hg
theorem dep_hop (h : Hop) : PyData.depth h.d.toPy ≤ 2 := by cases h <;> simp [Hop.d, D.toPy, toPyL, PyData.depth, PyData.depthAll]
theorem dep_hops : ∀ hs : List Hop, PyData.depthAll (toPyL (hs.map Hop.d)) ≤ 2
  | [] => by simp [toPyL, PyData.depthAll]
  | h :: hs => by
    have := dep_hops hs
    have := dep_hop h
    rw [List.map_cons]
    simp only [toPyL, PyData.depthAll]
    omega
theorem okh (hs : List Hop) : okL (hs.map Hop.d) = true := by
  induction hs with
  | nil => rfl
  | cons h hs ih =>
    show (okD h.d && okL (hs.map Hop.d)) = true
    rw [ih, show okD h.d = true by cases h <;> kernel_rfl]
    rfl
theorem kept_same (hs : List Hop) : CK.f .ne (.lst (hs.map Hop.d)) (.lst (hs.map Hop.d)) = some (.bl false) := by
  refine (same_eq (d := .lst (hs.map Hop.d)) (okh hs) (Nat.ble_eq_true_of_le ?_) (fun _ => by simp)).2
  have := dep_hops hs
  simp only [D.toPy, PyData.depth]
  omega
theorem pw12 : vIc cPow (fun i j => i ^ j.toNat) (.int 10) (.int 12) = some (.int 1000000000000) := by kernel_rfl
section
variable {C o3 o4 o5 o6 o7 o8 o9 o10 o11 : Option DV} {m : M} {L W G T H Z Y : D} {i k : Int}
theorem lb0 (hm : Good m) : ∃ (hs : List Hop) (m' : M), lB0 [C, some (.ow m), some (.sh (.int i)), o3, o4, o5, o6, o7, o8, o9, o10, o11, none] = .ok .nx [C, some (.ow m'), some (.sh (.int i)), some (.sh (.lst (hs.map Hop.d))), o4, o5, o6, o7, o8, o9, o10, o11, none] ∧ Good m' ∧ (∀ h ∈ hs, h.fit) ∧ hs.length ≤ 8 := by
  obtain ⟨r, m1, e1, g1, r0, r1⟩ := tk (n := 9) hm (by decide)
  have kr := e_rng1K r
  have di : dRng1 (dCall m__law_take (aIo 1 (aVal (dC (.int 9)) (aNil)))) [C, some (.ow m), some (.sh (.int i)), o3, o4, o5, o6, o7, o8, o9, o10, o11, none] = .ok (rng 0 r) [C, some (.ow m1), some (.sh (.int i)), o3, o4, o5, o6, o7, o8, o9, o10, o11, none] := by
    have k := fun ρ => e_rng1K r ρ (by unfold rngOk; rw [decide_eq_true (by omega), decide_eq_true (by omega)]; rfl)
    generalize rng 0 r = ds at *
    simp only [startE, List.map, List.length, List.replicate, e_Seq, e_Asg, e_Ret, e_RetF, e_Expr, e_exprK, e_op, e_op2, e_op1, e_un, e_is, e_B, e_bK, e_Cons, e_consK, e_consK2, e_Nil, e_var, e_C, e_bind, e_bindX, e_bindB, e_lookS, e_lookO, M.toD, e_of, e_asgK, e_gSet, e_stK, e_sqN, e_sqR, e_sqB, e_sqC, e_sNil, e_retK, e_retFK, e_add, e_vI, e_neg, e_fInt, e_fIntB, e_sIf, e_sifT, e_sifF, e_T, e_toB, e_Tru, e_truB, e_And, e_Or, e_andT, e_andF, e_orT, e_orF, e_Not, e_notK, e_AndV, e_OrV, e_andVT, e_andVF, e_orVT, e_orVF, e_NotV, e_notVK, e_If, e_ifT, e_ifF, e_Tup, e_Lst, e_LstF, e_tup0, e_lst0, e_lstF0, e_eqI, e_neI, e_ltI, e_leI, e_gtI, e_geI, e_lenL, e_lenT, e_lenR, e_lenS, e_ixL, e_ixT, at0, at1, at2, at3, e_tupL, e_tupT, e_lstT, e_Own, e_ownK, e_Sub, e_For, e_Items, e_itL, e_itT, e_itR, e_Call, e_CallF, e_aNil, e_aVal, e_aVK, e_aVK2, step0, step1, step2, step3, out0, out1, out2, out3, outX1, outX2, outO1, outO2, outO3, e_onSh, e_onOw, decide_true, decide_false, Bool.not_true, Bool.not_false, List.cons_append, List.nil_append, List.getElem?_cons_zero, List.getElem?_cons_succ, List.set_cons_zero, List.set_cons_succ, Nat.reduceLT, Nat.reduceAdd, Nat.reduceSub, Option.map_some, finF, outsE, e_frz, d_rng7, e_forK, e_tnN, e_tnC, e_tnB, e_tnR, e_whT, e_whF, e_Raise, e_Par, e_parK, e_parK2, e_augK, e_Ch, e_chK1, e_chK2, e_chT, e_chF, e_Try, e_tryO, e_tru, e_While, e_abs, e_max2, e_min2, e_gSq2, e_tup1, e_lst1, e_tup2, e_lst2, e_tup3, e_lst3, e_tup4, e_lst4, e_tup5, e_lst5, e_tup6, e_lst6, e_tup7, e_lst7, e_tup8, e_lst8, e_RaF, e_raF1, e_raF2, e_TryA, e_tryAO, e_asgnK, e_frzX, e_bindX, e_Fld, e_SFld, e_Mk, e_mkK1, e_mkK2, e_mkK3, e_mkK4, e_mkO, e_mkX, e_Met, e_metK2, e_Enum, e_enumL, e_enumT, pairs2, pairs3, pairs4, e_lst13, e_lst14, e_lst15, e_lst16, e_lst9, e_lst10, e_lst11, e_lst12, e_tup9, e_tup10, e_tup11, e_tup12, e_ListF, e_listFT, e_listFL, e_GetK, e_getK, e_IfB, e_ifBT, e_ifBF, e_notB, e_isB, o_int, o_str, o_tup, o_lst, o_non, o_bl, n_int, n_str, n_tup, n_lst, n_non, n_bl, e_Rng1, e_aIo (m := m), stepO2 (m := m), e1, k]
  obtain ⟨ys, m', e, g, l, hp⟩ := lc_draw (Gd := Good) (i := 12) (te := dCall m__law_hop (aIo 1 (aNil))) (A := fun m => [C, some (.ow m), some (.sh (.int i)), o3, o4, o5, o6, o7, o8, o9, o10, o11, none]) (P := fun z => ∃ h : Hop, z = h.d ∧ h.fit) (ds := rng 0 r) (di := fun ρ => .ok (rng 0 r) ρ) g1 rfl (fun _ => rfl) (fun d _ m hm => by
      obtain ⟨h, m1, e1, g1, hf⟩ := hop_ok hm
      refine ⟨h.d, m1, ?_, g1, h, rfl, hf⟩
      generalize h.d = H at *
      simp only [startE, List.map, List.length, List.replicate, e_Seq, e_Asg, e_Ret, e_RetF, e_Expr, e_exprK, e_op, e_op2, e_op1, e_un, e_is, e_B, e_bK, e_Cons, e_consK, e_consK2, e_Nil, e_var, e_C, e_bind, e_bindX, e_bindB, e_lookS, e_lookO, M.toD, e_of, e_asgK, e_gSet, e_stK, e_sqN, e_sqR, e_sqB, e_sqC, e_sNil, e_retK, e_retFK, e_add, e_vI, e_neg, e_fInt, e_fIntB, e_sIf, e_sifT, e_sifF, e_T, e_toB, e_Tru, e_truB, e_And, e_Or, e_andT, e_andF, e_orT, e_orF, e_Not, e_notK, e_AndV, e_OrV, e_andVT, e_andVF, e_orVT, e_orVF, e_NotV, e_notVK, e_If, e_ifT, e_ifF, e_Tup, e_Lst, e_LstF, e_tup0, e_lst0, e_lstF0, e_eqI, e_neI, e_ltI, e_leI, e_gtI, e_geI, e_lenL, e_lenT, e_lenR, e_lenS, e_ixL, e_ixT, at0, at1, at2, at3, e_tupL, e_tupT, e_lstT, e_Own, e_ownK, e_Sub, e_For, e_Items, e_itL, e_itT, e_itR, e_Call, e_CallF, e_aNil, e_aVal, e_aVK, e_aVK2, step0, step1, step2, step3, out0, out1, out2, out3, outX1, outX2, outO1, outO2, outO3, e_onSh, e_onOw, decide_true, decide_false, Bool.not_true, Bool.not_false, List.cons_append, List.nil_append, List.getElem?_cons_zero, List.getElem?_cons_succ, List.set_cons_zero, List.set_cons_succ, Nat.reduceLT, Nat.reduceAdd, Nat.reduceSub, Option.map_some, finF, outsE, e_frz, d_rng7, e_forK, e_tnN, e_tnC, e_tnB, e_tnR, e_whT, e_whF, e_Raise, e_Par, e_parK, e_parK2, e_augK, e_Ch, e_chK1, e_chK2, e_chT, e_chF, e_Try, e_tryO, e_tru, e_While, e_abs, e_max2, e_min2, e_gSq2, e_tup1, e_lst1, e_tup2, e_lst2, e_tup3, e_lst3, e_tup4, e_lst4, e_tup5, e_lst5, e_tup6, e_lst6, e_tup7, e_lst7, e_tup8, e_lst8, e_RaF, e_raF1, e_raF2, e_TryA, e_tryAO, e_asgnK, e_frzX, e_bindX, e_Fld, e_SFld, e_Mk, e_mkK1, e_mkK2, e_mkK3, e_mkK4, e_mkO, e_mkX, e_Met, e_metK2, e_Enum, e_enumL, e_enumT, pairs2, pairs3, pairs4, e_lst13, e_lst14, e_lst15, e_lst16, e_lst9, e_lst10, e_lst11, e_lst12, e_tup9, e_tup10, e_tup11, e_tup12, e_ListF, e_listFT, e_listFL, e_GetK, e_getK, e_IfB, e_ifBT, e_ifBF, e_notB, e_isB, o_int, o_str, o_tup, o_lst, o_non, o_bl, n_int, n_str, n_tup, n_lst, n_non, n_bl, e_aIo (m := m), stepO1 (m := m), e1]) (by unfold rng; rw [List.length_map, List.length_range, sizeLine_eq]; omega)
  obtain ⟨hs, rfl, hh⟩ := hops_of ys hp
  refine ⟨hs, m', ?_, g, hh, ?_⟩
  · unfold lB0
    rw [← fLc_di (g := gSet 12) (tt := dYes) (te := dCall m__law_hop (aIo 1 (aNil))) (vs := [12]) di] at e
    generalize fLc _ _ _ _ _ = X at *
    have e := e
    simp only [startE, List.map, List.length, List.replicate, e_Seq, e_Asg, e_Ret, e_RetF, e_Expr, e_exprK, e_op, e_op2, e_op1, e_un, e_is, e_B, e_bK, e_Cons, e_consK, e_consK2, e_Nil, e_var, e_C, e_bind, e_bindX, e_bindB, e_lookS, e_lookO, M.toD, e_of, e_asgK, e_gSet, e_stK, e_sqN, e_sqR, e_sqB, e_sqC, e_sNil, e_retK, e_retFK, e_add, e_vI, e_neg, e_fInt, e_fIntB, e_sIf, e_sifT, e_sifF, e_T, e_toB, e_Tru, e_truB, e_And, e_Or, e_andT, e_andF, e_orT, e_orF, e_Not, e_notK, e_AndV, e_OrV, e_andVT, e_andVF, e_orVT, e_orVF, e_NotV, e_notVK, e_If, e_ifT, e_ifF, e_Tup, e_Lst, e_LstF, e_tup0, e_lst0, e_lstF0, e_eqI, e_neI, e_ltI, e_leI, e_gtI, e_geI, e_lenL, e_lenT, e_lenR, e_lenS, e_ixL, e_ixT, at0, at1, at2, at3, e_tupL, e_tupT, e_lstT, e_Own, e_ownK, e_Sub, e_For, e_Items, e_itL, e_itT, e_itR, e_Call, e_CallF, e_aNil, e_aVal, e_aVK, e_aVK2, step0, step1, step2, step3, out0, out1, out2, out3, outX1, outX2, outO1, outO2, outO3, e_onSh, e_onOw, decide_true, decide_false, Bool.not_true, Bool.not_false, List.cons_append, List.nil_append, List.getElem?_cons_zero, List.getElem?_cons_succ, List.set_cons_zero, List.set_cons_succ, Nat.reduceLT, Nat.reduceAdd, Nat.reduceSub, Option.map_some, finF, outsE, e_frz, d_rng7, e_forK, e_tnN, e_tnC, e_tnB, e_tnR, e_whT, e_whF, e_Raise, e_Par, e_parK, e_parK2, e_augK, e_Ch, e_chK1, e_chK2, e_chT, e_chF, e_Try, e_tryO, e_tru, e_While, e_abs, e_max2, e_min2, e_gSq2, e_tup1, e_lst1, e_tup2, e_lst2, e_tup3, e_lst3, e_tup4, e_lst4, e_tup5, e_lst5, e_tup6, e_lst6, e_tup7, e_lst7, e_tup8, e_lst8, e_RaF, e_raF1, e_raF2, e_TryA, e_tryAO, e_asgnK, e_frzX, e_bindX, e_Fld, e_SFld, e_Mk, e_mkK1, e_mkK2, e_mkK3, e_mkK4, e_mkO, e_mkX, e_Met, e_metK2, e_Enum, e_enumL, e_enumT, pairs2, pairs3, pairs4, e_lst13, e_lst14, e_lst15, e_lst16, e_lst9, e_lst10, e_lst11, e_lst12, e_tup9, e_tup10, e_tup11, e_tup12, e_ListF, e_listFT, e_listFL, e_GetK, e_getK, e_IfB, e_ifBT, e_ifBF, e_notB, e_isB, o_int, o_str, o_tup, o_lst, o_non, o_bl, n_int, n_str, n_tup, n_lst, n_non, n_bl, e]
  · rw [List.length_map] at l
    rw [l]
    unfold rng
    rw [List.length_map, List.length_range]
    omega
theorem lb1 (h : m__law_walked [.ow m, .sh L] = .ok (.sh W) [m]) : lB1 [C, some (.ow m), some (.sh (.int i)), some (.sh L), o4, o5, o6, o7, o8, o9, o10, o11, none] = .ok .nx [C, some (.ow m), some (.sh (.int i)), some (.sh L), some (.sh W), o5, o6, o7, o8, o9, o10, o11, none] := by
  unfold lB1
  simp only [startE, List.map, List.length, List.replicate, e_Seq, e_Asg, e_Ret, e_RetF, e_Expr, e_exprK, e_op, e_op2, e_op1, e_un, e_is, e_B, e_bK, e_Cons, e_consK, e_consK2, e_Nil, e_var, e_C, e_bind, e_bindX, e_bindB, e_lookS, e_lookO, M.toD, e_of, e_asgK, e_gSet, e_stK, e_sqN, e_sqR, e_sqB, e_sqC, e_sNil, e_retK, e_retFK, e_add, e_vI, e_neg, e_fInt, e_fIntB, e_sIf, e_sifT, e_sifF, e_T, e_toB, e_Tru, e_truB, e_And, e_Or, e_andT, e_andF, e_orT, e_orF, e_Not, e_notK, e_AndV, e_OrV, e_andVT, e_andVF, e_orVT, e_orVF, e_NotV, e_notVK, e_If, e_ifT, e_ifF, e_Tup, e_Lst, e_LstF, e_tup0, e_lst0, e_lstF0, e_eqI, e_neI, e_ltI, e_leI, e_gtI, e_geI, e_lenL, e_lenT, e_lenR, e_lenS, e_ixL, e_ixT, at0, at1, at2, at3, e_tupL, e_tupT, e_lstT, e_Own, e_ownK, e_Sub, e_For, e_Items, e_itL, e_itT, e_itR, e_Call, e_CallF, e_aNil, e_aVal, e_aVK, e_aVK2, step0, step1, step2, step3, out0, out1, out2, out3, outX1, outX2, outO1, outO2, outO3, e_onSh, e_onOw, decide_true, decide_false, Bool.not_true, Bool.not_false, List.cons_append, List.nil_append, List.getElem?_cons_zero, List.getElem?_cons_succ, List.set_cons_zero, List.set_cons_succ, Nat.reduceLT, Nat.reduceAdd, Nat.reduceSub, Option.map_some, finF, outsE, e_frz, d_rng7, e_forK, e_tnN, e_tnC, e_tnB, e_tnR, e_whT, e_whF, e_Raise, e_Par, e_parK, e_parK2, e_augK, e_Ch, e_chK1, e_chK2, e_chT, e_chF, e_Try, e_tryO, e_tru, e_While, e_abs, e_max2, e_min2, e_gSq2, e_tup1, e_lst1, e_tup2, e_lst2, e_tup3, e_lst3, e_tup4, e_lst4, e_tup5, e_lst5, e_tup6, e_lst6, e_tup7, e_lst7, e_tup8, e_lst8, e_RaF, e_raF1, e_raF2, e_TryA, e_tryAO, e_asgnK, e_frzX, e_bindX, e_Fld, e_SFld, e_Mk, e_mkK1, e_mkK2, e_mkK3, e_mkK4, e_mkO, e_mkX, e_Met, e_metK2, e_Enum, e_enumL, e_enumT, pairs2, pairs3, pairs4, e_lst13, e_lst14, e_lst15, e_lst16, e_lst9, e_lst10, e_lst11, e_lst12, e_tup9, e_tup10, e_tup11, e_tup12, e_ListF, e_listFT, e_listFL, e_GetK, e_getK, e_IfB, e_ifBT, e_ifBF, e_notB, e_isB, o_int, o_str, o_tup, o_lst, o_non, o_bl, n_int, n_str, n_tup, n_lst, n_non, n_bl, e_aIo (m := m), stepO2 (m := m), h]
theorem lb2 (h : fList [L] = some L) : lB2 [C, some (.ow m), some (.sh (.int i)), some (.sh L), some (.sh W), o5, o6, o7, o8, o9, o10, o11, none] = .ok .nx [C, some (.ow m), some (.sh (.int i)), some (.sh L), some (.sh W), some (.sh L), o6, o7, o8, o9, o10, o11, none] := by
  unfold lB2
  simp only [startE, List.map, List.length, List.replicate, e_Seq, e_Asg, e_Ret, e_RetF, e_Expr, e_exprK, e_op, e_op2, e_op1, e_un, e_is, e_B, e_bK, e_Cons, e_consK, e_consK2, e_Nil, e_var, e_C, e_bind, e_bindX, e_bindB, e_lookS, e_lookO, M.toD, e_of, e_asgK, e_gSet, e_stK, e_sqN, e_sqR, e_sqB, e_sqC, e_sNil, e_retK, e_retFK, e_add, e_vI, e_neg, e_fInt, e_fIntB, e_sIf, e_sifT, e_sifF, e_T, e_toB, e_Tru, e_truB, e_And, e_Or, e_andT, e_andF, e_orT, e_orF, e_Not, e_notK, e_AndV, e_OrV, e_andVT, e_andVF, e_orVT, e_orVF, e_NotV, e_notVK, e_If, e_ifT, e_ifF, e_Tup, e_Lst, e_LstF, e_tup0, e_lst0, e_lstF0, e_eqI, e_neI, e_ltI, e_leI, e_gtI, e_geI, e_lenL, e_lenT, e_lenR, e_lenS, e_ixL, e_ixT, at0, at1, at2, at3, e_tupL, e_tupT, e_lstT, e_Own, e_ownK, e_Sub, e_For, e_Items, e_itL, e_itT, e_itR, e_Call, e_CallF, e_aNil, e_aVal, e_aVK, e_aVK2, step0, step1, step2, step3, out0, out1, out2, out3, outX1, outX2, outO1, outO2, outO3, e_onSh, e_onOw, decide_true, decide_false, Bool.not_true, Bool.not_false, List.cons_append, List.nil_append, List.getElem?_cons_zero, List.getElem?_cons_succ, List.set_cons_zero, List.set_cons_succ, Nat.reduceLT, Nat.reduceAdd, Nat.reduceSub, Option.map_some, finF, outsE, e_frz, d_rng7, e_forK, e_tnN, e_tnC, e_tnB, e_tnR, e_whT, e_whF, e_Raise, e_Par, e_parK, e_parK2, e_augK, e_Ch, e_chK1, e_chK2, e_chT, e_chF, e_Try, e_tryO, e_tru, e_While, e_abs, e_max2, e_min2, e_gSq2, e_tup1, e_lst1, e_tup2, e_lst2, e_tup3, e_lst3, e_tup4, e_lst4, e_tup5, e_lst5, e_tup6, e_lst6, e_tup7, e_lst7, e_tup8, e_lst8, e_RaF, e_raF1, e_raF2, e_TryA, e_tryAO, e_asgnK, e_frzX, e_bindX, e_Fld, e_SFld, e_Mk, e_mkK1, e_mkK2, e_mkK3, e_mkK4, e_mkO, e_mkX, e_Met, e_metK2, e_Enum, e_enumL, e_enumT, pairs2, pairs3, pairs4, e_lst13, e_lst14, e_lst15, e_lst16, e_lst9, e_lst10, e_lst11, e_lst12, e_tup9, e_tup10, e_tup11, e_tup12, e_ListF, e_listFT, e_listFL, e_GetK, e_getK, e_IfB, e_ifBT, e_ifBF, e_notB, e_isB, o_int, o_str, o_tup, o_lst, o_non, o_bl, n_int, n_str, n_tup, n_lst, n_non, n_bl, h]
theorem lb3 {hs : List Hop} : ∃ G, lB3 [C, some (.ow m), some (.sh (.int i)), some (.sh (.lst (hs.map Hop.d))), some (.sh W), some (.sh (.lst (hs.map Hop.d))), o6, o7, o8, o9, o10, o11, none] = .ok .nx [C, some (.ow m), some (.sh (.int i)), some (.sh (.lst (hs.map Hop.d))), some (.sh W), some (.sh (.lst (hs.map Hop.d))), some (.sh G), o7, o8, o9, o10, o11, none] ∧ seqD G (hs.map Hop.d) ∧ fList [G] = some (.lst (hs.map Hop.d)) := by
  have q := eqI i 1
  have t : fTuple [.lst (hs.map Hop.d)] = some (.tup (hs.map Hop.d)) := rfl
  have s1 := seq_l (hs.map Hop.d)
  have s2 := seq_t (hs.map Hop.d)
  have f1 : fList [.lst (hs.map Hop.d)] = some (.lst (hs.map Hop.d)) := rfl
  have f2 : fList [.tup (hs.map Hop.d)] = some (.lst (hs.map Hop.d)) := rfl
  by_cases h : i = 1
  · rw [show (i == 1) = true by rw [h]; rfl] at q
    refine ⟨.lst (hs.map Hop.d), ?_, s1, f1⟩
    generalize D.lst (hs.map Hop.d) = L at *
    unfold lB3
    simp only [startE, List.map, List.length, List.replicate, e_Seq, e_Asg, e_Ret, e_RetF, e_Expr, e_exprK, e_op, e_op2, e_op1, e_un, e_is, e_B, e_bK, e_Cons, e_consK, e_consK2, e_Nil, e_var, e_C, e_bind, e_bindX, e_bindB, e_lookS, e_lookO, M.toD, e_of, e_asgK, e_gSet, e_stK, e_sqN, e_sqR, e_sqB, e_sqC, e_sNil, e_retK, e_retFK, e_add, e_vI, e_neg, e_fInt, e_fIntB, e_sIf, e_sifT, e_sifF, e_T, e_toB, e_Tru, e_truB, e_And, e_Or, e_andT, e_andF, e_orT, e_orF, e_Not, e_notK, e_AndV, e_OrV, e_andVT, e_andVF, e_orVT, e_orVF, e_NotV, e_notVK, e_If, e_ifT, e_ifF, e_Tup, e_Lst, e_LstF, e_tup0, e_lst0, e_lstF0, e_eqI, e_neI, e_ltI, e_leI, e_gtI, e_geI, e_lenL, e_lenT, e_lenR, e_lenS, e_ixL, e_ixT, at0, at1, at2, at3, e_tupL, e_tupT, e_lstT, e_Own, e_ownK, e_Sub, e_For, e_Items, e_itL, e_itT, e_itR, e_Call, e_CallF, e_aNil, e_aVal, e_aVK, e_aVK2, step0, step1, step2, step3, out0, out1, out2, out3, outX1, outX2, outO1, outO2, outO3, e_onSh, e_onOw, decide_true, decide_false, Bool.not_true, Bool.not_false, List.cons_append, List.nil_append, List.getElem?_cons_zero, List.getElem?_cons_succ, List.set_cons_zero, List.set_cons_succ, Nat.reduceLT, Nat.reduceAdd, Nat.reduceSub, Option.map_some, finF, outsE, e_frz, d_rng7, e_forK, e_tnN, e_tnC, e_tnB, e_tnR, e_whT, e_whF, e_Raise, e_Par, e_parK, e_parK2, e_augK, e_Ch, e_chK1, e_chK2, e_chT, e_chF, e_Try, e_tryO, e_tru, e_While, e_abs, e_max2, e_min2, e_gSq2, e_tup1, e_lst1, e_tup2, e_lst2, e_tup3, e_lst3, e_tup4, e_lst4, e_tup5, e_lst5, e_tup6, e_lst6, e_tup7, e_lst7, e_tup8, e_lst8, e_RaF, e_raF1, e_raF2, e_TryA, e_tryAO, e_asgnK, e_frzX, e_bindX, e_Fld, e_SFld, e_Mk, e_mkK1, e_mkK2, e_mkK3, e_mkK4, e_mkO, e_mkX, e_Met, e_metK2, e_Enum, e_enumL, e_enumT, pairs2, pairs3, pairs4, e_lst13, e_lst14, e_lst15, e_lst16, e_lst9, e_lst10, e_lst11, e_lst12, e_tup9, e_tup10, e_tup11, e_tup12, e_ListF, e_listFT, e_listFL, e_GetK, e_getK, e_IfB, e_ifBT, e_ifBF, e_notB, e_isB, o_int, o_str, o_tup, o_lst, o_non, o_bl, n_int, n_str, n_tup, n_lst, n_non, n_bl, q, -e_eqI]
  · rw [beq_false_of_ne h] at q
    refine ⟨.tup (hs.map Hop.d), ?_, s2, f2⟩
    generalize D.tup (hs.map Hop.d) = R at *
    generalize D.lst (hs.map Hop.d) = L at *
    unfold lB3
    simp only [startE, List.map, List.length, List.replicate, e_Seq, e_Asg, e_Ret, e_RetF, e_Expr, e_exprK, e_op, e_op2, e_op1, e_un, e_is, e_B, e_bK, e_Cons, e_consK, e_consK2, e_Nil, e_var, e_C, e_bind, e_bindX, e_bindB, e_lookS, e_lookO, M.toD, e_of, e_asgK, e_gSet, e_stK, e_sqN, e_sqR, e_sqB, e_sqC, e_sNil, e_retK, e_retFK, e_add, e_vI, e_neg, e_fInt, e_fIntB, e_sIf, e_sifT, e_sifF, e_T, e_toB, e_Tru, e_truB, e_And, e_Or, e_andT, e_andF, e_orT, e_orF, e_Not, e_notK, e_AndV, e_OrV, e_andVT, e_andVF, e_orVT, e_orVF, e_NotV, e_notVK, e_If, e_ifT, e_ifF, e_Tup, e_Lst, e_LstF, e_tup0, e_lst0, e_lstF0, e_eqI, e_neI, e_ltI, e_leI, e_gtI, e_geI, e_lenL, e_lenT, e_lenR, e_lenS, e_ixL, e_ixT, at0, at1, at2, at3, e_tupL, e_tupT, e_lstT, e_Own, e_ownK, e_Sub, e_For, e_Items, e_itL, e_itT, e_itR, e_Call, e_CallF, e_aNil, e_aVal, e_aVK, e_aVK2, step0, step1, step2, step3, out0, out1, out2, out3, outX1, outX2, outO1, outO2, outO3, e_onSh, e_onOw, decide_true, decide_false, Bool.not_true, Bool.not_false, List.cons_append, List.nil_append, List.getElem?_cons_zero, List.getElem?_cons_succ, List.set_cons_zero, List.set_cons_succ, Nat.reduceLT, Nat.reduceAdd, Nat.reduceSub, Option.map_some, finF, outsE, e_frz, d_rng7, e_forK, e_tnN, e_tnC, e_tnB, e_tnR, e_whT, e_whF, e_Raise, e_Par, e_parK, e_parK2, e_augK, e_Ch, e_chK1, e_chK2, e_chT, e_chF, e_Try, e_tryO, e_tru, e_While, e_abs, e_max2, e_min2, e_gSq2, e_tup1, e_lst1, e_tup2, e_lst2, e_tup3, e_lst3, e_tup4, e_lst4, e_tup5, e_lst5, e_tup6, e_lst6, e_tup7, e_lst7, e_tup8, e_lst8, e_RaF, e_raF1, e_raF2, e_TryA, e_tryAO, e_asgnK, e_frzX, e_bindX, e_Fld, e_SFld, e_Mk, e_mkK1, e_mkK2, e_mkK3, e_mkK4, e_mkO, e_mkX, e_Met, e_metK2, e_Enum, e_enumL, e_enumT, pairs2, pairs3, pairs4, e_lst13, e_lst14, e_lst15, e_lst16, e_lst9, e_lst10, e_lst11, e_lst12, e_tup9, e_tup10, e_tup11, e_tup12, e_ListF, e_listFT, e_listFL, e_GetK, e_getK, e_IfB, e_ifBT, e_ifBF, e_notB, e_isB, o_int, o_str, o_tup, o_lst, o_non, o_bl, n_int, n_str, n_tup, n_lst, n_non, n_bl, q, t, -e_eqI]
theorem lb4 {l : List Int} (h : m_led_by [.sh G] = .ok (.sh (tupI l)) []) (f : fList [G] = some L) (n : CK.f .ne L L = some (.bl false)) : lB4 [C, some (.ow m), some (.sh (.int i)), some (.sh L), some (.sh (tupI l)), some (.sh L), some (.sh G), o7, o8, o9, o10, o11, none] = .ok .nx [C, some (.ow m), some (.sh (.int i)), some (.sh L), some (.sh (tupI l)), some (.sh L), some (.sh G), o7, o8, o9, o10, o11, none] := by
  have w : CK.f .isN (tupI l) .non = some (.bl false) := rfl
  have e := t_ne l l
  rw [decide_eq_true rfl] at e
  generalize tupI l = W at *
  unfold lB4
  simp only [startE, List.map, List.length, List.replicate, e_Seq, e_Asg, e_Ret, e_RetF, e_Expr, e_exprK, e_op, e_op2, e_op1, e_un, e_is, e_B, e_bK, e_Cons, e_consK, e_consK2, e_Nil, e_var, e_C, e_bind, e_bindX, e_bindB, e_lookS, e_lookO, M.toD, e_of, e_asgK, e_gSet, e_stK, e_sqN, e_sqR, e_sqB, e_sqC, e_sNil, e_retK, e_retFK, e_add, e_vI, e_neg, e_fInt, e_fIntB, e_sIf, e_sifT, e_sifF, e_T, e_toB, e_Tru, e_truB, e_And, e_Or, e_andT, e_andF, e_orT, e_orF, e_Not, e_notK, e_AndV, e_OrV, e_andVT, e_andVF, e_orVT, e_orVF, e_NotV, e_notVK, e_If, e_ifT, e_ifF, e_Tup, e_Lst, e_LstF, e_tup0, e_lst0, e_lstF0, e_eqI, e_neI, e_ltI, e_leI, e_gtI, e_geI, e_lenL, e_lenT, e_lenR, e_lenS, e_ixL, e_ixT, at0, at1, at2, at3, e_tupL, e_tupT, e_lstT, e_Own, e_ownK, e_Sub, e_For, e_Items, e_itL, e_itT, e_itR, e_Call, e_CallF, e_aNil, e_aVal, e_aVK, e_aVK2, step0, step1, step2, step3, out0, out1, out2, out3, outX1, outX2, outO1, outO2, outO3, e_onSh, e_onOw, decide_true, decide_false, Bool.not_true, Bool.not_false, List.cons_append, List.nil_append, List.getElem?_cons_zero, List.getElem?_cons_succ, List.set_cons_zero, List.set_cons_succ, Nat.reduceLT, Nat.reduceAdd, Nat.reduceSub, Option.map_some, finF, outsE, e_frz, d_rng7, e_forK, e_tnN, e_tnC, e_tnB, e_tnR, e_whT, e_whF, e_Raise, e_Par, e_parK, e_parK2, e_augK, e_Ch, e_chK1, e_chK2, e_chT, e_chF, e_Try, e_tryO, e_tru, e_While, e_abs, e_max2, e_min2, e_gSq2, e_tup1, e_lst1, e_tup2, e_lst2, e_tup3, e_lst3, e_tup4, e_lst4, e_tup5, e_lst5, e_tup6, e_lst6, e_tup7, e_lst7, e_tup8, e_lst8, e_RaF, e_raF1, e_raF2, e_TryA, e_tryAO, e_asgnK, e_frzX, e_bindX, e_Fld, e_SFld, e_Mk, e_mkK1, e_mkK2, e_mkK3, e_mkK4, e_mkO, e_mkX, e_Met, e_metK2, e_Enum, e_enumL, e_enumT, pairs2, pairs3, pairs4, e_lst13, e_lst14, e_lst15, e_lst16, e_lst9, e_lst10, e_lst11, e_lst12, e_tup9, e_tup10, e_tup11, e_tup12, e_ListF, e_listFT, e_listFL, e_GetK, e_getK, e_IfB, e_ifBT, e_ifBF, e_notB, e_isB, o_int, o_str, o_tup, o_lst, o_non, o_bl, n_int, n_str, n_tup, n_lst, n_non, n_bl, w, h, e, f, n]
theorem lb5 (hm : Good m) : ∃ (s : Sh) (B : Int) (m' : M), lB5 [C, some (.ow m), some (.sh (.int i)), some (.sh L), some (.sh W), some (.sh L), some (.sh G), o7, o8, o9, o10, o11, none] = .ok .nx [C, some (.ow m'), some (.sh (.int i)), some (.sh L), some (.sh W), some (.sh L), some (.sh G), some (.sh (tupI s.lst)), o8, o9, o10, o11, none] ∧ Good m' ∧ s.fit B := by
  obtain ⟨s, B, m1, e1, g1, hs⟩ := sevens_ok hm (B := 1000000000000) (by decide) (by decide)
  have p := pw12
  refine ⟨s, B, m1, ?_, g1, hs⟩
  generalize tupI s.lst = T at *
  unfold lB5
  simp only [startE, List.map, List.length, List.replicate, e_Seq, e_Asg, e_Ret, e_RetF, e_Expr, e_exprK, e_op, e_op2, e_op1, e_un, e_is, e_B, e_bK, e_Cons, e_consK, e_consK2, e_Nil, e_var, e_C, e_bind, e_bindX, e_bindB, e_lookS, e_lookO, M.toD, e_of, e_asgK, e_gSet, e_stK, e_sqN, e_sqR, e_sqB, e_sqC, e_sNil, e_retK, e_retFK, e_add, e_vI, e_neg, e_fInt, e_fIntB, e_sIf, e_sifT, e_sifF, e_T, e_toB, e_Tru, e_truB, e_And, e_Or, e_andT, e_andF, e_orT, e_orF, e_Not, e_notK, e_AndV, e_OrV, e_andVT, e_andVF, e_orVT, e_orVF, e_NotV, e_notVK, e_If, e_ifT, e_ifF, e_Tup, e_Lst, e_LstF, e_tup0, e_lst0, e_lstF0, e_eqI, e_neI, e_ltI, e_leI, e_gtI, e_geI, e_lenL, e_lenT, e_lenR, e_lenS, e_ixL, e_ixT, at0, at1, at2, at3, e_tupL, e_tupT, e_lstT, e_Own, e_ownK, e_Sub, e_For, e_Items, e_itL, e_itT, e_itR, e_Call, e_CallF, e_aNil, e_aVal, e_aVK, e_aVK2, step0, step1, step2, step3, out0, out1, out2, out3, outX1, outX2, outO1, outO2, outO3, e_onSh, e_onOw, decide_true, decide_false, Bool.not_true, Bool.not_false, List.cons_append, List.nil_append, List.getElem?_cons_zero, List.getElem?_cons_succ, List.set_cons_zero, List.set_cons_succ, Nat.reduceLT, Nat.reduceAdd, Nat.reduceSub, Option.map_some, finF, outsE, e_frz, d_rng7, e_forK, e_tnN, e_tnC, e_tnB, e_tnR, e_whT, e_whF, e_Raise, e_Par, e_parK, e_parK2, e_augK, e_Ch, e_chK1, e_chK2, e_chT, e_chF, e_Try, e_tryO, e_tru, e_While, e_abs, e_max2, e_min2, e_gSq2, e_tup1, e_lst1, e_tup2, e_lst2, e_tup3, e_lst3, e_tup4, e_lst4, e_tup5, e_lst5, e_tup6, e_lst6, e_tup7, e_lst7, e_tup8, e_lst8, e_RaF, e_raF1, e_raF2, e_TryA, e_tryAO, e_asgnK, e_frzX, e_bindX, e_Fld, e_SFld, e_Mk, e_mkK1, e_mkK2, e_mkK3, e_mkK4, e_mkO, e_mkX, e_Met, e_metK2, e_Enum, e_enumL, e_enumT, pairs2, pairs3, pairs4, e_lst13, e_lst14, e_lst15, e_lst16, e_lst9, e_lst10, e_lst11, e_lst12, e_tup9, e_tup10, e_tup11, e_tup12, e_ListF, e_listFT, e_listFL, e_GetK, e_getK, e_IfB, e_ifBT, e_ifBF, e_notB, e_isB, o_int, o_str, o_tup, o_lst, o_non, o_bl, n_int, n_str, n_tup, n_lst, n_non, n_bl, p, e_aIo (m := m), stepO2 (m := m), e1]
theorem lb6 (hm : Good m) : ∃ (h : Hop) (m' : M), lB6 [C, some (.ow m), some (.sh (.int i)), some (.sh L), some (.sh W), some (.sh L), some (.sh G), some (.sh T), o8, o9, o10, o11, none] = .ok .nx [C, some (.ow m'), some (.sh (.int i)), some (.sh L), some (.sh W), some (.sh L), some (.sh G), some (.sh T), some (.sh h.d), o9, o10, o11, none] ∧ Good m' ∧ h.fit := by
  obtain ⟨h, m1, e1, g1, hf⟩ := hop_ok hm
  refine ⟨h, m1, ?_, g1, hf⟩
  generalize h.d = H at *
  unfold lB6
  simp only [startE, List.map, List.length, List.replicate, e_Seq, e_Asg, e_Ret, e_RetF, e_Expr, e_exprK, e_op, e_op2, e_op1, e_un, e_is, e_B, e_bK, e_Cons, e_consK, e_consK2, e_Nil, e_var, e_C, e_bind, e_bindX, e_bindB, e_lookS, e_lookO, M.toD, e_of, e_asgK, e_gSet, e_stK, e_sqN, e_sqR, e_sqB, e_sqC, e_sNil, e_retK, e_retFK, e_add, e_vI, e_neg, e_fInt, e_fIntB, e_sIf, e_sifT, e_sifF, e_T, e_toB, e_Tru, e_truB, e_And, e_Or, e_andT, e_andF, e_orT, e_orF, e_Not, e_notK, e_AndV, e_OrV, e_andVT, e_andVF, e_orVT, e_orVF, e_NotV, e_notVK, e_If, e_ifT, e_ifF, e_Tup, e_Lst, e_LstF, e_tup0, e_lst0, e_lstF0, e_eqI, e_neI, e_ltI, e_leI, e_gtI, e_geI, e_lenL, e_lenT, e_lenR, e_lenS, e_ixL, e_ixT, at0, at1, at2, at3, e_tupL, e_tupT, e_lstT, e_Own, e_ownK, e_Sub, e_For, e_Items, e_itL, e_itT, e_itR, e_Call, e_CallF, e_aNil, e_aVal, e_aVK, e_aVK2, step0, step1, step2, step3, out0, out1, out2, out3, outX1, outX2, outO1, outO2, outO3, e_onSh, e_onOw, decide_true, decide_false, Bool.not_true, Bool.not_false, List.cons_append, List.nil_append, List.getElem?_cons_zero, List.getElem?_cons_succ, List.set_cons_zero, List.set_cons_succ, Nat.reduceLT, Nat.reduceAdd, Nat.reduceSub, Option.map_some, finF, outsE, e_frz, d_rng7, e_forK, e_tnN, e_tnC, e_tnB, e_tnR, e_whT, e_whF, e_Raise, e_Par, e_parK, e_parK2, e_augK, e_Ch, e_chK1, e_chK2, e_chT, e_chF, e_Try, e_tryO, e_tru, e_While, e_abs, e_max2, e_min2, e_gSq2, e_tup1, e_lst1, e_tup2, e_lst2, e_tup3, e_lst3, e_tup4, e_lst4, e_tup5, e_lst5, e_tup6, e_lst6, e_tup7, e_lst7, e_tup8, e_lst8, e_RaF, e_raF1, e_raF2, e_TryA, e_tryAO, e_asgnK, e_frzX, e_bindX, e_Fld, e_SFld, e_Mk, e_mkK1, e_mkK2, e_mkK3, e_mkK4, e_mkO, e_mkX, e_Met, e_metK2, e_Enum, e_enumL, e_enumT, pairs2, pairs3, pairs4, e_lst13, e_lst14, e_lst15, e_lst16, e_lst9, e_lst10, e_lst11, e_lst12, e_tup9, e_tup10, e_tup11, e_tup12, e_ListF, e_listFT, e_listFL, e_GetK, e_getK, e_IfB, e_ifBT, e_ifBF, e_notB, e_isB, o_int, o_str, o_tup, o_lst, o_non, o_bl, n_int, n_str, n_tup, n_lst, n_non, n_bl, e_aIo (m := m), stepO1 (m := m), e1]
theorem lb7 {s : Sh} {B : Int} {h : Hop} (hs : s.fit B) (hh : h.fit) : lB7 [C, some (.ow m), some (.sh (.int i)), some (.sh L), some (.sh W), some (.sh L), some (.sh G), some (.sh (tupI s.lst)), some (.sh h.d), o9, o10, o11, none] = .ok .nx [C, some (.ow m), some (.sh (.int i)), some (.sh L), some (.sh W), some (.sh L), some (.sh G), some (.sh (tupI s.lst)), some (.sh h.d), o9, o10, o11, none] := by
  have a := same_fit hs
  have b := lead_fit hs hh
  have c := hopped_ok (s := s) hh
  have n := t_ne (ledL s h) (ledL s h)
  rw [decide_eq_true rfl] at n
  generalize tupI (ledL s h) = R at *
  generalize tupI s.lst = T at *
  generalize h.d = H at *
  unfold lB7
  simp only [startE, List.map, List.length, List.replicate, e_Seq, e_Asg, e_Ret, e_RetF, e_Expr, e_exprK, e_op, e_op2, e_op1, e_un, e_is, e_B, e_bK, e_Cons, e_consK, e_consK2, e_Nil, e_var, e_C, e_bind, e_bindX, e_bindB, e_lookS, e_lookO, M.toD, e_of, e_asgK, e_gSet, e_stK, e_sqN, e_sqR, e_sqB, e_sqC, e_sNil, e_retK, e_retFK, e_add, e_vI, e_neg, e_fInt, e_fIntB, e_sIf, e_sifT, e_sifF, e_T, e_toB, e_Tru, e_truB, e_And, e_Or, e_andT, e_andF, e_orT, e_orF, e_Not, e_notK, e_AndV, e_OrV, e_andVT, e_andVF, e_orVT, e_orVF, e_NotV, e_notVK, e_If, e_ifT, e_ifF, e_Tup, e_Lst, e_LstF, e_tup0, e_lst0, e_lstF0, e_eqI, e_neI, e_ltI, e_leI, e_gtI, e_geI, e_lenL, e_lenT, e_lenR, e_lenS, e_ixL, e_ixT, at0, at1, at2, at3, e_tupL, e_tupT, e_lstT, e_Own, e_ownK, e_Sub, e_For, e_Items, e_itL, e_itT, e_itR, e_Call, e_CallF, e_aNil, e_aVal, e_aVK, e_aVK2, step0, step1, step2, step3, out0, out1, out2, out3, outX1, outX2, outO1, outO2, outO3, e_onSh, e_onOw, decide_true, decide_false, Bool.not_true, Bool.not_false, List.cons_append, List.nil_append, List.getElem?_cons_zero, List.getElem?_cons_succ, List.set_cons_zero, List.set_cons_succ, Nat.reduceLT, Nat.reduceAdd, Nat.reduceSub, Option.map_some, finF, outsE, e_frz, d_rng7, e_forK, e_tnN, e_tnC, e_tnB, e_tnR, e_whT, e_whF, e_Raise, e_Par, e_parK, e_parK2, e_augK, e_Ch, e_chK1, e_chK2, e_chT, e_chF, e_Try, e_tryO, e_tru, e_While, e_abs, e_max2, e_min2, e_gSq2, e_tup1, e_lst1, e_tup2, e_lst2, e_tup3, e_lst3, e_tup4, e_lst4, e_tup5, e_lst5, e_tup6, e_lst6, e_tup7, e_lst7, e_tup8, e_lst8, e_RaF, e_raF1, e_raF2, e_TryA, e_tryAO, e_asgnK, e_frzX, e_bindX, e_Fld, e_SFld, e_Mk, e_mkK1, e_mkK2, e_mkK3, e_mkK4, e_mkO, e_mkX, e_Met, e_metK2, e_Enum, e_enumL, e_enumT, pairs2, pairs3, pairs4, e_lst13, e_lst14, e_lst15, e_lst16, e_lst9, e_lst10, e_lst11, e_lst12, e_tup9, e_tup10, e_tup11, e_tup12, e_ListF, e_listFT, e_listFL, e_GetK, e_getK, e_IfB, e_ifBT, e_ifBF, e_notB, e_isB, o_int, o_str, o_tup, o_lst, o_non, o_bl, n_int, n_str, n_tup, n_lst, n_non, n_bl, a, b, c, n]
theorem lb8 {s : Sh} (hm : Good m) : ∃ (z : D) (m' : M), lB8 [C, some (.ow m), some (.sh (.int i)), some (.sh L), some (.sh W), some (.sh L), some (.sh G), some (.sh (tupI s.lst)), some (.sh H), o9, o10, o11, none] = .ok .nx [C, some (.ow m'), some (.sh (.int i)), some (.sh L), some (.sh W), some (.sh L), some (.sh G), some (.sh (tupI s.lst)), some (.sh H), some (.sh z), o10, o11, none] ∧ Good m' ∧ (Odd z ∨ Fit z) := by
  obtain ⟨z, m1, e1, g1, hz⟩ := spoilt_ok hm s.len
  refine ⟨z, m1, ?_, g1, hz⟩
  generalize tupI s.lst = T at *
  unfold lB8
  simp only [startE, List.map, List.length, List.replicate, e_Seq, e_Asg, e_Ret, e_RetF, e_Expr, e_exprK, e_op, e_op2, e_op1, e_un, e_is, e_B, e_bK, e_Cons, e_consK, e_consK2, e_Nil, e_var, e_C, e_bind, e_bindX, e_bindB, e_lookS, e_lookO, M.toD, e_of, e_asgK, e_gSet, e_stK, e_sqN, e_sqR, e_sqB, e_sqC, e_sNil, e_retK, e_retFK, e_add, e_vI, e_neg, e_fInt, e_fIntB, e_sIf, e_sifT, e_sifF, e_T, e_toB, e_Tru, e_truB, e_And, e_Or, e_andT, e_andF, e_orT, e_orF, e_Not, e_notK, e_AndV, e_OrV, e_andVT, e_andVF, e_orVT, e_orVF, e_NotV, e_notVK, e_If, e_ifT, e_ifF, e_Tup, e_Lst, e_LstF, e_tup0, e_lst0, e_lstF0, e_eqI, e_neI, e_ltI, e_leI, e_gtI, e_geI, e_lenL, e_lenT, e_lenR, e_lenS, e_ixL, e_ixT, at0, at1, at2, at3, e_tupL, e_tupT, e_lstT, e_Own, e_ownK, e_Sub, e_For, e_Items, e_itL, e_itT, e_itR, e_Call, e_CallF, e_aNil, e_aVal, e_aVK, e_aVK2, step0, step1, step2, step3, out0, out1, out2, out3, outX1, outX2, outO1, outO2, outO3, e_onSh, e_onOw, decide_true, decide_false, Bool.not_true, Bool.not_false, List.cons_append, List.nil_append, List.getElem?_cons_zero, List.getElem?_cons_succ, List.set_cons_zero, List.set_cons_succ, Nat.reduceLT, Nat.reduceAdd, Nat.reduceSub, Option.map_some, finF, outsE, e_frz, d_rng7, e_forK, e_tnN, e_tnC, e_tnB, e_tnR, e_whT, e_whF, e_Raise, e_Par, e_parK, e_parK2, e_augK, e_Ch, e_chK1, e_chK2, e_chT, e_chF, e_Try, e_tryO, e_tru, e_While, e_abs, e_max2, e_min2, e_gSq2, e_tup1, e_lst1, e_tup2, e_lst2, e_tup3, e_lst3, e_tup4, e_lst4, e_tup5, e_lst5, e_tup6, e_lst6, e_tup7, e_lst7, e_tup8, e_lst8, e_RaF, e_raF1, e_raF2, e_TryA, e_tryAO, e_asgnK, e_frzX, e_bindX, e_Fld, e_SFld, e_Mk, e_mkK1, e_mkK2, e_mkK3, e_mkK4, e_mkO, e_mkX, e_Met, e_metK2, e_Enum, e_enumL, e_enumT, pairs2, pairs3, pairs4, e_lst13, e_lst14, e_lst15, e_lst16, e_lst9, e_lst10, e_lst11, e_lst12, e_tup9, e_tup10, e_tup11, e_tup12, e_ListF, e_listFT, e_listFL, e_GetK, e_getK, e_IfB, e_ifBT, e_ifBF, e_notB, e_isB, o_int, o_str, o_tup, o_lst, o_non, o_bl, n_int, n_str, n_tup, n_lst, n_non, n_bl, e_aIo (m := m), stepO2 (m := m), e1]
theorem lb9 (hm : Good m) : ∃ (y : D) (m' : M), lB9 [C, some (.ow m), some (.sh (.int i)), some (.sh L), some (.sh W), some (.sh L), some (.sh G), some (.sh T), some (.sh H), some (.sh Z), o10, o11, none] = .ok .nx [C, some (.ow m'), some (.sh (.int i)), some (.sh L), some (.sh W), some (.sh L), some (.sh G), some (.sh T), some (.sh H), some (.sh Z), some (.sh y), o11, none] ∧ Good m' ∧ BadH y := by
  obtain ⟨y, m1, e1, g1, hy⟩ := badhop_ok hm
  refine ⟨y, m1, ?_, g1, hy⟩
  unfold lB9
  simp only [startE, List.map, List.length, List.replicate, e_Seq, e_Asg, e_Ret, e_RetF, e_Expr, e_exprK, e_op, e_op2, e_op1, e_un, e_is, e_B, e_bK, e_Cons, e_consK, e_consK2, e_Nil, e_var, e_C, e_bind, e_bindX, e_bindB, e_lookS, e_lookO, M.toD, e_of, e_asgK, e_gSet, e_stK, e_sqN, e_sqR, e_sqB, e_sqC, e_sNil, e_retK, e_retFK, e_add, e_vI, e_neg, e_fInt, e_fIntB, e_sIf, e_sifT, e_sifF, e_T, e_toB, e_Tru, e_truB, e_And, e_Or, e_andT, e_andF, e_orT, e_orF, e_Not, e_notK, e_AndV, e_OrV, e_andVT, e_andVF, e_orVT, e_orVF, e_NotV, e_notVK, e_If, e_ifT, e_ifF, e_Tup, e_Lst, e_LstF, e_tup0, e_lst0, e_lstF0, e_eqI, e_neI, e_ltI, e_leI, e_gtI, e_geI, e_lenL, e_lenT, e_lenR, e_lenS, e_ixL, e_ixT, at0, at1, at2, at3, e_tupL, e_tupT, e_lstT, e_Own, e_ownK, e_Sub, e_For, e_Items, e_itL, e_itT, e_itR, e_Call, e_CallF, e_aNil, e_aVal, e_aVK, e_aVK2, step0, step1, step2, step3, out0, out1, out2, out3, outX1, outX2, outO1, outO2, outO3, e_onSh, e_onOw, decide_true, decide_false, Bool.not_true, Bool.not_false, List.cons_append, List.nil_append, List.getElem?_cons_zero, List.getElem?_cons_succ, List.set_cons_zero, List.set_cons_succ, Nat.reduceLT, Nat.reduceAdd, Nat.reduceSub, Option.map_some, finF, outsE, e_frz, d_rng7, e_forK, e_tnN, e_tnC, e_tnB, e_tnR, e_whT, e_whF, e_Raise, e_Par, e_parK, e_parK2, e_augK, e_Ch, e_chK1, e_chK2, e_chT, e_chF, e_Try, e_tryO, e_tru, e_While, e_abs, e_max2, e_min2, e_gSq2, e_tup1, e_lst1, e_tup2, e_lst2, e_tup3, e_lst3, e_tup4, e_lst4, e_tup5, e_lst5, e_tup6, e_lst6, e_tup7, e_lst7, e_tup8, e_lst8, e_RaF, e_raF1, e_raF2, e_TryA, e_tryAO, e_asgnK, e_frzX, e_bindX, e_Fld, e_SFld, e_Mk, e_mkK1, e_mkK2, e_mkK3, e_mkK4, e_mkO, e_mkX, e_Met, e_metK2, e_Enum, e_enumL, e_enumT, pairs2, pairs3, pairs4, e_lst13, e_lst14, e_lst15, e_lst16, e_lst9, e_lst10, e_lst11, e_lst12, e_tup9, e_tup10, e_tup11, e_tup12, e_ListF, e_listFT, e_listFL, e_GetK, e_getK, e_IfB, e_ifBT, e_ifBF, e_notB, e_isB, o_int, o_str, o_tup, o_lst, o_non, o_bl, n_int, n_str, n_tup, n_lst, n_non, n_bl, e_aIo (m := m), stepO1 (m := m), e1]
theorem lb10 (hz : Odd Z ∨ Fit Z) : lB10 [C, some (.ow m), some (.sh (.int i)), some (.sh L), some (.sh W), some (.sh L), some (.sh G), some (.sh T), some (.sh H), some (.sh Z), some (.sh Y), o11, none] = .ok .nx [C, some (.ow m), some (.sh (.int i)), some (.sh L), some (.sh W), some (.sh L), some (.sh G), some (.sh T), some (.sh H), some (.sh Z), some (.sh Y), o11, none] := by
  have a := same_any hz
  unfold lB10
  simp only [startE, List.map, List.length, List.replicate, e_Seq, e_Asg, e_Ret, e_RetF, e_Expr, e_exprK, e_op, e_op2, e_op1, e_un, e_is, e_B, e_bK, e_Cons, e_consK, e_consK2, e_Nil, e_var, e_C, e_bind, e_bindX, e_bindB, e_lookS, e_lookO, M.toD, e_of, e_asgK, e_gSet, e_stK, e_sqN, e_sqR, e_sqB, e_sqC, e_sNil, e_retK, e_retFK, e_add, e_vI, e_neg, e_fInt, e_fIntB, e_sIf, e_sifT, e_sifF, e_T, e_toB, e_Tru, e_truB, e_And, e_Or, e_andT, e_andF, e_orT, e_orF, e_Not, e_notK, e_AndV, e_OrV, e_andVT, e_andVF, e_orVT, e_orVF, e_NotV, e_notVK, e_If, e_ifT, e_ifF, e_Tup, e_Lst, e_LstF, e_tup0, e_lst0, e_lstF0, e_eqI, e_neI, e_ltI, e_leI, e_gtI, e_geI, e_lenL, e_lenT, e_lenR, e_lenS, e_ixL, e_ixT, at0, at1, at2, at3, e_tupL, e_tupT, e_lstT, e_Own, e_ownK, e_Sub, e_For, e_Items, e_itL, e_itT, e_itR, e_Call, e_CallF, e_aNil, e_aVal, e_aVK, e_aVK2, step0, step1, step2, step3, out0, out1, out2, out3, outX1, outX2, outO1, outO2, outO3, e_onSh, e_onOw, decide_true, decide_false, Bool.not_true, Bool.not_false, List.cons_append, List.nil_append, List.getElem?_cons_zero, List.getElem?_cons_succ, List.set_cons_zero, List.set_cons_succ, Nat.reduceLT, Nat.reduceAdd, Nat.reduceSub, Option.map_some, finF, outsE, e_frz, d_rng7, e_forK, e_tnN, e_tnC, e_tnB, e_tnR, e_whT, e_whF, e_Raise, e_Par, e_parK, e_parK2, e_augK, e_Ch, e_chK1, e_chK2, e_chT, e_chF, e_Try, e_tryO, e_tru, e_While, e_abs, e_max2, e_min2, e_gSq2, e_tup1, e_lst1, e_tup2, e_lst2, e_tup3, e_lst3, e_tup4, e_lst4, e_tup5, e_lst5, e_tup6, e_lst6, e_tup7, e_lst7, e_tup8, e_lst8, e_RaF, e_raF1, e_raF2, e_TryA, e_tryAO, e_asgnK, e_frzX, e_bindX, e_Fld, e_SFld, e_Mk, e_mkK1, e_mkK2, e_mkK3, e_mkK4, e_mkO, e_mkX, e_Met, e_metK2, e_Enum, e_enumL, e_enumT, pairs2, pairs3, pairs4, e_lst13, e_lst14, e_lst15, e_lst16, e_lst9, e_lst10, e_lst11, e_lst12, e_tup9, e_tup10, e_tup11, e_tup12, e_ListF, e_listFT, e_listFL, e_GetK, e_getK, e_IfB, e_ifBT, e_ifBF, e_notB, e_isB, o_int, o_str, o_tup, o_lst, o_non, o_bl, n_int, n_str, n_tup, n_lst, n_non, n_bl, a]
theorem lb11 (hm : Good m) (hz : Odd Z ∨ Fit Z) : ∃ m', lB11 [C, some (.ow m), some (.sh (.int i)), some (.sh L), some (.sh W), some (.sh L), some (.sh G), some (.sh T), some (.sh H), some (.sh Z), some (.sh Y), o11, none] = .ok .nx [C, some (.ow m'), some (.sh (.int i)), some (.sh L), some (.sh W), some (.sh L), some (.sh G), some (.sh T), some (.sh H), some (.sh Z), some (.sh Y), o11, none] ∧ Good m' := by
  rcases hz with hz | ⟨s, B, hs, rfl⟩
  · obtain ⟨x, m1, e1, g1, _⟩ := pick_ok hm (xs := [H, Y]) (by show 0 < 2; decide) (by show 2 < 1000; decide)
    have a := hz.2
    have r := refused_odd (h := x) hz
    have n : CK.f .isN .non .non = some (.bl true) := rfl
    have q : CK.f .ne (.str "sevens") (.str "sevens") = some (.bl false) := by kernel_rfl
    refine ⟨m1, ?_, g1⟩
    unfold lB11
    simp only [startE, List.map, List.length, List.replicate, e_Seq, e_Asg, e_Ret, e_RetF, e_Expr, e_exprK, e_op, e_op2, e_op1, e_un, e_is, e_B, e_bK, e_Cons, e_consK, e_consK2, e_Nil, e_var, e_C, e_bind, e_bindX, e_bindB, e_lookS, e_lookO, M.toD, e_of, e_asgK, e_gSet, e_stK, e_sqN, e_sqR, e_sqB, e_sqC, e_sNil, e_retK, e_retFK, e_add, e_vI, e_neg, e_fInt, e_fIntB, e_sIf, e_sifT, e_sifF, e_T, e_toB, e_Tru, e_truB, e_And, e_Or, e_andT, e_andF, e_orT, e_orF, e_Not, e_notK, e_AndV, e_OrV, e_andVT, e_andVF, e_orVT, e_orVF, e_NotV, e_notVK, e_If, e_ifT, e_ifF, e_Tup, e_Lst, e_LstF, e_tup0, e_lst0, e_lstF0, e_eqI, e_neI, e_ltI, e_leI, e_gtI, e_geI, e_lenL, e_lenT, e_lenR, e_lenS, e_ixL, e_ixT, at0, at1, at2, at3, e_tupL, e_tupT, e_lstT, e_Own, e_ownK, e_Sub, e_For, e_Items, e_itL, e_itT, e_itR, e_Call, e_CallF, e_aNil, e_aVal, e_aVK, e_aVK2, step0, step1, step2, step3, out0, out1, out2, out3, outX1, outX2, outO1, outO2, outO3, e_onSh, e_onOw, decide_true, decide_false, Bool.not_true, Bool.not_false, List.cons_append, List.nil_append, List.getElem?_cons_zero, List.getElem?_cons_succ, List.set_cons_zero, List.set_cons_succ, Nat.reduceLT, Nat.reduceAdd, Nat.reduceSub, Option.map_some, finF, outsE, e_frz, d_rng7, e_forK, e_tnN, e_tnC, e_tnB, e_tnR, e_whT, e_whF, e_Raise, e_Par, e_parK, e_parK2, e_augK, e_Ch, e_chK1, e_chK2, e_chT, e_chF, e_Try, e_tryO, e_tru, e_While, e_abs, e_max2, e_min2, e_gSq2, e_tup1, e_lst1, e_tup2, e_lst2, e_tup3, e_lst3, e_tup4, e_lst4, e_tup5, e_lst5, e_tup6, e_lst6, e_tup7, e_lst7, e_tup8, e_lst8, e_RaF, e_raF1, e_raF2, e_TryA, e_tryAO, e_asgnK, e_frzX, e_bindX, e_Fld, e_SFld, e_Mk, e_mkK1, e_mkK2, e_mkK3, e_mkK4, e_mkO, e_mkX, e_Met, e_metK2, e_Enum, e_enumL, e_enumT, pairs2, pairs3, pairs4, e_lst13, e_lst14, e_lst15, e_lst16, e_lst9, e_lst10, e_lst11, e_lst12, e_tup9, e_tup10, e_tup11, e_tup12, e_ListF, e_listFT, e_listFL, e_GetK, e_getK, e_IfB, e_ifBT, e_ifBF, e_notB, e_isB, o_int, o_str, o_tup, o_lst, o_non, o_bl, n_int, n_str, n_tup, n_lst, n_non, n_bl, a, n, e_aIo (m := m), stepO2 (m := m), e1, r, q]
  · have a := shape_ok hs
    have n : CK.f .isN s.d .non = some (.bl false) := by cases s <;> rfl
    refine ⟨m, ?_, hm⟩
    generalize s.d = S at *
    generalize tupI s.lst = T at *
    unfold lB11
    simp only [startE, List.map, List.length, List.replicate, e_Seq, e_Asg, e_Ret, e_RetF, e_Expr, e_exprK, e_op, e_op2, e_op1, e_un, e_is, e_B, e_bK, e_Cons, e_consK, e_consK2, e_Nil, e_var, e_C, e_bind, e_bindX, e_bindB, e_lookS, e_lookO, M.toD, e_of, e_asgK, e_gSet, e_stK, e_sqN, e_sqR, e_sqB, e_sqC, e_sNil, e_retK, e_retFK, e_add, e_vI, e_neg, e_fInt, e_fIntB, e_sIf, e_sifT, e_sifF, e_T, e_toB, e_Tru, e_truB, e_And, e_Or, e_andT, e_andF, e_orT, e_orF, e_Not, e_notK, e_AndV, e_OrV, e_andVT, e_andVF, e_orVT, e_orVF, e_NotV, e_notVK, e_If, e_ifT, e_ifF, e_Tup, e_Lst, e_LstF, e_tup0, e_lst0, e_lstF0, e_eqI, e_neI, e_ltI, e_leI, e_gtI, e_geI, e_lenL, e_lenT, e_lenR, e_lenS, e_ixL, e_ixT, at0, at1, at2, at3, e_tupL, e_tupT, e_lstT, e_Own, e_ownK, e_Sub, e_For, e_Items, e_itL, e_itT, e_itR, e_Call, e_CallF, e_aNil, e_aVal, e_aVK, e_aVK2, step0, step1, step2, step3, out0, out1, out2, out3, outX1, outX2, outO1, outO2, outO3, e_onSh, e_onOw, decide_true, decide_false, Bool.not_true, Bool.not_false, List.cons_append, List.nil_append, List.getElem?_cons_zero, List.getElem?_cons_succ, List.set_cons_zero, List.set_cons_succ, Nat.reduceLT, Nat.reduceAdd, Nat.reduceSub, Option.map_some, finF, outsE, e_frz, d_rng7, e_forK, e_tnN, e_tnC, e_tnB, e_tnR, e_whT, e_whF, e_Raise, e_Par, e_parK, e_parK2, e_augK, e_Ch, e_chK1, e_chK2, e_chT, e_chF, e_Try, e_tryO, e_tru, e_While, e_abs, e_max2, e_min2, e_gSq2, e_tup1, e_lst1, e_tup2, e_lst2, e_tup3, e_lst3, e_tup4, e_lst4, e_tup5, e_lst5, e_tup6, e_lst6, e_tup7, e_lst7, e_tup8, e_lst8, e_RaF, e_raF1, e_raF2, e_TryA, e_tryAO, e_asgnK, e_frzX, e_bindX, e_Fld, e_SFld, e_Mk, e_mkK1, e_mkK2, e_mkK3, e_mkK4, e_mkO, e_mkX, e_Met, e_metK2, e_Enum, e_enumL, e_enumT, pairs2, pairs3, pairs4, e_lst13, e_lst14, e_lst15, e_lst16, e_lst9, e_lst10, e_lst11, e_lst12, e_tup9, e_tup10, e_tup11, e_tup12, e_ListF, e_listFT, e_listFL, e_GetK, e_getK, e_IfB, e_ifBT, e_ifBF, e_notB, e_isB, o_int, o_str, o_tup, o_lst, o_non, o_bl, n_int, n_str, n_tup, n_lst, n_non, n_bl, a, n]
theorem lb12 {s : Sh} {B : Int} (hs : s.fit B) (hy : BadH Y) : lB12 [C, some (.ow m), some (.sh (.int i)), some (.sh L), some (.sh W), some (.sh L), some (.sh G), some (.sh (tupI s.lst)), some (.sh H), some (.sh Z), some (.sh Y), o11, none] = .ok .nx [C, some (.ow m), some (.sh (.int i)), some (.sh L), some (.sh W), some (.sh L), some (.sh G), some (.sh (tupI s.lst)), some (.sh H), some (.sh Z), some (.sh Y), o11, none] := by
  have r := refused_badh hs hy
  have q : CK.f .ne (.str "hop") (.str "hop") = some (.bl false) := by kernel_rfl
  generalize tupI s.lst = T at *
  unfold lB12
  simp only [startE, List.map, List.length, List.replicate, e_Seq, e_Asg, e_Ret, e_RetF, e_Expr, e_exprK, e_op, e_op2, e_op1, e_un, e_is, e_B, e_bK, e_Cons, e_consK, e_consK2, e_Nil, e_var, e_C, e_bind, e_bindX, e_bindB, e_lookS, e_lookO, M.toD, e_of, e_asgK, e_gSet, e_stK, e_sqN, e_sqR, e_sqB, e_sqC, e_sNil, e_retK, e_retFK, e_add, e_vI, e_neg, e_fInt, e_fIntB, e_sIf, e_sifT, e_sifF, e_T, e_toB, e_Tru, e_truB, e_And, e_Or, e_andT, e_andF, e_orT, e_orF, e_Not, e_notK, e_AndV, e_OrV, e_andVT, e_andVF, e_orVT, e_orVF, e_NotV, e_notVK, e_If, e_ifT, e_ifF, e_Tup, e_Lst, e_LstF, e_tup0, e_lst0, e_lstF0, e_eqI, e_neI, e_ltI, e_leI, e_gtI, e_geI, e_lenL, e_lenT, e_lenR, e_lenS, e_ixL, e_ixT, at0, at1, at2, at3, e_tupL, e_tupT, e_lstT, e_Own, e_ownK, e_Sub, e_For, e_Items, e_itL, e_itT, e_itR, e_Call, e_CallF, e_aNil, e_aVal, e_aVK, e_aVK2, step0, step1, step2, step3, out0, out1, out2, out3, outX1, outX2, outO1, outO2, outO3, e_onSh, e_onOw, decide_true, decide_false, Bool.not_true, Bool.not_false, List.cons_append, List.nil_append, List.getElem?_cons_zero, List.getElem?_cons_succ, List.set_cons_zero, List.set_cons_succ, Nat.reduceLT, Nat.reduceAdd, Nat.reduceSub, Option.map_some, finF, outsE, e_frz, d_rng7, e_forK, e_tnN, e_tnC, e_tnB, e_tnR, e_whT, e_whF, e_Raise, e_Par, e_parK, e_parK2, e_augK, e_Ch, e_chK1, e_chK2, e_chT, e_chF, e_Try, e_tryO, e_tru, e_While, e_abs, e_max2, e_min2, e_gSq2, e_tup1, e_lst1, e_tup2, e_lst2, e_tup3, e_lst3, e_tup4, e_lst4, e_tup5, e_lst5, e_tup6, e_lst6, e_tup7, e_lst7, e_tup8, e_lst8, e_RaF, e_raF1, e_raF2, e_TryA, e_tryAO, e_asgnK, e_frzX, e_bindX, e_Fld, e_SFld, e_Mk, e_mkK1, e_mkK2, e_mkK3, e_mkK4, e_mkO, e_mkX, e_Met, e_metK2, e_Enum, e_enumL, e_enumT, pairs2, pairs3, pairs4, e_lst13, e_lst14, e_lst15, e_lst16, e_lst9, e_lst10, e_lst11, e_lst12, e_tup9, e_tup10, e_tup11, e_tup12, e_ListF, e_listFT, e_listFL, e_GetK, e_getK, e_IfB, e_ifBT, e_ifBF, e_notB, e_isB, o_int, o_str, o_tup, o_lst, o_non, o_bl, n_int, n_str, n_tup, n_lst, n_non, n_bl, r, q]
theorem lb13 (hm : Good m) {n : Nat} (hn : n ≤ 8) (ll : fLen [L] = some (.int (n : Nat))) : ∃ (k : Int) (m' : M), lB13 [C, some (.ow m), some (.sh (.int i)), some (.sh L), some (.sh W), some (.sh L), some (.sh G), some (.sh T), some (.sh H), some (.sh Z), some (.sh Y), o11, none] = .ok .nx [C, some (.ow m'), some (.sh (.int i)), some (.sh L), some (.sh W), some (.sh L), some (.sh G), some (.sh T), some (.sh H), some (.sh Z), some (.sh Y), some (.sh (.int k)), none] ∧ Good m' ∧ 0 ≤ k ∧ k ≤ n := by
  have hb : ((n : Int) + 1).natAbs.log2 < 9000 := by
    have h1 : ((n : Int) + 1).natAbs = n + 1 := by omega
    rw [h1]
    have h2 : (n + 1).log2 ≤ n + 1 := Nat.log2_le_self _
    omega
  obtain ⟨k, m1, e1, g1, k0, k1⟩ := take_ok hm (n := (n : Int) + 1) (by omega) hb
  refine ⟨k, m1, ?_, g1, k0, by omega⟩
  unfold lB13
  simp only [startE, List.map, List.length, List.replicate, e_Seq, e_Asg, e_Ret, e_RetF, e_Expr, e_exprK, e_op, e_op2, e_op1, e_un, e_is, e_B, e_bK, e_Cons, e_consK, e_consK2, e_Nil, e_var, e_C, e_bind, e_bindX, e_bindB, e_lookS, e_lookO, M.toD, e_of, e_asgK, e_gSet, e_stK, e_sqN, e_sqR, e_sqB, e_sqC, e_sNil, e_retK, e_retFK, e_add, e_vI, e_neg, e_fInt, e_fIntB, e_sIf, e_sifT, e_sifF, e_T, e_toB, e_Tru, e_truB, e_And, e_Or, e_andT, e_andF, e_orT, e_orF, e_Not, e_notK, e_AndV, e_OrV, e_andVT, e_andVF, e_orVT, e_orVF, e_NotV, e_notVK, e_If, e_ifT, e_ifF, e_Tup, e_Lst, e_LstF, e_tup0, e_lst0, e_lstF0, e_eqI, e_neI, e_ltI, e_leI, e_gtI, e_geI, e_lenL, e_lenT, e_lenR, e_lenS, e_ixL, e_ixT, at0, at1, at2, at3, e_tupL, e_tupT, e_lstT, e_Own, e_ownK, e_Sub, e_For, e_Items, e_itL, e_itT, e_itR, e_Call, e_CallF, e_aNil, e_aVal, e_aVK, e_aVK2, step0, step1, step2, step3, out0, out1, out2, out3, outX1, outX2, outO1, outO2, outO3, e_onSh, e_onOw, decide_true, decide_false, Bool.not_true, Bool.not_false, List.cons_append, List.nil_append, List.getElem?_cons_zero, List.getElem?_cons_succ, List.set_cons_zero, List.set_cons_succ, Nat.reduceLT, Nat.reduceAdd, Nat.reduceSub, Option.map_some, finF, outsE, e_frz, d_rng7, e_forK, e_tnN, e_tnC, e_tnB, e_tnR, e_whT, e_whF, e_Raise, e_Par, e_parK, e_parK2, e_augK, e_Ch, e_chK1, e_chK2, e_chT, e_chF, e_Try, e_tryO, e_tru, e_While, e_abs, e_max2, e_min2, e_gSq2, e_tup1, e_lst1, e_tup2, e_lst2, e_tup3, e_lst3, e_tup4, e_lst4, e_tup5, e_lst5, e_tup6, e_lst6, e_tup7, e_lst7, e_tup8, e_lst8, e_RaF, e_raF1, e_raF2, e_TryA, e_tryAO, e_asgnK, e_frzX, e_bindX, e_Fld, e_SFld, e_Mk, e_mkK1, e_mkK2, e_mkK3, e_mkK4, e_mkO, e_mkX, e_Met, e_metK2, e_Enum, e_enumL, e_enumT, pairs2, pairs3, pairs4, e_lst13, e_lst14, e_lst15, e_lst16, e_lst9, e_lst10, e_lst11, e_lst12, e_tup9, e_tup10, e_tup11, e_tup12, e_ListF, e_listFT, e_listFL, e_GetK, e_getK, e_IfB, e_ifBT, e_ifBF, e_notB, e_isB, o_int, o_str, o_tup, o_lst, o_non, o_bl, n_int, n_str, n_tup, n_lst, n_non, n_bl, ll, e_aIo (m := m), stepO2 (m := m), e1, -e_lenL]
theorem lb14 {hs : List Hop} (hh : ∀ h ∈ hs, h.fit) (hn : hs.length ≤ 8) (hy : BadH Y) (k0 : 0 ≤ k) (k1 : k ≤ hs.length) : lB14 [C, some (.ow m), some (.sh (.int i)), some (.sh (.lst (hs.map Hop.d))), some (.sh W), some (.sh (.lst (hs.map Hop.d))), some (.sh G), some (.sh T), some (.sh H), some (.sh Z), some (.sh Y), some (.sh (.int k)), none] = .ok .nx [C, some (.ow m), some (.sh (.int i)), some (.sh (.lst (hs.map Hop.d))), some (.sh W), some (.sh (.lst (hs.map Hop.d))), some (.sh G), some (.sh T), some (.sh H), some (.sh Z), some (.sh Y), some (.sh (.int k)), none] := by
  have f1 := sl_take (ds := hs.map Hop.d) k0 (by rw [List.length_map]; exact k1)
  have f3 := sl_drop (ds := hs.map Hop.d) k0 (by rw [List.length_map]; exact k1)
  have tl : ((hs.map Hop.d).take k.toNat).length ≤ 8 := by rw [List.length_take, List.length_map]; omega
  have dl : ((hs.map Hop.d).drop k.toNat).length ≤ 8 := by rw [List.length_drop, List.length_map]; omega
  have f2 : vAdd (.lst ((hs.map Hop.d).take k.toNat)) (.lst [Y]) = some (.lst ((hs.map Hop.d).take k.toNat ++ [Y])) := e_addL _ _ (by rw [sizeLine_eq]; show _ + 1 ≤ _; omega)
  have f4 : vAdd (.lst ((hs.map Hop.d).take k.toNat ++ [Y])) (.lst ((hs.map Hop.d).drop k.toNat)) = some (.lst ((hs.map Hop.d).take k.toNat ++ [Y] ++ (hs.map Hop.d).drop k.toNat)) := e_addL _ _ (by rw [List.length_append, sizeLine_eq]; show _ + 1 + _ ≤ _; omega)
  have f5 : vAdd (.lst ((hs.map Hop.d).take k.toNat ++ [Y] ++ (hs.map Hop.d).drop k.toNat)) (.lst [Y]) = some (.lst ((hs.map Hop.d).take k.toNat ++ [Y] ++ (hs.map Hop.d).drop k.toNat ++ [Y])) := e_addL _ _ (by rw [List.length_append, List.length_append, sizeLine_eq]; show _ + 1 + _ + 1 ≤ _; omega)
  have ht : (hs.take k.toNat).length = k.toNat := by rw [List.length_take]; omega
  have lb := led_by_bad (hs := hs.take k.toNat) (fun h hm => hh h (List.mem_of_mem_take hm)) hy ((hs.map Hop.d).drop k.toNat ++ [Y]) (G := .lst ((hs.map Hop.d).take k.toNat ++ [Y] ++ (hs.map Hop.d).drop k.toNat ++ [Y])) (by
    have e : (hs.map Hop.d).take k.toNat ++ [Y] ++ (hs.map Hop.d).drop k.toNat ++ [Y] = (hs.take k.toNat).map Hop.d ++ Y :: ((hs.map Hop.d).drop k.toNat ++ [Y]) := by rw [← List.map_take]; simp
    rw [e]
    exact seq_l _)
  rw [ht, show ((k.toNat : Nat) : Int) = k by omega] at lb
  have r := led_x lb
  have n := neI k k
  rw [show (k != k) = false by simp] at n
  generalize D.lst ((hs.map Hop.d).take k.toNat ++ [Y] ++ (hs.map Hop.d).drop k.toNat ++ [Y]) = R5 at *
  generalize D.lst ((hs.map Hop.d).take k.toNat ++ [Y] ++ (hs.map Hop.d).drop k.toNat) = R4 at *
  generalize D.lst ((hs.map Hop.d).take k.toNat ++ [Y]) = R2 at *
  generalize D.lst ((hs.map Hop.d).take k.toNat) = R1 at *
  generalize D.lst ((hs.map Hop.d).drop k.toNat) = R3 at *
  generalize D.lst (hs.map Hop.d) = L at *
  unfold lB14
  simp only [startE, List.map, List.length, List.replicate, e_Seq, e_Asg, e_Ret, e_RetF, e_Expr, e_exprK, e_op, e_op2, e_op1, e_un, e_is, e_B, e_bK, e_Cons, e_consK, e_consK2, e_Nil, e_var, e_C, e_bind, e_bindX, e_bindB, e_lookS, e_lookO, M.toD, e_of, e_asgK, e_gSet, e_stK, e_sqN, e_sqR, e_sqB, e_sqC, e_sNil, e_retK, e_retFK, e_add, e_vI, e_neg, e_fInt, e_fIntB, e_sIf, e_sifT, e_sifF, e_T, e_toB, e_Tru, e_truB, e_And, e_Or, e_andT, e_andF, e_orT, e_orF, e_Not, e_notK, e_AndV, e_OrV, e_andVT, e_andVF, e_orVT, e_orVF, e_NotV, e_notVK, e_If, e_ifT, e_ifF, e_Tup, e_Lst, e_LstF, e_tup0, e_lst0, e_lstF0, e_eqI, e_neI, e_ltI, e_leI, e_gtI, e_geI, e_lenL, e_lenT, e_lenR, e_lenS, e_ixL, e_ixT, at0, at1, at2, at3, e_tupL, e_tupT, e_lstT, e_Own, e_ownK, e_Sub, e_For, e_Items, e_itL, e_itT, e_itR, e_Call, e_CallF, e_aNil, e_aVal, e_aVK, e_aVK2, step0, step1, step2, step3, out0, out1, out2, out3, outX1, outX2, outO1, outO2, outO3, e_onSh, e_onOw, decide_true, decide_false, Bool.not_true, Bool.not_false, List.cons_append, List.nil_append, List.getElem?_cons_zero, List.getElem?_cons_succ, List.set_cons_zero, List.set_cons_succ, Nat.reduceLT, Nat.reduceAdd, Nat.reduceSub, Option.map_some, finF, outsE, e_frz, d_rng7, e_forK, e_tnN, e_tnC, e_tnB, e_tnR, e_whT, e_whF, e_Raise, e_Par, e_parK, e_parK2, e_augK, e_Ch, e_chK1, e_chK2, e_chT, e_chF, e_Try, e_tryO, e_tru, e_While, e_abs, e_max2, e_min2, e_gSq2, e_tup1, e_lst1, e_tup2, e_lst2, e_tup3, e_lst3, e_tup4, e_lst4, e_tup5, e_lst5, e_tup6, e_lst6, e_tup7, e_lst7, e_tup8, e_lst8, e_RaF, e_raF1, e_raF2, e_TryA, e_tryAO, e_asgnK, e_frzX, e_bindX, e_Fld, e_SFld, e_Mk, e_mkK1, e_mkK2, e_mkK3, e_mkK4, e_mkO, e_mkX, e_Met, e_metK2, e_Enum, e_enumL, e_enumT, pairs2, pairs3, pairs4, e_lst13, e_lst14, e_lst15, e_lst16, e_lst9, e_lst10, e_lst11, e_lst12, e_tup9, e_tup10, e_tup11, e_tup12, e_ListF, e_listFT, e_listFL, e_GetK, e_getK, e_IfB, e_ifBT, e_ifBF, e_notB, e_isB, o_int, o_str, o_tup, o_lst, o_non, o_bl, n_int, n_str, n_tup, n_lst, n_non, n_bl, e_Sl, e_sl1, e_sl2, e_sl3, e_NoPart, e_Part, e_prt, step4, out4, f1, f2, f3, f4, f5, r, n, -e_neI]
theorem lB_ok (hm : Good m) : ∃ (m' : M) (p3 p4 p5 p6 p7 p8 p9 p10 p11 : Option DV), lB [C, some (.ow m), some (.sh (.int i)), o3, o4, o5, o6, o7, o8, o9, o10, o11, none] = .ok .nx [C, some (.ow m'), some (.sh (.int i)), p3, p4, p5, p6, p7, p8, p9, p10, p11, none] ∧ Good m' := by
  obtain ⟨hs, m1, s0, g1, hh, hn⟩ := lb0 (C := C) (i := i) (o3 := o3) (o4 := o4) (o5 := o5) (o6 := o6) (o7 := o7) (o8 := o8) (o9 := o9) (o10 := o10) (o11 := o11) hm
  have s1 := lb1 (C := C) (i := i) (o4 := o4) (o5 := o5) (o6 := o6) (o7 := o7) (o8 := o8) (o9 := o9) (o10 := o10) (o11 := o11) (walked_ok (m := m1) hh)
  have s2 := lb2 (C := C) (m := m1) (i := i) (W := tupI (endS (.ev 0) hs).lst) (o5 := o5) (o6 := o6) (o7 := o7) (o8 := o8) (o9 := o9) (o10 := o10) (o11 := o11) (L := .lst (hs.map Hop.d)) rfl
  obtain ⟨G, s3, hG, fG⟩ := lb3 (C := C) (m := m1) (i := i) (W := tupI (endS (.ev 0) hs).lst) (o6 := o6) (o7 := o7) (o8 := o8) (o9 := o9) (o10 := o10) (o11 := o11) (hs := hs)
  have s4 := lb4 (C := C) (m := m1) (i := i) (o7 := o7) (o8 := o8) (o9 := o9) (o10 := o10) (o11 := o11) (led_by_ok hh hG) fG (kept_same hs)
  obtain ⟨s, B, m2, s5, g2, hs5⟩ := lb5 (C := C) (i := i) (L := .lst (hs.map Hop.d)) (W := tupI (endS (.ev 0) hs).lst) (G := G) (o7 := o7) (o8 := o8) (o9 := o9) (o10 := o10) (o11 := o11) g1
  obtain ⟨h, m3, s6, g3, hf⟩ := lb6 (C := C) (i := i) (L := .lst (hs.map Hop.d)) (W := tupI (endS (.ev 0) hs).lst) (G := G) (T := tupI s.lst) (o8 := o8) (o9 := o9) (o10 := o10) (o11 := o11) g2
  have s7 := lb7 (C := C) (m := m3) (i := i) (L := .lst (hs.map Hop.d)) (W := tupI (endS (.ev 0) hs).lst) (G := G) (o9 := o9) (o10 := o10) (o11 := o11) hs5 hf
  obtain ⟨z, m4, s8, g4, hz⟩ := lb8 (C := C) (i := i) (L := .lst (hs.map Hop.d)) (W := tupI (endS (.ev 0) hs).lst) (G := G) (H := h.d) (o9 := o9) (o10 := o10) (o11 := o11) (s := s) g3
  obtain ⟨y, m5, s9, g5, hy⟩ := lb9 (C := C) (i := i) (L := .lst (hs.map Hop.d)) (W := tupI (endS (.ev 0) hs).lst) (G := G) (T := tupI s.lst) (H := h.d) (Z := z) (o10 := o10) (o11 := o11) g4
  have s10 := lb10 (C := C) (m := m5) (i := i) (L := .lst (hs.map Hop.d)) (W := tupI (endS (.ev 0) hs).lst) (G := G) (T := tupI s.lst) (H := h.d) (Y := y) (o11 := o11) hz
  obtain ⟨m6, s11, g6⟩ := lb11 (C := C) (i := i) (L := .lst (hs.map Hop.d)) (W := tupI (endS (.ev 0) hs).lst) (G := G) (T := tupI s.lst) (H := h.d) (Y := y) (o11 := o11) g5 hz
  have s12 := lb12 (C := C) (m := m6) (i := i) (L := .lst (hs.map Hop.d)) (W := tupI (endS (.ev 0) hs).lst) (G := G) (H := h.d) (Z := z) (o11 := o11) hs5 hy
  obtain ⟨k, m7, s13, g7, k0, k1⟩ := lb13 (C := C) (i := i) (L := .lst (hs.map Hop.d)) (W := tupI (endS (.ev 0) hs).lst) (G := G) (T := tupI s.lst) (H := h.d) (Z := z) (Y := y) (o11 := o11) g6 (n := hs.length) hn (by show some (D.int ((hs.map Hop.d).length : Nat)) = _; rw [List.length_map])
  have s14 := lb14 (C := C) (m := m7) (i := i) (W := tupI (endS (.ev 0) hs).lst) (G := G) (T := tupI s.lst) (H := h.d) (Z := z) hh hn hy k0 k1
  refine ⟨m7, some (.sh (.lst (hs.map Hop.d))), some (.sh (tupI (endS (.ev 0) hs).lst)), some (.sh (.lst (hs.map Hop.d))), some (.sh G), some (.sh (tupI s.lst)), some (.sh h.d), some (.sh z), some (.sh y), some (.sh (.int k)), ?_, g7⟩
  unfold lB
  rw [seq_ok s0, seq_ok s1, seq_ok s2, seq_ok s3, seq_ok s4, seq_ok s5, seq_ok s6, seq_ok s7, seq_ok s8, seq_ok s9, seq_ok s10, seq_ok s11, seq_ok s12, seq_ok s13]
  exact s14
end
theorem lE_ok {C : Option DV} {m : M} (hm : Good m) (p3 p4 p5 p6 p7 p8 p9 p10 p11 p2 : Option DV) : ∃ m', lE [C, some (.ow m), p2, p3, p4, p5, p6, p7, p8, p9, p10, p11, none] = .ok (.ret (.sh (.bl true))) [C, some (.ow m'), p2, p3, p4, p5, p6, p7, p8, p9, p10, p11, none] := by
  obtain ⟨x, m1, e1, g1, hx⟩ := pick_ok hm (xs := [.non, .int 5, .str "plus"]) (by decide) (by decide)
  have r : m__law_led_refused [.sh x] = .ok (.sh (.int 0)) [] := by
    simp only [List.mem_cons, List.not_mem_nil, or_false] at hx
    rcases hx with rfl | rfl | rfl
    · kernel_rfl
    · kernel_rfl
    · kernel_rfl
  have q : CK.f .eq (.int 0) (.int 0) = some (.bl true) := rfl
  refine ⟨m1, ?_⟩
  unfold lE
  simp only [startE, List.map, List.length, List.replicate, e_Seq, e_Asg, e_Ret, e_RetF, e_Expr, e_exprK, e_op, e_op2, e_op1, e_un, e_is, e_B, e_bK, e_Cons, e_consK, e_consK2, e_Nil, e_var, e_C, e_bind, e_bindX, e_bindB, e_lookS, e_lookO, M.toD, e_of, e_asgK, e_gSet, e_stK, e_sqN, e_sqR, e_sqB, e_sqC, e_sNil, e_retK, e_retFK, e_add, e_vI, e_neg, e_fInt, e_fIntB, e_sIf, e_sifT, e_sifF, e_T, e_toB, e_Tru, e_truB, e_And, e_Or, e_andT, e_andF, e_orT, e_orF, e_Not, e_notK, e_AndV, e_OrV, e_andVT, e_andVF, e_orVT, e_orVF, e_NotV, e_notVK, e_If, e_ifT, e_ifF, e_Tup, e_Lst, e_LstF, e_tup0, e_lst0, e_lstF0, e_eqI, e_neI, e_ltI, e_leI, e_gtI, e_geI, e_lenL, e_lenT, e_lenR, e_lenS, e_ixL, e_ixT, at0, at1, at2, at3, e_tupL, e_tupT, e_lstT, e_Own, e_ownK, e_Sub, e_For, e_Items, e_itL, e_itT, e_itR, e_Call, e_CallF, e_aNil, e_aVal, e_aVK, e_aVK2, step0, step1, step2, step3, out0, out1, out2, out3, outX1, outX2, outO1, outO2, outO3, e_onSh, e_onOw, decide_true, decide_false, Bool.not_true, Bool.not_false, List.cons_append, List.nil_append, List.getElem?_cons_zero, List.getElem?_cons_succ, List.set_cons_zero, List.set_cons_succ, Nat.reduceLT, Nat.reduceAdd, Nat.reduceSub, Option.map_some, finF, outsE, e_frz, d_rng7, e_forK, e_tnN, e_tnC, e_tnB, e_tnR, e_whT, e_whF, e_Raise, e_Par, e_parK, e_parK2, e_augK, e_Ch, e_chK1, e_chK2, e_chT, e_chF, e_Try, e_tryO, e_tru, e_While, e_abs, e_max2, e_min2, e_gSq2, e_tup1, e_lst1, e_tup2, e_lst2, e_tup3, e_lst3, e_tup4, e_lst4, e_tup5, e_lst5, e_tup6, e_lst6, e_tup7, e_lst7, e_tup8, e_lst8, e_RaF, e_raF1, e_raF2, e_TryA, e_tryAO, e_asgnK, e_frzX, e_bindX, e_Fld, e_SFld, e_Mk, e_mkK1, e_mkK2, e_mkK3, e_mkK4, e_mkO, e_mkX, e_Met, e_metK2, e_Enum, e_enumL, e_enumT, pairs2, pairs3, pairs4, e_lst13, e_lst14, e_lst15, e_lst16, e_lst9, e_lst10, e_lst11, e_lst12, e_tup9, e_tup10, e_tup11, e_tup12, e_ListF, e_listFT, e_listFL, e_GetK, e_getK, e_IfB, e_ifBT, e_ifBF, e_notB, e_isB, o_int, o_str, o_tup, o_lst, o_non, o_bl, n_int, n_str, n_tup, n_lst, n_non, n_bl, e_aIo (m := m), stepO2 (m := m), e1, r, q, -e_eqI]
theorem law_true (xs : List Int) (hn : xs.length ≤ 63) : m_law [.sh (.scr (xs.map D.int))] = .ok (.sh (.bl true)) [] := by
  obtain ⟨m, e, hm⟩ := hand_ok xs hn
  generalize hS : D.scr (xs.map D.int) = C at *
  have s0 : lS0 [some (.sh C), none, none, none, none, none, none, none, none, none, none, none, none] = .ok .nx [some (.sh C), some (.ow m), none, none, none, none, none, none, none, none, none, none, none] := by
    unfold lS0
    simp only [startE, List.map, List.length, List.replicate, e_Seq, e_Asg, e_Ret, e_RetF, e_Expr, e_exprK, e_op, e_op2, e_op1, e_un, e_is, e_B, e_bK, e_Cons, e_consK, e_consK2, e_Nil, e_var, e_C, e_bind, e_bindX, e_bindB, e_lookS, e_lookO, M.toD, e_of, e_asgK, e_gSet, e_stK, e_sqN, e_sqR, e_sqB, e_sqC, e_sNil, e_retK, e_retFK, e_add, e_vI, e_neg, e_fInt, e_fIntB, e_sIf, e_sifT, e_sifF, e_T, e_toB, e_Tru, e_truB, e_And, e_Or, e_andT, e_andF, e_orT, e_orF, e_Not, e_notK, e_AndV, e_OrV, e_andVT, e_andVF, e_orVT, e_orVF, e_NotV, e_notVK, e_If, e_ifT, e_ifF, e_Tup, e_Lst, e_LstF, e_tup0, e_lst0, e_lstF0, e_eqI, e_neI, e_ltI, e_leI, e_gtI, e_geI, e_lenL, e_lenT, e_lenR, e_lenS, e_ixL, e_ixT, at0, at1, at2, at3, e_tupL, e_tupT, e_lstT, e_Own, e_ownK, e_Sub, e_For, e_Items, e_itL, e_itT, e_itR, e_Call, e_CallF, e_aNil, e_aVal, e_aVK, e_aVK2, step0, step1, step2, step3, out0, out1, out2, out3, outX1, outX2, outO1, outO2, outO3, e_onSh, e_onOw, decide_true, decide_false, Bool.not_true, Bool.not_false, List.cons_append, List.nil_append, List.getElem?_cons_zero, List.getElem?_cons_succ, List.set_cons_zero, List.set_cons_succ, Nat.reduceLT, Nat.reduceAdd, Nat.reduceSub, Option.map_some, finF, outsE, e_frz, d_rng7, e_forK, e_tnN, e_tnC, e_tnB, e_tnR, e_whT, e_whF, e_Raise, e_Par, e_parK, e_parK2, e_augK, e_Ch, e_chK1, e_chK2, e_chT, e_chF, e_Try, e_tryO, e_tru, e_While, e_abs, e_max2, e_min2, e_gSq2, e_tup1, e_lst1, e_tup2, e_lst2, e_tup3, e_lst3, e_tup4, e_lst4, e_tup5, e_lst5, e_tup6, e_lst6, e_tup7, e_lst7, e_tup8, e_lst8, e]
  have kr := fun ρ => e_rng1K 3 ρ (by decide)
  obtain ⟨ρ', el, m5, p2, p3, p4, p5, p6, p7, p8, p9, p10, p11, g5, hρ⟩ := for_inv (g := gSet 2) (body := lB) (fun ρ => ∃ (m : M) (p2 p3 p4 p5 p6 p7 p8 p9 p10 p11 : Option DV), Good m ∧ ρ = [some (.sh C), some (.ow m), p2, p3, p4, p5, p6, p7, p8, p9, p10, p11, none]) (rng 0 3)
    [some (.sh C), some (.ow m), none, none, none, none, none, none, none, none, none, none, none] (fun d hd ρ h => by
      obtain ⟨m, p2, p3, p4, p5, p6, p7, p8, p9, p10, p11, g, rfl⟩ := h
      obtain ⟨i, rfl, _⟩ := rng_in hd
      obtain ⟨m', q3, q4, q5, q6, q7, q8, q9, q10, q11, e, g'⟩ := lB_ok (C := some (.sh C)) (i := i) (o3 := p3) (o4 := p4) (o5 := p5) (o6 := p6) (o7 := p7) (o8 := p8) (o9 := p9) (o10 := p10) (o11 := p11) g
      exact ⟨_, _, rfl, .inl e, _, _, _, _, _, _, _, _, _, _, _, g', rfl⟩) ⟨_, _, _, _, _, _, _, _, _, _, _, hm, rfl⟩
  subst hρ
  have s1 : sFor (dRng1 (dC (.int 3))) (gSet 2) lB [some (.sh C), some (.ow m), none, none, none, none, none, none, none, none, none, none, none] = .ok .nx [some (.sh C), some (.ow m5), p2, p3, p4, p5, p6, p7, p8, p9, p10, p11, none] := by
    generalize rng 0 3 = ds at *
    rw [e_For, e_Rng1, e_C, e_bind, kr, e_bind, e_forK]
    exact el
  obtain ⟨m6, s2⟩ := lE_ok (C := some (.sh C)) g5 p3 p4 p5 p6 p7 p8 p9 p10 p11 p2
  refine (e_run [] 13 _ _ rfl).trans ?_
  rw [law_cut, show startE 13 [.sh C] = [some (.sh C), none, none, none, none, none, none, none, none, none, none, none, none] from rfl, seq_ok s0, seq_ok s1, s2]
  rfl
end L20
set_option Elab.async false
set_option linter.all false
set_option maxRecDepth 100000
set_option maxHeartbeats 4000000
namespace L20
open PySem PySem.Spec L2 Rf
def top (i : Nat) : Stmt := PySem.Challenge.pw_whosetomorrow_k20_whole_sevens_are_even.main.body.getD i (.Pass ⟨0, 0, 0, 0⟩)
structure Txt (K : PySem.W.Frag) (mg : Str → Option Value) (C : Nat → Addr) : Prop where
  b_all : mg "all" = none
  b_bool : mg "bool" = none
  b_enumerate : mg "enumerate" = none
  b_int : mg "int" = none
  b_isinstance : mg "isinstance" = none
  b_len : mg "len" = none
  b_list : mg "list" = none
  b_max : mg "max" = none
  b_min : mg "min" = none
  b_range : mg "range" = none
  b_reversed : mg "reversed" = none
  b_tuple : mg "tuple" = none
  x_TalkError : ExN K mg (C 0) "TalkError"
  x_BadSevens : ExF K mg (C 1) "BadSevens"
  x_BadHop : ExN K mg (C 2) "BadHop"
  x_BadTerm : ExN K mg (C 3) "BadTerm"
  xo_BadHop : OexC K (C 2)
  xh_BadHop_index : PySem.W.findIn K (.ref (C 2)) "index" = some none
  d_BadHop : DmS PySem.Challenge.pw_whosetomorrow_k20_whole_sevens_are_even K mg (C 2) "BadHop.__init__" (inClass (top 3) 0) ["self", "index"] "self"
  xf_index : XfOk K C "index" (fun c => c == 2)
  xi_BadTerm : XiAll K C (.ref (C 3)) xi_BadTerm
  xn_BadTerm : mg "BadTerm" = some (.ref (C 3))
  xi_TalkError : XiAll K C (.ref (C 0)) xi_TalkError
  xn_TalkError : mg "TalkError" = some (.ref (C 0))
  sb : ∀ i j b, subT i j = some b → PySem.W.exmOne K (.ref (C i)) (.ref (C j)) = some b
  g_MOST_PLUS : GC K mg C "MOST_PLUS" g_MOST_PLUS
  d__law_hand : Df K mg "_law_hand" (top 19) ["_law_script"]
  d_even_sevens : Df K mg "even_sevens" (top 9) ["k"]
  d__law_even : Df K mg "_law_even" (top 28) ["_law_k"]
  d__law_coming : Df K mg "_law_coming" (top 23) ["_law_day", "_law_weekday"]
  d__law_last : Df K mg "_law_last" (top 24) ["_law_day", "_law_weekday"]
  d__law_counted : Df K mg "_law_counted" (top 25) ["_law_day", "_law_word"]
  d__law_hopped : Df K mg "_law_hopped" (top 32) ["_law_offsets", "_law_hop_here"]
  d_days_ahead : Df K mg "days_ahead" (top 11) ["w", "day"]
  d_saw_sevens : Df K mg "saw_sevens" (top 10) ["w", "m"]
  d_is_whole : Df K mg "is_whole" (top 6) ["thing"]
  d_shape_of_sevens : Df K mg "shape_of_sevens" (top 13) ["sevens"]
  d_days_back : Df K mg "days_back" (top 12) ["w", "day"]
  d_lead_by_one : Df K mg "lead_by_one" (top 16) ["sevens", "hop"]
  d_is_hop : Df K mg "is_hop" (top 14) ["thing"]
  d_lead_sevens : Df K mg "lead_sevens" (top 15) ["sevens", "hop"]
  d__law_whole : Df K mg "_law_whole" (top 26) ["_law_thing"]
  d__law_saw : Df K mg "_law_saw" (top 29) ["_law_weekday", "_law_m"]
  d__law_shape : Df K mg "_law_shape" (top 30) ["_law_offsets"]
  d__law_asked : Df K mg "_law_asked" (top 36) ["_law_offsets"]
  d__law_made_by : Df K mg "_law_made_by" (top 35) ["_law_shape_here"]
  d__law_same_shape : Df K mg "_law_same_shape" (top 37) ["_law_offsets"]
  d__law_walked : Df K mg "_law_walked" (top 42) ["_law_hand_here", "_law_hops"]
  d__law_mixed : Df K mg "_law_mixed" (top 20) ["_law_number", "_law_turn"]
  d__law_take : Df K mg "_law_take" (top 21) ["_law_hand_here", "_law_many"]
  d__law_far : Df K mg "_law_far" (top 33) ["_law_hand_here", "_law_most"]
  d__law_sevens : Df K mg "_law_sevens" (top 34) ["_law_hand_here", "_law_most"]
  d__law_step : Df K mg "_law_step" (top 22) ["_law_hand_here"]
  d__law_hop : Df K mg "_law_hop" (top 31) ["_law_hand_here"]
  d__law_pick : Df K mg "_law_pick" (top 27) ["_law_hand_here", "_law_things"]
  d__law_spoilt : Df K mg "_law_spoilt" (top 38) ["_law_hand_here", "_law_offsets"]
  d__law_bad_hop : Df K mg "_law_bad_hop" (top 39) ["_law_hand_here"]
  d_led_by : Df K mg "led_by" (top 17) ["hops"]
  d__law_led_refused : Df K mg "_law_led_refused" (top 40) ["_law_hops"]
  d__law_lead_refused : Df K mg "_law_lead_refused" (top 41) ["_law_offsets", "_law_hop_here"]
  d_law : Df K mg "law" (top 43) ["_law_script"]
section
variable {P : Program} {w : World} {K : PySem.W.Frag} {mg : Str → Option Value} {base : Heap} {C : Nat → Addr}
abbrev s__law_hand : Stmt := top 19
def N__law_hand : List Str := ["_law_script", "_law_total", "_law_cells", "_law_cell"]
theorem sc__law_hand : FnScope N__law_hand ["_law_script"] (defScope s__law_hand) := ⟨rfl, rfl, rfl, by decide +kernel, rfl, by decide +kernel, by decide +kernel⟩
theorem k__law_hand (T : Txt K mg C) : Fk P w K mg base C "_law_hand" 1 1 m__law_hand := fk_of T.d__law_hand sc__law_hand [] (by decide) fun f cdv A outer s H E ad hr =>
  dss_cons (ds_set (i := 1) sc__law_hand.nd (de_add (de_B cr_lenS vb_len rfl T.b_len (by decide +kernel) (da_cons (de_var 0) (da_nil))) (de_int)))
  (dss_cons (ds_own (i := 2) sc__law_hand.nd (df_list (da_nil)))
  (dss_cons (ds_for (passes_of rfl) rfl (di_seq (de_var 0)) (dg_name (i := 3) sc__law_hand.nd rfl (by first | exact Or.inl rfl | exact Or.inr rfl) rfl) (dss_cons (ds_set (i := 1) sc__law_hand.nd (de_mod (de_T call_int1 vb_int rfl T.b_int (by decide +kernel) (da_cons (de_add (de_mul (de_var 1) (de_int)) (de_T call_int1 vb_int rfl T.b_int (by decide +kernel) (da_cons (de_var 3) (da_nil)))) (da_nil))) (de_int)))
  (dss_one (ds_app 2 (de_if (dt_c .ge (hu65 hr) (de_var 3) (de_int)) (de_T call_int1 vb_int rfl T.b_int (by decide +kernel) (da_cons (de_var 3) (da_nil))) (de_neg (de_T call_int1 vb_int rfl T.b_int (by decide +kernel) (da_cons (de_var 3) (da_nil)))))))))
  (dss_one (ds_retF (df_list (da_cons (de_var 2) (da_cons (de_int) (da_cons (de_int) (da_cons (de_var 1) (da_nil))))))))))
abbrev s_even_sevens : Stmt := top 9
def N_even_sevens : List Str := ["k"]
theorem sc_even_sevens : FnScope N_even_sevens ["k"] (defScope s_even_sevens) := ⟨rfl, rfl, rfl, by decide +kernel, rfl, by decide +kernel, by decide +kernel⟩
theorem k_even_sevens (T : Txt K mg C) : Fk P w K mg base C "even_sevens" 1 1 m_even_sevens := fk_of T.d_even_sevens sc_even_sevens [] (by decide) fun f cdv A outer s H E ad hr =>
  dss_one (ds_ret (de_mulT (de_tuple (da_cons (de_var 0) (da_nil))) (de_int)))
abbrev s__law_even : Stmt := top 28
def N__law_even : List Str := ["_law_k"]
theorem sc__law_even : FnScope N__law_even ["_law_k"] (defScope s__law_even) := ⟨rfl, rfl, rfl, by decide +kernel, rfl, by decide +kernel, by decide +kernel⟩
theorem k__law_even (T : Txt K mg C) : Fk P w K mg base C "_law_even" 1 1 m__law_even := fk_of T.d__law_even sc__law_even [] (by decide) fun f cdv A outer s H E ad hr =>
  dss_one (ds_ret (de_tuple (da_cons (de_var 0) (da_cons (de_var 0) (da_cons (de_var 0) (da_cons (de_var 0) (da_cons (de_var 0) (da_cons (de_var 0) (da_cons (de_var 0) (da_nil))))))))))
abbrev s__law_coming : Stmt := top 23
def N__law_coming : List Str := ["_law_day", "_law_weekday", "_law_turn"]
theorem sc__law_coming : FnScope N__law_coming ["_law_day", "_law_weekday"] (defScope s__law_coming) := ⟨rfl, rfl, rfl, by decide +kernel, rfl, by decide +kernel, by decide +kernel⟩
theorem k__law_coming (T : Txt K mg C) : Fk P w K mg base C "_law_coming" 2 1 m__law_coming := fk_of T.d__law_coming sc__law_coming [] (by decide) fun f cdv A outer s H E ad hr =>
  dss_cons (ds_for (passes_of rfl) rfl (di_rng1 rfl T.b_range (de_int)) (dg_name (i := 2) sc__law_coming.nd rfl (by first | exact Or.inl rfl | exact Or.inr rfl) rfl) (dss_cons (ds_set (i := 0) sc__law_coming.nd (de_add (de_var 0) (de_int)))
  (dss_one (ds_if (dt_c .eq (hu65 hr) (de_mod (de_T call_int1 vb_int rfl T.b_int (by decide +kernel) (da_cons (de_var 0) (da_nil))) (de_int)) (de_var 1)) (dss_one (ds_ret (de_var 0))) (dss_nil)))))
  (dss_one (ds_ret (de_var 0)))
abbrev s__law_last : Stmt := top 24
def N__law_last : List Str := ["_law_day", "_law_weekday", "_law_turn"]
theorem sc__law_last : FnScope N__law_last ["_law_day", "_law_weekday"] (defScope s__law_last) := ⟨rfl, rfl, rfl, by decide +kernel, rfl, by decide +kernel, by decide +kernel⟩
theorem k__law_last (T : Txt K mg C) : Fk P w K mg base C "_law_last" 2 1 m__law_last := fk_of T.d__law_last sc__law_last [] (by decide) fun f cdv A outer s H E ad hr =>
  dss_cons (ds_for (passes_of rfl) rfl (di_rng1 rfl T.b_range (de_int)) (dg_name (i := 2) sc__law_last.nd rfl (by first | exact Or.inl rfl | exact Or.inr rfl) rfl) (dss_cons (ds_set (i := 0) sc__law_last.nd (de_sub (de_var 0) (de_int)))
  (dss_one (ds_if (dt_c .eq (hu65 hr) (de_mod (de_T call_int1 vb_int rfl T.b_int (by decide +kernel) (da_cons (de_var 0) (da_nil))) (de_int)) (de_var 1)) (dss_one (ds_ret (de_var 0))) (dss_nil)))))
  (dss_one (ds_ret (de_var 0)))
abbrev s__law_counted : Stmt := top 25
def N__law_counted : List Str := ["_law_day", "_law_word"]
theorem sc__law_counted : FnScope N__law_counted ["_law_day", "_law_word"] (defScope s__law_counted) := ⟨rfl, rfl, rfl, by decide +kernel, rfl, by decide +kernel, by decide +kernel⟩
theorem k__law_counted (T : Txt K mg C) (K__law_coming : Fk P w K mg base C "_law_coming" 2 1 m__law_coming) (K__law_last : Fk P w K mg base C "_law_last" 2 1 m__law_last) : Fk P w K mg base C "_law_counted" 2 2 m__law_counted := fk_of T.d__law_counted sc__law_counted [] (by decide) fun f cdv A outer s H E ad hr =>
  dss_cons (ds_if (dt_w (dw_or (dt_c .eq (hu65 hr) (de_ix (de_var 1) (de_int)) (de_str)) (dw_or1 (dt_c .eq (hu65 hr) (de_ix (de_var 1) (de_int)) (de_str))))) (dss_one (ds_ret (de_call (K__law_coming.callee (hr.mono (by decide))) (takes_of rfl rfl rfl rfl) (dag_val (de_var 0) (dag_val (de_ix (de_var 1) (de_int)) (dag_nil))) (many_val (many_val (many_nil)))))) (dss_nil))
  (dss_cons (ds_if (dt_w (dw_or (dt_c .eq (hu65 hr) (de_ix (de_var 1) (de_int)) (de_str)) (dw_or1 (dt_c .eq (hu65 hr) (de_ix (de_var 1) (de_int)) (de_str))))) (dss_one (ds_ret (de_call (K__law_last.callee (hr.mono (by decide))) (takes_of rfl rfl rfl rfl) (dag_val (de_var 0) (dag_val (de_ix (de_var 1) (de_int)) (dag_nil))) (many_val (many_val (many_nil)))))) (dss_nil))
  (dss_one (ds_ret (de_if (dt_c .eq (hu65 hr) (de_ix (de_var 1) (de_int)) (de_str)) (de_ix (de_var 1) (de_int)) (de_add (de_var 0) (de_ix (de_var 1) (de_int)))))))
abbrev s__law_hopped : Stmt := top 32
def N__law_hopped : List Str := ["_law_offsets", "_law_hop_here", "_law_word", "_law_rest"]
theorem sc__law_hopped : FnScope N__law_hopped ["_law_offsets", "_law_hop_here"] (defScope s__law_hopped) := ⟨rfl, rfl, rfl, by decide +kernel, rfl, by decide +kernel, by decide +kernel⟩
theorem k__law_hopped (T : Txt K mg C) (K__law_counted : Fk P w K mg base C "_law_counted" 2 2 m__law_counted) : Fk P w K mg base C "_law_hopped" 2 3 m__law_hopped := fk_of T.d__law_hopped sc__law_hopped [] (by decide) fun f cdv A outer s H E ad hr =>
  dss_cons (ds_set (i := 2) sc__law_hopped.nd (de_if (dt_c .eq (hu65 hr) (de_ix (de_var 1) (de_int)) (de_str)) (de_tuple (da_cons (de_str) (da_cons (de_ix (de_var 1) (de_int)) (da_nil)))) (de_var 1)))
  (dss_one (ds_ret (de_T call_tuple_of vb_tuple rfl T.b_tuple (by decide +kernel) (da_cons (de_of (df_lc (own := [("_law_rest", 3)]) (sl := [3]) rfl sc__law_hopped.nd (di_rng1 rfl T.b_range (de_int)) (blkOk_by (N := N__law_hopped) (sc := defScope s__law_hopped) (by decide +kernel)) (by decide) (fun _ _ _ _ _ => dg_name (i := 3) sc__law_hopped.nd rfl (by first | exact Or.inl rfl | exact Or.inr rfl) rfl) (fun _ _ _ _ _ => dts_nil) (fun _ _ _ _ _ => de_sub (de_call (K__law_counted.callee (hr.mono (by decide))) takes0 (dag_val (de_add (de_var 3) (de_ix (de_var 0) (de_var 3))) (dag_val (de_var 2) (dag_nil))) (many_val (many_val (many_nil)))) (de_var 3)))) (da_nil)))))
abbrev s_days_ahead : Stmt := top 11
def N_days_ahead : List Str := ["w", "day"]
theorem sc_days_ahead : FnScope N_days_ahead ["w", "day"] (defScope s_days_ahead) := ⟨rfl, rfl, rfl, by decide +kernel, rfl, by decide +kernel, by decide +kernel⟩
theorem k_days_ahead (T : Txt K mg C) : Fk P w K mg base C "days_ahead" 2 1 m_days_ahead := fk_of T.d_days_ahead sc_days_ahead [] (by decide) fun f cdv A outer s H E ad hr =>
  dss_one (ds_ret (de_add (de_mod (de_sub (de_sub (de_var 0) (de_var 1)) (de_int)) (de_int)) (de_int)))
abbrev s_saw_sevens : Stmt := top 10
def N_saw_sevens : List Str := ["w", "m", "rest"]
theorem sc_saw_sevens : FnScope N_saw_sevens ["w", "m"] (defScope s_saw_sevens) := ⟨rfl, rfl, rfl, by decide +kernel, rfl, by decide +kernel, by decide +kernel⟩
theorem k_saw_sevens (T : Txt K mg C) (K_days_ahead : Fk P w K mg base C "days_ahead" 2 1 m_days_ahead) : Fk P w K mg base C "saw_sevens" 2 2 m_saw_sevens := fk_of T.d_saw_sevens sc_saw_sevens [] (by decide) fun f cdv A outer s H E ad hr =>
  dss_one (ds_ret (de_T call_tuple_of vb_tuple rfl T.b_tuple (by decide +kernel) (da_cons (de_of (df_lc (own := [("rest", 2)]) (sl := [2]) rfl sc_saw_sevens.nd (di_rng1 rfl T.b_range (de_int)) (blkOk_by (N := N_saw_sevens) (sc := defScope s_saw_sevens) (by decide +kernel)) (by decide) (fun _ _ _ _ _ => dg_name (i := 2) sc_saw_sevens.nd rfl (by first | exact Or.inl rfl | exact Or.inr rfl) rfl) (fun _ _ _ _ _ => dts_nil) (fun _ _ _ _ _ => de_add (de_var 1) (de_call (K_days_ahead.callee (hr.mono (by decide))) takes0 (dag_val (de_var 0) (dag_val (de_add (de_var 2) (de_var 1)) (dag_nil))) (many_val (many_val (many_nil))))))) (da_nil))))
abbrev s_is_whole : Stmt := top 6
def N_is_whole : List Str := ["thing"]
theorem sc_is_whole : FnScope N_is_whole ["thing"] (defScope s_is_whole) := ⟨rfl, rfl, rfl, by decide +kernel, rfl, by decide +kernel, by decide +kernel⟩
theorem k_is_whole (T : Txt K mg C) : Fk P w K mg base C "is_whole" 1 1 m_is_whole := fk_of T.d_is_whole sc_is_whole [] (by decide) fun f cdv A outer s H E ad hr =>
  dss_one (ds_ret (de_and (de_isT (T := "int") rfl T.b_isinstance (by decide +kernel) rfl T.b_int (by decide +kernel) (de_var 0)) (de_one (de_not (de_isT (T := "bool") rfl T.b_isinstance (by decide +kernel) rfl T.b_bool (by decide +kernel) (de_var 0))))))
abbrev s_shape_of_sevens : Stmt := top 13
def N_shape_of_sevens : List Str := ["sevens", "least", "weekday", "offset"]
theorem sc_shape_of_sevens : FnScope N_shape_of_sevens ["sevens"] (defScope s_shape_of_sevens) := ⟨rfl, rfl, rfl, by decide +kernel, rfl, by decide +kernel, by decide +kernel⟩
theorem k_shape_of_sevens (T : Txt K mg C) (K_saw_sevens : Fk P w K mg base C "saw_sevens" 2 2 m_saw_sevens) (K_is_whole : Fk P w K mg base C "is_whole" 1 1 m_is_whole) : Fk P w K mg base C "shape_of_sevens" 1 3 m_shape_of_sevens := fk_of T.d_shape_of_sevens sc_shape_of_sevens [] (by decide) fun f cdv A outer s H E ad hr =>
  dss_cons (ds_if (dt_w (dw_or (dt_not (dt_tru (de_isT (T := "tuple") rfl T.b_isinstance (by decide +kernel) rfl T.b_tuple (by decide +kernel) (de_var 0)))) (dw_or1 (dt_c .ne (hu65 hr) (de_B cr_lenS vb_len rfl T.b_len (by decide +kernel) (da_cons (de_var 0) (da_nil))) (de_int))))) (dss_one (ds_raise0 (c := 1) rfl (takes_of rfl rfl rfl rfl) (T.x_BadSevens.pmk rfl))) (dss_nil))
  (dss_cons (ds_if (dt_not (dt_tru (de_B (cr_all rfl) vb_all rfl T.b_all (by decide +kernel) (da_cons (de_of (df_lc (own := [("offset", 3)]) (sl := [3]) rfl sc_shape_of_sevens.nd (di_seq (de_var 0)) (blkOk_by (N := N_shape_of_sevens) (sc := defScope s_shape_of_sevens) (by decide +kernel)) (by decide) (fun _ _ _ _ _ => dg_name (i := 3) sc_shape_of_sevens.nd rfl (by first | exact Or.inl rfl | exact Or.inr rfl) rfl) (fun _ _ _ _ _ => dts_nil) (fun _ _ _ _ _ => de_call (K_is_whole.callee (hr.mono (by decide))) takes0 (dag_val (de_var 3) (dag_nil)) (many_val (many_nil))))) (da_nil))))) (dss_one (ds_raise0 (c := 1) rfl (takes_of rfl rfl rfl rfl) (T.x_BadSevens.pmk rfl))) (dss_nil))
  (dss_cons (ds_set (i := 1) sc_shape_of_sevens.nd (de_B (cr_minS rfl (hu65 hr)) vb_min rfl T.b_min (by decide +kernel) (da_cons (de_var 0) (da_nil))))
  (dss_cons (ds_if (dt_c .eq (hu65 hr) (de_var 1) (de_B (cr_maxS rfl (hu65 hr)) vb_max rfl T.b_max (by decide +kernel) (da_cons (de_var 0) (da_nil)))) (dss_one (ds_ret (de_tuple (da_cons (de_str) (da_cons (de_var 1) (da_nil)))))) (dss_nil))
  (dss_cons (ds_set (i := 2) sc_shape_of_sevens.nd (de_mod (de_ix (de_var 0) (de_int)) (de_int)))
  (dss_cons (ds_if (dt_c .ne (hu65 hr) (de_call (K_saw_sevens.callee (hr.mono (by decide))) (takes_of rfl rfl rfl rfl) (dag_val (de_var 2) (dag_val (de_sub (de_var 1) (de_int)) (dag_nil))) (many_val (many_val (many_nil)))) (de_var 0)) (dss_one (ds_raise0 (c := 1) rfl (takes_of rfl rfl rfl rfl) (T.x_BadSevens.pmk rfl))) (dss_nil))
  (dss_one (ds_ret (de_tuple (da_cons (de_str) (da_cons (de_var 2) (da_cons (de_sub (de_var 1) (de_int)) (da_nil))))))))))))
abbrev s_days_back : Stmt := top 12
def N_days_back : List Str := ["w", "day"]
theorem sc_days_back : FnScope N_days_back ["w", "day"] (defScope s_days_back) := ⟨rfl, rfl, rfl, by decide +kernel, rfl, by decide +kernel, by decide +kernel⟩
theorem k_days_back (T : Txt K mg C) : Fk P w K mg base C "days_back" 2 1 m_days_back := fk_of T.d_days_back sc_days_back [] (by decide) fun f cdv A outer s H E ad hr =>
  dss_one (ds_ret (de_add (de_mod (de_sub (de_sub (de_var 1) (de_var 0)) (de_int)) (de_int)) (de_int)))
abbrev s_lead_by_one : Stmt := top 16
def N_lead_by_one : List Str := ["sevens", "hop", "kind", "size", "offset", "rest"]
theorem sc_lead_by_one : FnScope N_lead_by_one ["sevens", "hop"] (defScope s_lead_by_one) := ⟨rfl, rfl, rfl, by decide +kernel, rfl, by decide +kernel, by decide +kernel⟩
theorem k_lead_by_one (T : Txt K mg C) (K_days_back : Fk P w K mg base C "days_back" 2 1 m_days_back) (K_days_ahead : Fk P w K mg base C "days_ahead" 2 1 m_days_ahead) : Fk P w K mg base C "lead_by_one" 2 2 m_lead_by_one := fk_of T.d_lead_by_one sc_lead_by_one [] (by decide) fun f cdv A outer s H E ad hr =>
  dss_cons (ds_asg (de_var 1) (dg_seq rfl (dgs_cons (dg_name (i := 2) sc_lead_by_one.nd rfl (by first | exact Or.inl rfl | exact Or.inr rfl) rfl) (dgs_cons (dg_name (i := 3) sc_lead_by_one.nd rfl (by first | exact Or.inl rfl | exact Or.inr rfl) rfl) (dgs_nil)))))
  (dss_cons (ds_if (dt_c .eq (hu65 hr) (de_var 2) (de_str)) (dss_one (ds_ret (de_T call_tuple_of vb_tuple rfl T.b_tuple (by decide +kernel) (da_cons (de_of (df_lc (own := [("offset", 4)]) (sl := [4]) rfl sc_lead_by_one.nd (di_seq (de_var 0)) (blkOk_by (N := N_lead_by_one) (sc := defScope s_lead_by_one) (by decide +kernel)) (by decide) (fun _ _ _ _ _ => dg_name (i := 4) sc_lead_by_one.nd rfl (by first | exact Or.inl rfl | exact Or.inr rfl) rfl) (fun _ _ _ _ _ => dts_nil) (fun _ _ _ _ _ => de_add (de_var 4) (de_var 3)))) (da_nil))))) (dss_nil))
  (dss_cons (ds_if (dt_c .eq (hu65 hr) (de_var 2) (de_str)) (dss_one (ds_ret (de_T call_tuple_of vb_tuple rfl T.b_tuple (by decide +kernel) (da_cons (de_of (df_lc (own := [("rest", 5), ("offset", 4)]) (sl := [5, 4]) rfl sc_lead_by_one.nd (di_enumT rfl T.b_enumerate (de_var 0)) (blkOk_by (N := N_lead_by_one) (sc := defScope s_lead_by_one) (by decide +kernel)) (by decide) (fun _ _ _ _ _ => dg_seq rfl (dgs_cons (dg_name (i := 5) sc_lead_by_one.nd rfl (by first | exact Or.inl rfl | exact Or.inr rfl) rfl) (dgs_cons (dg_name (i := 4) sc_lead_by_one.nd rfl (by first | exact Or.inl rfl | exact Or.inr rfl) rfl) (dgs_nil)))) (fun _ _ _ _ _ => dts_nil) (fun _ _ _ _ _ => de_add (de_var 4) (de_call (K_days_ahead.callee (hr.mono (by decide))) takes0 (dag_val (de_var 3) (dag_val (de_add (de_var 5) (de_var 4)) (dag_nil))) (many_val (many_val (many_nil))))))) (da_nil))))) (dss_nil))
  (dss_one (ds_ret (de_T call_tuple_of vb_tuple rfl T.b_tuple (by decide +kernel) (da_cons (de_of (df_lc (own := [("rest", 5), ("offset", 4)]) (sl := [5, 4]) rfl sc_lead_by_one.nd (di_enumT rfl T.b_enumerate (de_var 0)) (blkOk_by (N := N_lead_by_one) (sc := defScope s_lead_by_one) (by decide +kernel)) (by decide) (fun _ _ _ _ _ => dg_seq rfl (dgs_cons (dg_name (i := 5) sc_lead_by_one.nd rfl (by first | exact Or.inl rfl | exact Or.inr rfl) rfl) (dgs_cons (dg_name (i := 4) sc_lead_by_one.nd rfl (by first | exact Or.inl rfl | exact Or.inr rfl) rfl) (dgs_nil)))) (fun _ _ _ _ _ => dts_nil) (fun _ _ _ _ _ => de_sub (de_var 4) (de_call (K_days_back.callee (hr.mono (by decide))) takes0 (dag_val (de_var 3) (dag_val (de_add (de_var 5) (de_var 4)) (dag_nil))) (many_val (many_val (many_nil))))))) (da_nil)))))))
abbrev s_is_hop : Stmt := top 14
def N_is_hop : List Str := ["thing"]
theorem sc_is_hop : FnScope N_is_hop ["thing"] (defScope s_is_hop) := ⟨rfl, rfl, rfl, by decide +kernel, rfl, by decide +kernel, by decide +kernel⟩
theorem k_is_hop (T : Txt K mg C) (K_is_whole : Fk P w K mg base C "is_whole" 1 1 m_is_whole) : Fk P w K mg base C "is_hop" 1 2 m_is_hop := fk_of T.d_is_hop sc_is_hop [] (by decide) fun f cdv A outer s H E ad hr =>
  dss_cons (ds_if (dt_w (dw_or (dt_not (dt_tru (de_isT (T := "tuple") rfl T.b_isinstance (by decide +kernel) rfl T.b_tuple (by decide +kernel) (de_var 0)))) (dw_or (dt_c .ne (hu65 hr) (de_B cr_lenS vb_len rfl T.b_len (by decide +kernel) (da_cons (de_var 0) (da_nil))) (de_int)) (dw_or1 (dt_not (dt_tru (de_call (K_is_whole.callee (hr.mono (by decide))) (takes_of rfl rfl rfl rfl) (dag_val (de_ix (de_var 0) (de_int)) (dag_nil)) (many_val (many_nil))))))))) (dss_one (ds_ret (de_bl))) (dss_nil))
  (dss_cons (ds_if (dt_c .eq (hu65 hr) (de_ix (de_var 0) (de_int)) (de_str)) (dss_one (ds_ret (de_chain .le .le (hu65 hr) (de_neg (de_glob T.g_MOST_PLUS)) (de_ix (de_var 0) (de_int)) (de_glob T.g_MOST_PLUS)))) (dss_nil))
  (dss_one (ds_ret (de_and (de_c .in_ (hu65 hr) (de_ix (de_var 0) (de_int)) (de_tuple (da_cons (de_str) (da_cons (de_str) (da_nil))))) (de_one (de_chain .le .le (hu65 hr) (de_int) (de_ix (de_var 0) (de_int)) (de_int)))))))
abbrev s_lead_sevens : Stmt := top 15
def N_lead_sevens : List Str := ["sevens", "hop"]
theorem sc_lead_sevens : FnScope N_lead_sevens ["sevens", "hop"] (defScope s_lead_sevens) := ⟨rfl, rfl, rfl, by decide +kernel, rfl, by decide +kernel, by decide +kernel⟩
theorem k_lead_sevens (T : Txt K mg C) (K_shape_of_sevens : Fk P w K mg base C "shape_of_sevens" 1 3 m_shape_of_sevens) (K_lead_by_one : Fk P w K mg base C "lead_by_one" 2 2 m_lead_by_one) (K_is_hop : Fk P w K mg base C "is_hop" 1 2 m_is_hop) (X_BadHop : ExI P w K mg base (C 2) "BadHop" ["index"] 1) : Fk P w K mg base C "lead_sevens" 2 4 m_lead_sevens := fk_of T.d_lead_sevens sc_lead_sevens [] (by decide) fun f cdv A outer s H E ad hr =>
  dss_cons (ds_expr (de_call (K_shape_of_sevens.callee (hr.mono (by decide))) (takes_of rfl rfl rfl rfl) (dag_val (de_var 0) (dag_nil)) (many_val (many_nil))))
  (dss_cons (ds_if (dt_not (dt_tru (de_call (K_is_hop.callee (hr.mono (by decide))) (takes_of rfl rfl rfl rfl) (dag_val (de_var 1) (dag_nil)) (many_val (many_nil))))) (dss_one (ds_raiseF (c := 2) rfl (takes_of rfl rfl rfl rfl) X_BadHop (hr.mono (by decide)) rfl T.x_BadHop.raises (da_cons (de_int) (da_nil)))) (dss_nil))
  (dss_one (ds_ret (de_call (K_lead_by_one.callee (hr.mono (by decide))) (takes_of rfl rfl rfl rfl) (dag_val (de_var 0) (dag_val (de_var 1) (dag_nil))) (many_val (many_val (many_nil)))))))
abbrev s__law_whole : Stmt := top 26
def N__law_whole : List Str := ["_law_thing"]
theorem sc__law_whole : FnScope N__law_whole ["_law_thing"] (defScope s__law_whole) := ⟨rfl, rfl, rfl, by decide +kernel, rfl, by decide +kernel, by decide +kernel⟩
theorem k__law_whole (T : Txt K mg C) : Fk P w K mg base C "_law_whole" 1 1 m__law_whole := fk_of T.d__law_whole sc__law_whole [] (by decide) fun f cdv A outer s H E ad hr =>
  dss_one (ds_ret (de_and (de_isT (T := "int") rfl T.b_isinstance (by decide +kernel) rfl T.b_int (by decide +kernel) (de_var 0)) (de_one (de_not (de_isT (T := "bool") rfl T.b_isinstance (by decide +kernel) rfl T.b_bool (by decide +kernel) (de_var 0))))))
theorem sq__law_whole : ScQ N__law_whole ["_law_thing"] (defScope s__law_whole) := ⟨rfl, rfl, rfl, by decide +kernel, rfl, by decide +kernel, by decide +kernel, by decide +kernel⟩
theorem h__law_whole (T : Txt K mg C) : FkQ P w K mg base C "_law_whole" 1 1 m__law_whole := fkQ_of T.d__law_whole sq__law_whole [] (by decide) fun f cdv A outer s H E ad hr =>
  dss_one (ds_ret (de_and (de_isT (T := "int") rfl T.b_isinstance (by decide +kernel) rfl T.b_int (by decide +kernel) (de_var 0)) (de_one (de_not (de_isT (T := "bool") rfl T.b_isinstance (by decide +kernel) rfl T.b_bool (by decide +kernel) (de_var 0))))))
abbrev s__law_saw : Stmt := top 29
def N__law_saw : List Str := ["_law_weekday", "_law_m", "_law_rest"]
theorem sc__law_saw : FnScope N__law_saw ["_law_weekday", "_law_m"] (defScope s__law_saw) := ⟨rfl, rfl, rfl, by decide +kernel, rfl, by decide +kernel, by decide +kernel⟩
theorem k__law_saw (T : Txt K mg C) (K__law_coming : Fk P w K mg base C "_law_coming" 2 1 m__law_coming) : Fk P w K mg base C "_law_saw" 2 2 m__law_saw := fk_of T.d__law_saw sc__law_saw [] (by decide) fun f cdv A outer s H E ad hr =>
  dss_one (ds_ret (de_T call_tuple_of vb_tuple rfl T.b_tuple (by decide +kernel) (da_cons (de_of (df_lc (own := [("_law_rest", 2)]) (sl := [2]) rfl sc__law_saw.nd (di_rng1 rfl T.b_range (de_int)) (blkOk_by (N := N__law_saw) (sc := defScope s__law_saw) (by decide +kernel)) (by decide) (fun _ _ _ _ _ => dg_name (i := 2) sc__law_saw.nd rfl (by first | exact Or.inl rfl | exact Or.inr rfl) rfl) (fun _ _ _ _ _ => dts_nil) (fun _ _ _ _ _ => de_sub (de_call (K__law_coming.callee (hr.mono (by decide))) takes0 (dag_val (de_add (de_var 2) (de_var 1)) (dag_val (de_var 0) (dag_nil))) (many_val (many_val (many_nil)))) (de_var 2)))) (da_nil))))
abbrev s__law_shape : Stmt := top 30
def N__law_shape : List Str := ["_law_offsets", "_law_offset", "_law_weekday", "_law_m"]
theorem sc__law_shape : FnScope N__law_shape ["_law_offsets"] (defScope s__law_shape) := ⟨rfl, rfl, rfl, by decide +kernel, rfl, by decide +kernel, by decide +kernel⟩
theorem k__law_shape (T : Txt K mg C) (K__law_even : Fk P w K mg base C "_law_even" 1 1 m__law_even) (K__law_whole : Fk P w K mg base C "_law_whole" 1 1 m__law_whole) (K__law_saw : Fk P w K mg base C "_law_saw" 2 2 m__law_saw) : Fk P w K mg base C "_law_shape" 1 3 m__law_shape := fk_of T.d__law_shape sc__law_shape [] (by decide) fun f cdv A outer s H E ad hr =>
  dss_cons (ds_if (dt_w (dw_or (dt_not (dt_tru (de_isT (T := "tuple") rfl T.b_isinstance (by decide +kernel) rfl T.b_tuple (by decide +kernel) (de_var 0)))) (dw_or1 (dt_c .ne (hu65 hr) (de_B cr_lenS vb_len rfl T.b_len (by decide +kernel) (da_cons (de_var 0) (da_nil))) (de_int))))) (dss_one (ds_ret (de_non))) (dss_nil))
  (dss_cons (ds_for (passes_of rfl) rfl (di_seq (de_var 0)) (dg_name (i := 1) sc__law_shape.nd rfl (by first | exact Or.inl rfl | exact Or.inr rfl) rfl) (dss_one (ds_if (dt_not (dt_tru (de_call (K__law_whole.callee (hr.mono (by decide))) (takes_of rfl rfl rfl rfl) (dag_val (de_var 1) (dag_nil)) (many_val (many_nil))))) (dss_one (ds_ret (de_non))) (dss_nil))))
  (dss_cons (ds_if (dt_c .eq (hu65 hr) (de_var 0) (de_call (K__law_even.callee (hr.mono (by decide))) (takes_of rfl rfl rfl rfl) (dag_val (de_ix (de_var 0) (de_int)) (dag_nil)) (many_val (many_nil)))) (dss_one (ds_ret (de_tuple (da_cons (de_str) (da_cons (de_ix (de_var 0) (de_int)) (da_nil)))))) (dss_nil))
  (dss_cons (ds_set (i := 2) sc__law_shape.nd (de_mod (de_T call_int1 vb_int rfl T.b_int (by decide +kernel) (da_cons (de_ix (de_var 0) (de_int)) (da_nil))) (de_int)))
  (dss_cons (ds_set (i := 3) sc__law_shape.nd (de_sub (de_B (cr_minS rfl (hu65 hr)) vb_min rfl T.b_min (by decide +kernel) (da_cons (de_var 0) (da_nil))) (de_int)))
  (dss_one (ds_ret (de_if (dt_c .eq (hu65 hr) (de_call (K__law_saw.callee (hr.mono (by decide))) (takes_of rfl rfl rfl rfl) (dag_val (de_var 2) (dag_val (de_var 3) (dag_nil))) (many_val (many_val (many_nil)))) (de_var 0)) (de_tuple (da_cons (de_str) (da_cons (de_var 2) (da_cons (de_var 3) (da_nil))))) (de_non))))))))
abbrev s__law_asked : Stmt := top 36
def N__law_asked : List Str := ["_law_offsets", "e"]
theorem sc__law_asked : FnScope N__law_asked ["_law_offsets"] (defScope s__law_asked) := ⟨rfl, rfl, rfl, by decide +kernel, rfl, by decide +kernel, by decide +kernel⟩
theorem k__law_asked (T : Txt K mg C) (K_shape_of_sevens : Fk P w K mg base C "shape_of_sevens" 1 3 m_shape_of_sevens) : Fk P w K mg base C "_law_asked" 1 4 m__law_asked := fk_of T.d__law_asked sc__law_asked [] (by decide) fun f cdv A outer s H E ad hr =>
  dss_one (ds_try_as (c := 1) (i := 1) rfl rfl sc__law_asked.nd (T.x_BadSevens.names rfl) (takes_of rfl rfl rfl rfl) T.sb (fun W_ pn_ xe_ tk_ po_ => dss_one (ds_ret (de_call (K_shape_of_sevens.callee (hr.mono (by decide))) tk_ (dag_val (de_var 0) (dag_nil)) (many_val (many_nil))))) (fun ex_ a_ oe_ d_ pn_ G0_ hz_ hf_ er_ => dss_one (ds_ret (de_if (dt_w (dw_and (dt_tru (de_xi (i := 1) (T.xi_TalkError) hz_ hf_ er_ (pe_glob (v := V.ref _) rfl T.xn_TalkError rfl) (fun u h => h) rfl T.b_isinstance (by decide +kernel))) (dw_and1 (dt_not (dt_tru (de_xi (i := 1) (T.xi_BadTerm) hz_ hf_ er_ (pe_glob (v := V.ref _) rfl T.xn_BadTerm rfl) (fun u h => h) rfl T.b_isinstance (by decide +kernel))))))) (de_str) (de_str)))))
abbrev s__law_made_by : Stmt := top 35
def N__law_made_by : List Str := ["_law_shape_here"]
theorem sc__law_made_by : FnScope N__law_made_by ["_law_shape_here"] (defScope s__law_made_by) := ⟨rfl, rfl, rfl, by decide +kernel, rfl, by decide +kernel, by decide +kernel⟩
theorem k__law_made_by (T : Txt K mg C) (K_even_sevens : Fk P w K mg base C "even_sevens" 1 1 m_even_sevens) (K_saw_sevens : Fk P w K mg base C "saw_sevens" 2 2 m_saw_sevens) : Fk P w K mg base C "_law_made_by" 1 3 m__law_made_by := fk_of T.d__law_made_by sc__law_made_by [] (by decide) fun f cdv A outer s H E ad hr =>
  dss_one (ds_ret (de_if (dt_c .eq (hu65 hr) (de_ix (de_var 0) (de_int)) (de_str)) (de_call (K_even_sevens.callee (hr.mono (by decide))) (takes_of rfl rfl rfl rfl) (dag_val (de_ix (de_var 0) (de_int)) (dag_nil)) (many_val (many_nil))) (de_call (K_saw_sevens.callee (hr.mono (by decide))) (takes_of rfl rfl rfl rfl) (dag_val (de_ix (de_var 0) (de_int)) (dag_val (de_ix (de_var 0) (de_int)) (dag_nil))) (many_val (many_val (many_nil))))))
abbrev s__law_same_shape : Stmt := top 37
def N__law_same_shape : List Str := ["_law_offsets", "_law_due", "_law_told", "_law_one"]
theorem sc__law_same_shape : FnScope N__law_same_shape ["_law_offsets"] (defScope s__law_same_shape) := ⟨rfl, rfl, rfl, by decide +kernel, rfl, by decide +kernel, by decide +kernel⟩
theorem k__law_same_shape (T : Txt K mg C) (K__law_shape : Fk P w K mg base C "_law_shape" 1 3 m__law_shape) (K__law_asked : Fk P w K mg base C "_law_asked" 1 4 m__law_asked) (K__law_made_by : Fk P w K mg base C "_law_made_by" 1 3 m__law_made_by) (K__law_whole : Fk P w K mg base C "_law_whole" 1 1 m__law_whole) : Fk P w K mg base C "_law_same_shape" 1 5 m__law_same_shape := fk_of T.d__law_same_shape sc__law_same_shape [] (by decide) fun f cdv A outer s H E ad hr =>
  dss_cons (ds_set (i := 1) sc__law_same_shape.nd (de_call (K__law_shape.callee (hr.mono (by decide))) (takes_of rfl rfl rfl rfl) (dag_val (de_var 0) (dag_nil)) (many_val (many_nil))))
  (dss_cons (ds_set (i := 2) sc__law_same_shape.nd (de_call (K__law_asked.callee (hr.mono (by decide))) (takes_of rfl rfl rfl rfl) (dag_val (de_var 0) (dag_nil)) (many_val (many_nil))))
  (dss_cons (ds_if (dt_c .isN (hu65 hr) (de_var 1) (de_non)) (dss_one (ds_ret (de_c .eq (hu65 hr) (de_var 2) (de_str)))) (dss_nil))
  (dss_cons (ds_if (dt_w (dw_or (dt_not (dt_tru (de_isT (T := "tuple") rfl T.b_isinstance (by decide +kernel) rfl T.b_tuple (by decide +kernel) (de_var 2)))) (dw_or1 (dt_c .ne (hu65 hr) (de_var 2) (de_var 1))))) (dss_one (ds_ret (de_bl))) (dss_nil))
  (dss_one (ds_ret (de_and (de_c .eq (hu65 hr) (de_of (df_lc (own := [("_law_one", 3)]) (sl := [3]) rfl sc__law_same_shape.nd (di_seq (de_sl (de_var 2) (do_some (de_int)) (do_none))) (blkOk_by (N := N__law_same_shape) (sc := defScope s__law_same_shape) (by decide +kernel)) (by decide) (fun _ _ _ _ _ => dg_name (i := 3) sc__law_same_shape.nd rfl (by first | exact Or.inl rfl | exact Or.inr rfl) rfl) (fun _ _ _ _ _ => dts_one (dt_not (dt_tru (de_call (K__law_whole.callee (hr.mono (by decide))) takes0 (dag_val (de_var 3) (dag_nil)) (many_val (many_nil)))))) (fun _ _ _ _ _ => de_var 3))) (de_list (da_nil))) (de_one (de_c .eq (hu65 hr) (de_call (K__law_made_by.callee (hr.mono (by decide))) (takes_of rfl rfl rfl rfl) (dag_val (de_var 1) (dag_nil)) (many_val (many_nil))) (de_var 0)))))))))
abbrev s__law_walked : Stmt := top 42
def N__law_walked : List Str := ["_law_hand_here", "_law_hops", "_law_now", "_law_due", "_law_hop_here"]
theorem sc__law_walked : FnScope N__law_walked ["_law_hand_here", "_law_hops"] (defScope s__law_walked) := ⟨rfl, rfl, rfl, by decide +kernel, rfl, by decide +kernel, by decide +kernel⟩
theorem k__law_walked (T : Txt K mg C) (K_even_sevens : Fk P w K mg base C "even_sevens" 1 1 m_even_sevens) (K__law_even : Fk P w K mg base C "_law_even" 1 1 m__law_even) (K__law_hopped : Fk P w K mg base C "_law_hopped" 2 3 m__law_hopped) (K_lead_sevens : Fk P w K mg base C "lead_sevens" 2 4 m_lead_sevens) (K__law_same_shape : Fk P w K mg base C "_law_same_shape" 1 5 m__law_same_shape) : Fk P w K mg base C "_law_walked" 2 6 m__law_walked := fk_of T.d__law_walked sc__law_walked [0] (by decide) fun f cdv A outer s H E ad hr =>
  dss_cons (ds_set (i := 2) sc__law_walked.nd (de_call (K_even_sevens.callee (hr.mono (by decide))) (takes_of rfl rfl rfl rfl) (dag_val (de_int) (dag_nil)) (many_val (many_nil))))
  (dss_cons (ds_set (i := 3) sc__law_walked.nd (de_call (K__law_even.callee (hr.mono (by decide))) (takes_of rfl rfl rfl rfl) (dag_val (de_int) (dag_nil)) (many_val (many_nil))))
  (dss_cons (ds_for (passes_of rfl) rfl (di_seq (de_var 1)) (dg_name (i := 4) sc__law_walked.nd rfl (by first | exact Or.inl rfl | exact Or.inr rfl) rfl) (dss_cons (ds_set (i := 3) sc__law_walked.nd (de_call (K__law_hopped.callee (hr.mono (by decide))) (takes_of rfl rfl rfl rfl) (dag_val (de_var 3) (dag_val (de_var 4) (dag_nil))) (many_val (many_val (many_nil)))))
  (dss_cons (ds_set (i := 2) sc__law_walked.nd (de_call (K_lead_sevens.callee (hr.mono (by decide))) (takes_of rfl rfl rfl rfl) (dag_val (de_var 2) (dag_val (de_var 4) (dag_nil))) (many_val (many_val (many_nil)))))
  (dss_one (ds_if (dt_w (dw_or (dt_c .ne (hu65 hr) (de_var 2) (de_var 3)) (dw_or (dt_not (dt_tru (de_isT (T := "tuple") rfl T.b_isinstance (by decide +kernel) rfl T.b_tuple (by decide +kernel) (de_var 2)))) (dw_or1 (dt_not (dt_tru (de_call (K__law_same_shape.callee (hr.mono (by decide))) (takes_of rfl rfl rfl rfl) (dag_val (de_var 2) (dag_nil)) (many_val (many_nil))))))))) (dss_one (ds_ret (de_non))) (dss_nil))))))
  (dss_one (ds_ret (de_var 2)))))
abbrev s__law_mixed : Stmt := top 20
def N__law_mixed : List Str := ["_law_number", "_law_turn", "_law_once", "_law_twice"]
theorem sc__law_mixed : FnScope N__law_mixed ["_law_number", "_law_turn"] (defScope s__law_mixed) := ⟨rfl, rfl, rfl, by decide +kernel, rfl, by decide +kernel, by decide +kernel⟩
theorem k__law_mixed (T : Txt K mg C) : Fk P w K mg base C "_law_mixed" 2 1 m__law_mixed := fk_of T.d__law_mixed sc__law_mixed [] (by decide) fun f cdv A outer s H E ad hr =>
  dss_cons (ds_set (i := 2) sc__law_mixed.nd (de_mod (de_T call_int1 vb_int rfl T.b_int (by decide +kernel) (da_cons (de_add (de_add (de_mul (de_var 0) (de_int)) (de_mul (de_var 1) (de_int))) (de_int)) (da_nil))) (de_int)))
  (dss_cons (ds_set (i := 3) sc__law_mixed.nd (de_mod (de_T call_int1 vb_int rfl T.b_int (by decide +kernel) (da_cons (de_add (de_add (de_mul (de_var 2) (de_var 2)) (de_mul (de_var 1) (de_int))) (de_div (de_var 2) (de_int))) (da_nil))) (de_int)))
  (dss_one (ds_ret (de_div (de_T call_int1 vb_int rfl T.b_int (by decide +kernel) (da_cons (de_mod (de_T call_int1 vb_int rfl T.b_int (by decide +kernel) (da_cons (de_add (de_mul (de_var 3) (de_int)) (de_div (de_var 2) (de_int))) (da_nil))) (de_int)) (da_nil))) (de_int)))))
abbrev s__law_take : Stmt := top 21
def N__law_take : List Str := ["_law_hand_here", "_law_many", "_law_cell", "_law_rest"]
theorem sc__law_take : FnScope N__law_take ["_law_hand_here", "_law_many"] (defScope s__law_take) := ⟨rfl, rfl, rfl, by decide +kernel, rfl, by decide +kernel, by decide +kernel⟩
theorem k__law_take (T : Txt K mg C) (K__law_mixed : Fk P w K mg base C "_law_mixed" 2 1 m__law_mixed) : Fk P w K mg base C "_law_take" 2 2 m__law_take := fk_of T.d__law_take sc__law_take [0] (by decide) fun f cdv A outer s H E ad hr =>
  dss_cons (ds_if (dt_w (dw_and (dt_c .eq (hu65 hr) (de_ixO 0 (de_int)) (de_int)) (dw_and1 (dt_c .lt (hu65 hr) (de_ixO 0 (de_int)) (de_B cr_lenS vb_len rfl T.b_len (by decide +kernel) (da_cons (de_ixO 0 (de_int)) (da_nil))))))) (dss_cons (ds_set (i := 2) sc__law_take.nd (de_ix (de_ixO 0 (de_int)) (de_ixO 0 (de_int))))
  (dss_cons (ds_sub 0 (de_add (de_ixO 0 (de_int)) (de_int)) (de_int))
  (dss_cons (ds_if (dt_c .lt (hu65 hr) (de_var 2) (de_pow (de_int) (de_int))) (dss_one (ds_ret (de_mod (de_T call_int1 vb_int rfl T.b_int (by decide +kernel) (da_cons (de_call (K__law_mixed.callee (hr.mono (by decide))) (takes_of rfl rfl rfl rfl) (dag_val (de_mod (de_T call_int1 vb_int rfl T.b_int (by decide +kernel) (da_cons (de_var 2) (da_nil))) (de_int)) (dag_val (de_ixO 0 (de_int)) (dag_nil))) (many_val (many_val (many_nil)))) (da_nil))) (de_var 1)))) (dss_nil))
  (dss_one (ds_sub 0 (de_var 2) (de_int)))))) (dss_nil))
  (dss_cons (ds_if (dt_c .gt (hu65 hr) (de_ixO 0 (de_int)) (de_int)) (dss_cons (ds_set (i := 3) sc__law_take.nd (de_ixO 0 (de_int)))
  (dss_cons (ds_sub 0 (de_div (de_T call_int1 vb_int rfl T.b_int (by decide +kernel) (da_cons (de_var 3) (da_nil))) (de_var 1)) (de_int))
  (dss_one (ds_ret (de_mod (de_T call_int1 vb_int rfl T.b_int (by decide +kernel) (da_cons (de_var 3) (da_nil))) (de_var 1)))))) (dss_nil))
  (dss_cons (ds_sub 0 (de_mod (de_T call_int1 vb_int rfl T.b_int (by decide +kernel) (da_cons (de_add (de_ixO 0 (de_int)) (de_int)) (da_nil))) (de_int)) (de_int))
  (dss_one (ds_ret (de_mod (de_T call_int1 vb_int rfl T.b_int (by decide +kernel) (da_cons (de_call (K__law_mixed.callee (hr.mono (by decide))) (takes_of rfl rfl rfl rfl) (dag_val (de_ixO 0 (de_int)) (dag_val (de_ixO 0 (de_int)) (dag_nil))) (many_val (many_val (many_nil)))) (da_nil))) (de_var 1))))))
abbrev s__law_far : Stmt := top 33
def N__law_far : List Str := ["_law_hand_here", "_law_most"]
theorem sc__law_far : FnScope N__law_far ["_law_hand_here", "_law_most"] (defScope s__law_far) := ⟨rfl, rfl, rfl, by decide +kernel, rfl, by decide +kernel, by decide +kernel⟩
theorem k__law_far (T : Txt K mg C) (K__law_take : Fk P w K mg base C "_law_take" 2 2 m__law_take) : Fk P w K mg base C "_law_far" 2 3 m__law_far := fk_of T.d__law_far sc__law_far [0] (by decide) fun f cdv A outer s H E ad hr =>
  dss_one (ds_ret (de_if (dt_tru (de_call (K__law_take.callee (hr.mono (by decide))) (takes_of rfl rfl rfl rfl) (dag_io 0 (dag_val (de_int) (dag_nil))) (many_io (many_val (many_nil))))) (de_sub (de_call (K__law_take.callee (hr.mono (by decide))) (takes_of rfl rfl rfl rfl) (dag_io 0 (dag_val (de_add (de_mul (de_int) (de_var 1)) (de_int)) (dag_nil))) (many_io (many_val (many_nil)))) (de_var 1)) (de_sub (de_call (K__law_take.callee (hr.mono (by decide))) (takes_of rfl rfl rfl rfl) (dag_io 0 (dag_val (de_int) (dag_nil))) (many_io (many_val (many_nil)))) (de_int))))
abbrev s__law_sevens : Stmt := top 34
def N__law_sevens : List Str := ["_law_hand_here", "_law_most"]
theorem sc__law_sevens : FnScope N__law_sevens ["_law_hand_here", "_law_most"] (defScope s__law_sevens) := ⟨rfl, rfl, rfl, by decide +kernel, rfl, by decide +kernel, by decide +kernel⟩
theorem k__law_sevens (T : Txt K mg C) (K__law_saw : Fk P w K mg base C "_law_saw" 2 2 m__law_saw) (K__law_take : Fk P w K mg base C "_law_take" 2 2 m__law_take) (K__law_even : Fk P w K mg base C "_law_even" 1 1 m__law_even) (K__law_far : Fk P w K mg base C "_law_far" 2 3 m__law_far) : Fk P w K mg base C "_law_sevens" 2 4 m__law_sevens := fk_of T.d__law_sevens sc__law_sevens [0] (by decide) fun f cdv A outer s H E ad hr =>
  dss_cons (ds_if (dt_c .eq (hu65 hr) (de_call (K__law_take.callee (hr.mono (by decide))) (takes_of rfl rfl rfl rfl) (dag_io 0 (dag_val (de_int) (dag_nil))) (many_io (many_val (many_nil)))) (de_int)) (dss_one (ds_ret (de_call (K__law_even.callee (hr.mono (by decide))) (takes_of rfl rfl rfl rfl) (dag_val (de_call (K__law_far.callee (hr.mono (by decide))) (takes_of rfl rfl rfl rfl) (dag_io 0 (dag_val (de_var 1) (dag_nil))) (many_io (many_val (many_nil)))) (dag_nil)) (many_val (many_nil))))) (dss_nil))
  (dss_one (ds_ret (de_call (K__law_saw.callee (hr.mono (by decide))) (takes_of rfl rfl rfl rfl) (dag_val (de_call (K__law_take.callee (hr.mono (by decide))) (takes_of rfl rfl rfl rfl) (dag_io 0 (dag_val (de_int) (dag_nil))) (many_io (many_val (many_nil)))) (dag_val (de_call (K__law_far.callee (hr.mono (by decide))) (takes_of rfl rfl rfl rfl) (dag_io 0 (dag_val (de_var 1) (dag_nil))) (many_io (many_val (many_nil)))) (dag_nil))) (many_val (many_val (many_nil))))))
abbrev s__law_step : Stmt := top 22
def N__law_step : List Str := ["_law_hand_here"]
theorem sc__law_step : FnScope N__law_step ["_law_hand_here"] (defScope s__law_step) := ⟨rfl, rfl, rfl, by decide +kernel, rfl, by decide +kernel, by decide +kernel⟩
theorem k__law_step (T : Txt K mg C) (K__law_take : Fk P w K mg base C "_law_take" 2 2 m__law_take) : Fk P w K mg base C "_law_step" 1 3 m__law_step := fk_of T.d__law_step sc__law_step [0] (by decide) fun f cdv A outer s H E ad hr =>
  dss_one (ds_ret (de_if (dt_c .eq (hu65 hr) (de_call (K__law_take.callee (hr.mono (by decide))) (takes_of rfl rfl rfl rfl) (dag_io 0 (dag_val (de_int) (dag_nil))) (many_io (many_val (many_nil)))) (de_int)) (de_sub (de_call (K__law_take.callee (hr.mono (by decide))) (takes_of rfl rfl rfl rfl) (dag_io 0 (dag_val (de_int) (dag_nil))) (many_io (many_val (many_nil)))) (de_int)) (de_sub (de_call (K__law_take.callee (hr.mono (by decide))) (takes_of rfl rfl rfl rfl) (dag_io 0 (dag_val (de_int) (dag_nil))) (many_io (many_val (many_nil)))) (de_int))))
abbrev s__law_hop : Stmt := top 31
def N__law_hop : List Str := ["_law_hand_here", "_law_way"]
theorem sc__law_hop : FnScope N__law_hop ["_law_hand_here"] (defScope s__law_hop) := ⟨rfl, rfl, rfl, by decide +kernel, rfl, by decide +kernel, by decide +kernel⟩
theorem k__law_hop (T : Txt K mg C) (K__law_take : Fk P w K mg base C "_law_take" 2 2 m__law_take) (K__law_step : Fk P w K mg base C "_law_step" 1 3 m__law_step) : Fk P w K mg base C "_law_hop" 1 4 m__law_hop := fk_of T.d__law_hop sc__law_hop [0] (by decide) fun f cdv A outer s H E ad hr =>
  dss_cons (ds_set (i := 1) sc__law_hop.nd (de_call (K__law_take.callee (hr.mono (by decide))) (takes_of rfl rfl rfl rfl) (dag_io 0 (dag_val (de_int) (dag_nil))) (many_io (many_val (many_nil)))))
  (dss_cons (ds_if (dt_c .lt (hu65 hr) (de_var 1) (de_int)) (dss_one (ds_ret (de_tuple (da_cons (de_str) (da_cons (de_call (K__law_step.callee (hr.mono (by decide))) (takes_of rfl rfl rfl rfl) (dag_io 0 (dag_nil)) (many_io (many_nil))) (da_nil)))))) (dss_nil))
  (dss_one (ds_ret (de_tuple (da_cons (de_ix (de_list (da_cons (de_str) (da_cons (de_str) (da_nil)))) (de_sub (de_var 1) (de_int))) (da_cons (de_call (K__law_take.callee (hr.mono (by decide))) (takes_of rfl rfl rfl rfl) (dag_io 0 (dag_val (de_int) (dag_nil))) (many_io (many_val (many_nil)))) (da_nil)))))))
abbrev s__law_pick : Stmt := top 27
def N__law_pick : List Str := ["_law_hand_here", "_law_things"]
theorem sc__law_pick : FnScope N__law_pick ["_law_hand_here", "_law_things"] (defScope s__law_pick) := ⟨rfl, rfl, rfl, by decide +kernel, rfl, by decide +kernel, by decide +kernel⟩
theorem k__law_pick (T : Txt K mg C) (K__law_take : Fk P w K mg base C "_law_take" 2 2 m__law_take) : Fk P w K mg base C "_law_pick" 2 3 m__law_pick := fk_of T.d__law_pick sc__law_pick [0] (by decide) fun f cdv A outer s H E ad hr =>
  dss_one (ds_ret (de_ix (de_var 1) (de_call (K__law_take.callee (hr.mono (by decide))) (takes_of rfl rfl rfl rfl) (dag_io 0 (dag_val (de_B cr_lenS vb_len rfl T.b_len (by decide +kernel) (da_cons (de_var 1) (da_nil))) (dag_nil))) (many_io (many_val (many_nil))))))
abbrev s__law_spoilt : Stmt := top 38
def N__law_spoilt : List Str := ["_law_hand_here", "_law_offsets", "_law_at", "_law_way"]
theorem sc__law_spoilt : FnScope N__law_spoilt ["_law_hand_here", "_law_offsets"] (defScope s__law_spoilt) := ⟨rfl, rfl, rfl, by decide +kernel, rfl, by decide +kernel, by decide +kernel⟩
theorem k__law_spoilt (T : Txt K mg C) (K__law_take : Fk P w K mg base C "_law_take" 2 2 m__law_take) (K__law_pick : Fk P w K mg base C "_law_pick" 2 3 m__law_pick) : Fk P w K mg base C "_law_spoilt" 2 4 m__law_spoilt := fk_of T.d__law_spoilt sc__law_spoilt [0] (by decide) fun f cdv A outer s H E ad hr =>
  dss_cons (ds_set (i := 2) sc__law_spoilt.nd (de_call (K__law_take.callee (hr.mono (by decide))) (takes_of rfl rfl rfl rfl) (dag_io 0 (dag_val (de_int) (dag_nil))) (many_io (many_val (many_nil)))))
  (dss_cons (ds_set (i := 3) sc__law_spoilt.nd (de_call (K__law_take.callee (hr.mono (by decide))) (takes_of rfl rfl rfl rfl) (dag_io 0 (dag_val (de_int) (dag_nil))) (many_io (many_val (many_nil)))))
  (dss_cons (ds_if (dt_c .eq (hu65 hr) (de_var 3) (de_int)) (dss_one (ds_ret (de_T call_list_of vb_list rfl T.b_list (by decide +kernel) (da_cons (de_var 1) (da_nil))))) (dss_nil))
  (dss_cons (ds_if (dt_c .eq (hu65 hr) (de_var 3) (de_int)) (dss_one (ds_ret (de_sl (de_var 1) (do_none) (do_some (de_var 2))))) (dss_nil))
  (dss_cons (ds_if (dt_c .eq (hu65 hr) (de_var 3) (de_int)) (dss_one (ds_ret (de_add (de_var 1) (de_tuple (da_cons (de_ix (de_var 1) (de_var 2)) (da_nil)))))) (dss_nil))
  (dss_cons (ds_if (dt_c .eq (hu65 hr) (de_var 3) (de_int)) (dss_one (ds_ret (de_add (de_add (de_sl (de_var 1) (do_none) (do_some (de_var 2))) (de_tuple (da_cons (de_call (K__law_pick.callee (hr.mono (by decide))) (takes_of rfl rfl rfl rfl) (dag_io 0 (dag_val (de_list (da_cons (de_non) (da_cons (de_bl) (da_cons (de_bl) (da_cons (de_str) (da_cons (de_tuple (da_cons (de_int) (da_nil))) (da_nil))))))) (dag_nil))) (many_io (many_val (many_nil)))) (da_nil)))) (de_sl (de_var 1) (do_some (de_add (de_var 2) (de_int))) (do_none))))) (dss_nil))
  (dss_cons (ds_if (dt_c .eq (hu65 hr) (de_var 3) (de_int)) (dss_one (ds_ret (de_add (de_add (de_sl (de_var 1) (do_none) (do_some (de_var 2))) (de_tuple (da_cons (de_add (de_ix (de_var 1) (de_var 2)) (de_call (K__law_pick.callee (hr.mono (by decide))) (takes_of rfl rfl rfl rfl) (dag_io 0 (dag_val (de_list (da_cons (de_int) (da_cons (de_neg (de_int)) (da_cons (de_int) (da_cons (de_neg (de_int)) (da_cons (de_int) (da_cons (de_pow (de_int) (de_int)) (da_nil)))))))) (dag_nil))) (many_io (many_val (many_nil))))) (da_nil)))) (de_sl (de_var 1) (do_some (de_add (de_var 2) (de_int))) (do_none))))) (dss_nil))
  (dss_one (ds_ret (de_call (K__law_pick.callee (hr.mono (by decide))) (takes_of rfl rfl rfl rfl) (dag_io 0 (dag_val (de_list (da_cons (de_non) (da_cons (de_int) (da_cons (de_str) (da_cons (de_add (de_sl (de_var 1) (do_some (de_var 2)) (do_none)) (de_sl (de_var 1) (do_none) (do_some (de_var 2)))) (da_cons (de_tupRt rfl rfl T.b_tuple rfl T.b_reversed (de_var 1)) (da_nil))))))) (dag_nil))) (many_io (many_val (many_nil))))))))))))
abbrev s__law_bad_hop : Stmt := top 39
def N__law_bad_hop : List Str := ["_law_hand_here", "_law_k"]
theorem sc__law_bad_hop : FnScope N__law_bad_hop ["_law_hand_here"] (defScope s__law_bad_hop) := ⟨rfl, rfl, rfl, by decide +kernel, rfl, by decide +kernel, by decide +kernel⟩
theorem k__law_bad_hop (T : Txt K mg C) (K__law_take : Fk P w K mg base C "_law_take" 2 2 m__law_take) (K__law_pick : Fk P w K mg base C "_law_pick" 2 3 m__law_pick) : Fk P w K mg base C "_law_bad_hop" 1 4 m__law_bad_hop := fk_of T.d__law_bad_hop sc__law_bad_hop [0] (by decide) fun f cdv A outer s H E ad hr =>
  dss_cons (ds_set (i := 1) sc__law_bad_hop.nd (de_call (K__law_take.callee (hr.mono (by decide))) (takes_of rfl rfl rfl rfl) (dag_io 0 (dag_val (de_pow (de_int) (de_int)) (dag_nil))) (many_io (many_val (many_nil)))))
  (dss_one (ds_ret (de_call (K__law_pick.callee (hr.mono (by decide))) (takes_of rfl rfl rfl rfl) (dag_io 0 (dag_val (de_list (da_cons (de_tuple (da_cons (de_str) (da_cons (de_add (de_int) (de_var 1)) (da_nil)))) (da_cons (de_tuple (da_cons (de_str) (da_cons (de_sub (de_neg (de_int)) (de_var 1)) (da_nil)))) (da_cons (de_tuple (da_cons (de_str) (da_cons (de_bl) (da_nil)))) (da_cons (de_tuple (da_cons (de_str) (da_cons (de_non) (da_nil)))) (da_cons (de_tuple (da_cons (de_str) (da_cons (de_add (de_int) (de_var 1)) (da_nil)))) (da_cons (de_tuple (da_cons (de_str) (da_cons (de_sub (de_neg (de_int)) (de_var 1)) (da_nil)))) (da_cons (de_tuple (da_cons (de_str) (da_cons (de_int) (da_nil)))) (da_cons (de_tuple (da_cons (de_str) (da_cons (de_bl) (da_nil)))) (da_cons (de_tuple (da_cons (de_str) (da_cons (de_int) (da_nil)))) (da_cons (de_tuple (da_cons (de_str) (da_nil))) (da_cons (de_tuple (da_cons (de_str) (da_cons (de_int) (da_cons (de_int) (da_nil))))) (da_cons (de_list (da_cons (de_str) (da_cons (de_int) (da_nil)))) (da_cons (de_str) (da_cons (de_non) (da_cons (de_tuple (da_nil)) (da_cons (de_tuple (da_cons (de_int) (da_cons (de_str) (da_nil)))) (da_nil)))))))))))))))))) (dag_nil))) (many_io (many_val (many_nil))))))
abbrev s_led_by : Stmt := top 17
def N_led_by : List Str := ["hops", "index", "hop", "sevens"]
theorem sc_led_by : FnScope N_led_by ["hops"] (defScope s_led_by) := ⟨rfl, rfl, rfl, by decide +kernel, rfl, by decide +kernel, by decide +kernel⟩
theorem k_led_by (T : Txt K mg C) (K_even_sevens : Fk P w K mg base C "even_sevens" 1 1 m_even_sevens) (K_lead_by_one : Fk P w K mg base C "lead_by_one" 2 2 m_lead_by_one) (K_is_hop : Fk P w K mg base C "is_hop" 1 2 m_is_hop) (X_BadHop : ExI P w K mg base (C 2) "BadHop" ["index"] 1) : Fk P w K mg base C "led_by" 1 3 m_led_by := fk_of T.d_led_by sc_led_by [] (by decide) fun f cdv A outer s H E ad hr =>
  dss_cons (ds_if (dt_not (dt_tru (de_isT2 (T1 := "list") (T2 := "tuple") rfl T.b_isinstance (by decide +kernel) rfl T.b_list (by decide +kernel) rfl T.b_tuple (by decide +kernel) (de_var 0)))) (dss_one (ds_raiseF (c := 2) rfl (takes_of rfl rfl rfl rfl) X_BadHop (hr.mono (by decide)) rfl T.x_BadHop.raises (da_cons (de_int) (da_nil)))) (dss_nil))
  (dss_cons (ds_for (passes_of rfl) rfl (di_enumT rfl T.b_enumerate (de_var 0)) (dg_seq rfl (dgs_cons (dg_name (i := 1) sc_led_by.nd rfl (by first | exact Or.inl rfl | exact Or.inr rfl) rfl) (dgs_cons (dg_name (i := 2) sc_led_by.nd rfl (by first | exact Or.inl rfl | exact Or.inr rfl) rfl) (dgs_nil)))) (dss_one (ds_if (dt_not (dt_tru (de_call (K_is_hop.callee (hr.mono (by decide))) (takes_of rfl rfl rfl rfl) (dag_val (de_var 2) (dag_nil)) (many_val (many_nil))))) (dss_one (ds_raiseF (c := 2) rfl (takes_of rfl rfl rfl rfl) X_BadHop (hr.mono (by decide)) rfl T.x_BadHop.raises (da_cons (de_var 1) (da_nil)))) (dss_nil))))
  (dss_cons (ds_set (i := 3) sc_led_by.nd (de_call (K_even_sevens.callee (hr.mono (by decide))) (takes_of rfl rfl rfl rfl) (dag_val (de_int) (dag_nil)) (many_val (many_nil))))
  (dss_cons (ds_for (passes_of rfl) rfl (di_seq (de_var 0)) (dg_name (i := 2) sc_led_by.nd rfl (by first | exact Or.inl rfl | exact Or.inr rfl) rfl) (dss_one (ds_set (i := 3) sc_led_by.nd (de_call (K_lead_by_one.callee (hr.mono (by decide))) (takes_of rfl rfl rfl rfl) (dag_val (de_var 3) (dag_val (de_var 2) (dag_nil))) (many_val (many_val (many_nil)))))))
  (dss_one (ds_ret (de_var 3))))))
abbrev s__law_led_refused : Stmt := top 40
def N__law_led_refused : List Str := ["_law_hops", "e"]
theorem sc__law_led_refused : FnScope N__law_led_refused ["_law_hops"] (defScope s__law_led_refused) := ⟨rfl, rfl, rfl, by decide +kernel, rfl, by decide +kernel, by decide +kernel⟩
theorem k__law_led_refused (T : Txt K mg C) (K_led_by : Fk P w K mg base C "led_by" 1 3 m_led_by) : Fk P w K mg base C "_law_led_refused" 1 4 m__law_led_refused := fk_of T.d__law_led_refused sc__law_led_refused [] (by decide) fun f cdv A outer s H E ad hr =>
  dss_cons (ds_try_as (c := 2) (i := 1) rfl rfl sc__law_led_refused.nd (T.x_BadHop.names rfl) (takes_of rfl rfl rfl rfl) T.sb (fun W_ pn_ xe_ tk_ po_ => dss_one (ds_expr (de_call (K_led_by.callee (hr.mono (by decide))) tk_ (dag_val (de_var 0) (dag_nil)) (many_val (many_nil))))) (fun ex_ a_ oe_ d_ pn_ G0_ hz_ hf_ er_ => dss_one (ds_ret (de_xf (i := 1) T.xf_index hz_ hf_ er_))))
  (dss_one (ds_ret (de_neg (de_int))))
abbrev s__law_lead_refused : Stmt := top 41
def N__law_lead_refused : List Str := ["_law_offsets", "_law_hop_here", "e"]
theorem sc__law_lead_refused : FnScope N__law_lead_refused ["_law_offsets", "_law_hop_here"] (defScope s__law_lead_refused) := ⟨rfl, rfl, rfl, by decide +kernel, rfl, by decide +kernel, by decide +kernel⟩
theorem k__law_lead_refused (T : Txt K mg C) (K_lead_sevens : Fk P w K mg base C "lead_sevens" 2 4 m_lead_sevens) (K__law_whole : Fk P w K mg base C "_law_whole" 1 1 m__law_whole) (H__law_whole : FkQ P w K mg base C "_law_whole" 1 1 m__law_whole) : Fk P w K mg base C "_law_lead_refused" 2 5 m__law_lead_refused := fk_of T.d__law_lead_refused sc__law_lead_refused [] (by decide) fun f cdv A outer s H E ad hr =>
  dss_cons (ds_try_m rfl rfl sc__law_lead_refused.nd (takes_of rfl rfl rfl rfl) T.sb (fun W_ pn_ xe_ tk_ po_ => dss_one (ds_expr (de_call (K_lead_sevens.callee (hr.mono (by decide))) tk_ (dag_val (de_var 0) (dag_val (de_var 1) (dag_nil))) (many_val (many_val (many_nil)))))) (.pl (c := 1) (T.x_BadSevens.names rfl) (fun a_ oe_ pn_ => dss_one (ds_ret (de_str))) (.as_ (c := 2) (i := 2) (T.x_BadHop.names rfl) (fun ex_ a_ oe_ d_ pn_ G0_ hz_ hf_ er_ => dss_one (ds_ret (de_if (dt_w (dw_and (dt_c .eq (hu65Q hr rfl) (de_xf (i := 2) T.xf_index hz_ hf_ er_) (de_int)) (dw_and1 (dt_tru (de_callQ H__law_whole (roomQ (j := 1) hr rfl rfl (by decide)) takes0 (dag_val (de_xf (i := 2) T.xf_index hz_ hf_ er_) (dag_nil)) (many_val (many_nil))))))) (de_str) (de_str)))) (.nil))))
  (dss_one (ds_ret (de_str)))
abbrev s_law : Stmt := top 43
def N_law : List Str := ["_law_script", "_law_hand_here", "_law_turn", "_law_hops", "_law_due", "_law_kept", "_law_given", "_law_offsets", "_law_hop_here", "_law_spoilt_here", "_law_bad", "_law_at", "_law_k"]
theorem sc_law : FnScope N_law ["_law_script"] (defScope s_law) := ⟨rfl, rfl, rfl, by decide +kernel, rfl, by decide +kernel, by decide +kernel⟩
theorem k_law (T : Txt K mg C) (K__law_hand : Fk P w K mg base C "_law_hand" 1 1 m__law_hand) (K__law_walked : Fk P w K mg base C "_law_walked" 2 6 m__law_walked) (K__law_sevens : Fk P w K mg base C "_law_sevens" 2 4 m__law_sevens) (K__law_hop : Fk P w K mg base C "_law_hop" 1 4 m__law_hop) (K__law_spoilt : Fk P w K mg base C "_law_spoilt" 2 4 m__law_spoilt) (K__law_bad_hop : Fk P w K mg base C "_law_bad_hop" 1 4 m__law_bad_hop) (K__law_take : Fk P w K mg base C "_law_take" 2 2 m__law_take) (K__law_led_refused : Fk P w K mg base C "_law_led_refused" 1 4 m__law_led_refused) (K__law_same_shape : Fk P w K mg base C "_law_same_shape" 1 5 m__law_same_shape) (K__law_lead_refused : Fk P w K mg base C "_law_lead_refused" 2 5 m__law_lead_refused) (K__law_pick : Fk P w K mg base C "_law_pick" 2 3 m__law_pick) (K_led_by : Fk P w K mg base C "led_by" 1 3 m_led_by) (K_lead_sevens : Fk P w K mg base C "lead_sevens" 2 4 m_lead_sevens) (K__law_hopped : Fk P w K mg base C "_law_hopped" 2 3 m__law_hopped) (K__law_shape : Fk P w K mg base C "_law_shape" 1 3 m__law_shape) : FnOk P w K mg base (L2.CX P w) 7 T.d_law.f T.d_law.fd ["_law_script"] (spF K C 1 m_law) := fnok_of T.d_law sc_law [] (by decide) fun f cdv A outer s H E ad hr =>
  dss_cons (ds_own (i := 1) sc_law.nd (df_call (K__law_hand.callee (hr.mono (by decide))) (takes_of rfl rfl rfl rfl) (dag_val (de_var 0) (dag_nil)) (many_val (many_nil))))
  (dss_cons (ds_for (passes_of rfl) rfl (di_rng1 rfl T.b_range (de_int)) (dg_name (i := 2) sc_law.nd rfl (by first | exact Or.inl rfl | exact Or.inr rfl) rfl) (dss_cons (ds_setLc (i := 3) (own := [("_law_k", 12)]) (sl := [12]) rfl sc_law.nd (di_rng1 rfl T.b_range (de_call (K__law_take.callee (hr.mono (by decide))) (takes_of rfl rfl rfl rfl) (dag_io 1 (dag_val (de_int) (dag_nil))) (many_io (many_val (many_nil))))) (blkOk_by (N := N_law) (sc := defScope s_law) (by decide +kernel)) (by decide) (fun _ _ _ _ _ => dg_name (i := 12) sc_law.nd rfl (by first | exact Or.inl rfl | exact Or.inr rfl) rfl) (fun _ _ _ _ _ => dts_nil) (fun _ _ _ _ _ => de_call (K__law_hop.callee (hr.mono (by decide))) takes0 (dag_io 1 (dag_nil)) (many_io (many_nil))) (sw_true rfl rfl rfl (by decide +kernel)))
  (dss_cons (ds_set (i := 4) sc_law.nd (de_call (K__law_walked.callee (hr.mono (by decide))) (takes_of rfl rfl rfl rfl) (dag_io 1 (dag_val (de_var 3) (dag_nil))) (many_io (many_val (many_nil)))))
  (dss_cons (ds_set (i := 5) sc_law.nd (de_T call_list_of vb_list rfl T.b_list (by decide +kernel) (da_cons (de_var 3) (da_nil))))
  (dss_cons (ds_set (i := 6) sc_law.nd (de_if (dt_c .eq (hu65 hr) (de_var 2) (de_int)) (de_var 3) (de_T call_tuple_of vb_tuple rfl T.b_tuple (by decide +kernel) (da_cons (de_var 3) (da_nil)))))
  (dss_cons (ds_if (dt_w (dw_or (dt_c .isN (hu65 hr) (de_var 4) (de_non)) (dw_or (dt_c .ne (hu65 hr) (de_call (K_led_by.callee (hr.mono (by decide))) (takes_of rfl rfl rfl rfl) (dag_val (de_var 6) (dag_nil)) (many_val (many_nil))) (de_var 4)) (dw_or1 (dt_c .ne (hu65 hr) (de_T call_list_of vb_list rfl T.b_list (by decide +kernel) (da_cons (de_var 6) (da_nil))) (de_var 5)))))) (dss_one (ds_ret (de_bl))) (dss_nil))
  (dss_cons (ds_set (i := 7) sc_law.nd (de_call (K__law_sevens.callee (hr.mono (by decide))) (takes_of rfl rfl rfl rfl) (dag_io 1 (dag_val (de_pow (de_int) (de_int)) (dag_nil))) (many_io (many_val (many_nil)))))
  (dss_cons (ds_set (i := 8) sc_law.nd (de_call (K__law_hop.callee (hr.mono (by decide))) (takes_of rfl rfl rfl rfl) (dag_io 1 (dag_nil)) (many_io (many_nil))))
  (dss_cons (ds_if (dt_w (dw_or (dt_not (dt_tru (de_call (K__law_same_shape.callee (hr.mono (by decide))) (takes_of rfl rfl rfl rfl) (dag_val (de_var 7) (dag_nil)) (many_val (many_nil))))) (dw_or1 (dt_c .ne (hu65 hr) (de_call (K_lead_sevens.callee (hr.mono (by decide))) (takes_of rfl rfl rfl rfl) (dag_val (de_var 7) (dag_val (de_var 8) (dag_nil))) (many_val (many_val (many_nil)))) (de_call (K__law_hopped.callee (hr.mono (by decide))) (takes_of rfl rfl rfl rfl) (dag_val (de_var 7) (dag_val (de_var 8) (dag_nil))) (many_val (many_val (many_nil)))))))) (dss_one (ds_ret (de_bl))) (dss_nil))
  (dss_cons (ds_set (i := 9) sc_law.nd (de_call (K__law_spoilt.callee (hr.mono (by decide))) (takes_of rfl rfl rfl rfl) (dag_io 1 (dag_val (de_var 7) (dag_nil))) (many_io (many_val (many_nil)))))
  (dss_cons (ds_set (i := 10) sc_law.nd (de_call (K__law_bad_hop.callee (hr.mono (by decide))) (takes_of rfl rfl rfl rfl) (dag_io 1 (dag_nil)) (many_io (many_nil))))
  (dss_cons (ds_if (dt_not (dt_tru (de_call (K__law_same_shape.callee (hr.mono (by decide))) (takes_of rfl rfl rfl rfl) (dag_val (de_var 9) (dag_nil)) (many_val (many_nil))))) (dss_one (ds_ret (de_bl))) (dss_nil))
  (dss_cons (ds_if (dt_w (dw_and (dt_c .isN (hu65 hr) (de_call (K__law_shape.callee (hr.mono (by decide))) (takes_of rfl rfl rfl rfl) (dag_val (de_var 9) (dag_nil)) (many_val (many_nil))) (de_non)) (dw_and1 (dt_c .ne (hu65 hr) (de_call (K__law_lead_refused.callee (hr.mono (by decide))) (takes_of rfl rfl rfl rfl) (dag_val (de_var 9) (dag_val (de_call (K__law_pick.callee (hr.mono (by decide))) (takes_of rfl rfl rfl rfl) (dag_io 1 (dag_val (de_list (da_cons (de_var 8) (da_cons (de_var 10) (da_nil)))) (dag_nil))) (many_io (many_val (many_nil)))) (dag_nil))) (many_val (many_val (many_nil)))) (de_str))))) (dss_one (ds_ret (de_bl))) (dss_nil))
  (dss_cons (ds_if (dt_c .ne (hu65 hr) (de_call (K__law_lead_refused.callee (hr.mono (by decide))) (takes_of rfl rfl rfl rfl) (dag_val (de_var 7) (dag_val (de_var 10) (dag_nil))) (many_val (many_val (many_nil)))) (de_str)) (dss_one (ds_ret (de_bl))) (dss_nil))
  (dss_cons (ds_set (i := 11) sc_law.nd (de_call (K__law_take.callee (hr.mono (by decide))) (takes_of rfl rfl rfl rfl) (dag_io 1 (dag_val (de_add (de_B cr_lenS vb_len rfl T.b_len (by decide +kernel) (da_cons (de_var 3) (da_nil))) (de_int)) (dag_nil))) (many_io (many_val (many_nil)))))
  (dss_one (ds_if (dt_c .ne (hu65 hr) (de_call (K__law_led_refused.callee (hr.mono (by decide))) (takes_of rfl rfl rfl rfl) (dag_val (de_add (de_add (de_add (de_sl (de_var 3) (do_none) (do_some (de_var 11))) (de_list (da_cons (de_var 10) (da_nil)))) (de_sl (de_var 3) (do_some (de_var 11)) (do_none))) (de_list (da_cons (de_var 10) (da_nil)))) (dag_nil)) (many_val (many_nil))) (de_var 11)) (dss_one (ds_ret (de_bl))) (dss_nil))))))))))))))))))
  (dss_one (ds_ret (de_c .eq (hu65 hr) (de_call (K__law_led_refused.callee (hr.mono (by decide))) (takes_of rfl rfl rfl rfl) (dag_val (de_call (K__law_pick.callee (hr.mono (by decide))) (takes_of rfl rfl rfl rfl) (dag_io 1 (dag_val (de_list (da_cons (de_non) (da_cons (de_int) (da_cons (de_str) (da_nil))))) (dag_nil))) (many_io (many_val (many_nil)))) (dag_nil)) (many_val (many_nil))) (de_int)))))
abbrev s_BadHop : Stmt := inClass (top 3) 0
theorem sc_BadHop : ScS ["self", "index"] (defScope s_BadHop) := ⟨rfl, rfl, rfl, by decide +kernel, by decide +kernel, by decide +kernel, by decide +kernel, rfl, rfl⟩
theorem k_BadHop (T : Txt K mg C) (hP : P = PySem.Challenge.pw_whosetomorrow_k20_whole_sevens_are_even) : ExI P w K mg base (C 2) "BadHop" ["index"] 1 := by
  subst hP
  exact exi_sup T.x_BadHop T.xo_BadHop T.d_BadHop sc_BadHop rfl rfl rfl (ta := tCons (tC (.str "hop")) tNil) (fun σ H => ⟨rfl, by decide⟩) (fun f cda cc A outer s H E => pa_cons pe_str pa_nil) (fun _ _ _ _ _ _ _ _ => rfl) (fun _ => rfl) (fun _ => rfl) (fun _ _ _ _ => ⟨rfl, rfl⟩) (fun f cda cc A outer s H vs Q E h => ⟨_, pss_cons (ps_ost (pe_var (i := 0) rfl (Or.inl rfl)) (pe_var (i := 1) rfl (Or.inl rfl))) (pss_nil), init_n1 T.xo_BadHop T.xh_BadHop_index rfl h⟩)
theorem k_all (T : Txt K mg C) (hP : P = PySem.Challenge.pw_whosetomorrow_k20_whole_sevens_are_even) : FnOk P w K mg base (L2.CX P w) 7 T.d_law.f T.d_law.fd ["_law_script"] (spF K C 1 m_law) := by
  have X_BadHop : ExI P w K mg base (C 2) "BadHop" ["index"] 1 := k_BadHop T hP
  have H__law_whole : FkQ P w K mg base C "_law_whole" 1 1 m__law_whole := h__law_whole T
  have K__law_hand : Fk P w K mg base C "_law_hand" 1 1 m__law_hand := k__law_hand T
  have K_even_sevens : Fk P w K mg base C "even_sevens" 1 1 m_even_sevens := k_even_sevens T
  have K__law_even : Fk P w K mg base C "_law_even" 1 1 m__law_even := k__law_even T
  have K__law_coming : Fk P w K mg base C "_law_coming" 2 1 m__law_coming := k__law_coming T
  have K__law_last : Fk P w K mg base C "_law_last" 2 1 m__law_last := k__law_last T
  have K__law_counted : Fk P w K mg base C "_law_counted" 2 2 m__law_counted := k__law_counted T K__law_coming K__law_last
  have K__law_hopped : Fk P w K mg base C "_law_hopped" 2 3 m__law_hopped := k__law_hopped T K__law_counted
  have K_days_ahead : Fk P w K mg base C "days_ahead" 2 1 m_days_ahead := k_days_ahead T
  have K_saw_sevens : Fk P w K mg base C "saw_sevens" 2 2 m_saw_sevens := k_saw_sevens T K_days_ahead
  have K_is_whole : Fk P w K mg base C "is_whole" 1 1 m_is_whole := k_is_whole T
  have K_shape_of_sevens : Fk P w K mg base C "shape_of_sevens" 1 3 m_shape_of_sevens := k_shape_of_sevens T K_saw_sevens K_is_whole
  have K_days_back : Fk P w K mg base C "days_back" 2 1 m_days_back := k_days_back T
  have K_lead_by_one : Fk P w K mg base C "lead_by_one" 2 2 m_lead_by_one := k_lead_by_one T K_days_back K_days_ahead
  have K_is_hop : Fk P w K mg base C "is_hop" 1 2 m_is_hop := k_is_hop T K_is_whole
  have K_lead_sevens : Fk P w K mg base C "lead_sevens" 2 4 m_lead_sevens := k_lead_sevens T K_shape_of_sevens K_lead_by_one K_is_hop X_BadHop
  have K__law_whole : Fk P w K mg base C "_law_whole" 1 1 m__law_whole := k__law_whole T
  have K__law_saw : Fk P w K mg base C "_law_saw" 2 2 m__law_saw := k__law_saw T K__law_coming
  have K__law_shape : Fk P w K mg base C "_law_shape" 1 3 m__law_shape := k__law_shape T K__law_even K__law_whole K__law_saw
  have K__law_asked : Fk P w K mg base C "_law_asked" 1 4 m__law_asked := k__law_asked T K_shape_of_sevens
  have K__law_made_by : Fk P w K mg base C "_law_made_by" 1 3 m__law_made_by := k__law_made_by T K_even_sevens K_saw_sevens
  have K__law_same_shape : Fk P w K mg base C "_law_same_shape" 1 5 m__law_same_shape := k__law_same_shape T K__law_shape K__law_asked K__law_made_by K__law_whole
  have K__law_walked : Fk P w K mg base C "_law_walked" 2 6 m__law_walked := k__law_walked T K_even_sevens K__law_even K__law_hopped K_lead_sevens K__law_same_shape
  have K__law_mixed : Fk P w K mg base C "_law_mixed" 2 1 m__law_mixed := k__law_mixed T
  have K__law_take : Fk P w K mg base C "_law_take" 2 2 m__law_take := k__law_take T K__law_mixed
  have K__law_far : Fk P w K mg base C "_law_far" 2 3 m__law_far := k__law_far T K__law_take
  have K__law_sevens : Fk P w K mg base C "_law_sevens" 2 4 m__law_sevens := k__law_sevens T K__law_saw K__law_take K__law_even K__law_far
  have K__law_step : Fk P w K mg base C "_law_step" 1 3 m__law_step := k__law_step T K__law_take
  have K__law_hop : Fk P w K mg base C "_law_hop" 1 4 m__law_hop := k__law_hop T K__law_take K__law_step
  have K__law_pick : Fk P w K mg base C "_law_pick" 2 3 m__law_pick := k__law_pick T K__law_take
  have K__law_spoilt : Fk P w K mg base C "_law_spoilt" 2 4 m__law_spoilt := k__law_spoilt T K__law_take K__law_pick
  have K__law_bad_hop : Fk P w K mg base C "_law_bad_hop" 1 4 m__law_bad_hop := k__law_bad_hop T K__law_take K__law_pick
  have K_led_by : Fk P w K mg base C "led_by" 1 3 m_led_by := k_led_by T K_even_sevens K_lead_by_one K_is_hop X_BadHop
  have K__law_led_refused : Fk P w K mg base C "_law_led_refused" 1 4 m__law_led_refused := k__law_led_refused T K_led_by
  have K__law_lead_refused : Fk P w K mg base C "_law_lead_refused" 2 5 m__law_lead_refused := k__law_lead_refused T K_lead_sevens K__law_whole H__law_whole
  exact k_law T K__law_hand K__law_walked K__law_sevens K__law_hop K__law_spoilt K__law_bad_hop K__law_take K__law_led_refused K__law_same_shape K__law_lead_refused K__law_pick K_led_by K_lead_sevens K__law_hopped K__law_shape
end
end L20
set_option Elab.async false
set_option linter.all false
set_option maxRecDepth 100000
set_option maxHeartbeats 8000000
namespace L20
open PySem PySem.Spec L2 Rf
theorem sub_all {P : Nat → Nat → Bool → Prop} (h0 : P 1 1 true) (h1 : P 1 2 false) (h2 : P 2 1 false) (h3 : P 2 2 true) : ∀ i j b, subT i j = some b → P i j b := by
  intro i j b e
  unfold subT at e
  split at e
  · rename_i h; obtain ⟨rfl, rfl⟩ := h; cases e; exact h0
  split at e
  · rename_i h; obtain ⟨rfl, rfl⟩ := h; cases e; exact h1
  split at e
  · rename_i h; obtain ⟨rfl, rfl⟩ := h; cases e; exact h2
  split at e
  · rename_i h; obtain ⟨rfl, rfl⟩ := h; cases e; exact h3
  cases e
theorem txt_mk {K : PySem.W.Frag} {h : Heap} {mg : Str → Option Value} (X : K.In h) (G : h.Ns mainGlobals mg) {C0 C1 C2 C3 : Addr} {t_MOST_PLUS_0 : Tok}
    {N2 : Addr} {nm2 q2 : Str} {bs2 bm2 : List Value} {sn2 : List Str} {su2 : List Value} {ab2 : Bool} {col2 : Option Bool} {dd2 : Option Addr} {ka2 kb2 kc2 kd2 ke2 : Option Value}
    {f19 : Addr} {od19 an19 : Option Addr} {sl19 : Array (Option Value)} {oc19 kV19 dc19 pm19 cd19 ct19 : Value}
    {f9 : Addr} {od9 an9 : Option Addr} {sl9 : Array (Option Value)} {oc9 kV9 dc9 pm9 cd9 ct9 : Value}
    {f28 : Addr} {od28 an28 : Option Addr} {sl28 : Array (Option Value)} {oc28 kV28 dc28 pm28 cd28 ct28 : Value}
    {f23 : Addr} {od23 an23 : Option Addr} {sl23 : Array (Option Value)} {oc23 kV23 dc23 pm23 cd23 ct23 : Value}
    {f24 : Addr} {od24 an24 : Option Addr} {sl24 : Array (Option Value)} {oc24 kV24 dc24 pm24 cd24 ct24 : Value}
    {f25 : Addr} {od25 an25 : Option Addr} {sl25 : Array (Option Value)} {oc25 kV25 dc25 pm25 cd25 ct25 : Value}
    {f32 : Addr} {od32 an32 : Option Addr} {sl32 : Array (Option Value)} {oc32 kV32 dc32 pm32 cd32 ct32 : Value}
    {f11 : Addr} {od11 an11 : Option Addr} {sl11 : Array (Option Value)} {oc11 kV11 dc11 pm11 cd11 ct11 : Value}
    {f10 : Addr} {od10 an10 : Option Addr} {sl10 : Array (Option Value)} {oc10 kV10 dc10 pm10 cd10 ct10 : Value}
    {f6 : Addr} {od6 an6 : Option Addr} {sl6 : Array (Option Value)} {oc6 kV6 dc6 pm6 cd6 ct6 : Value}
    {f13 : Addr} {od13 an13 : Option Addr} {sl13 : Array (Option Value)} {oc13 kV13 dc13 pm13 cd13 ct13 : Value}
    {f12 : Addr} {od12 an12 : Option Addr} {sl12 : Array (Option Value)} {oc12 kV12 dc12 pm12 cd12 ct12 : Value}
    {f16 : Addr} {od16 an16 : Option Addr} {sl16 : Array (Option Value)} {oc16 kV16 dc16 pm16 cd16 ct16 : Value}
    {f14 : Addr} {od14 an14 : Option Addr} {sl14 : Array (Option Value)} {oc14 kV14 dc14 pm14 cd14 ct14 : Value}
    {f15 : Addr} {od15 an15 : Option Addr} {sl15 : Array (Option Value)} {oc15 kV15 dc15 pm15 cd15 ct15 : Value}
    {f26 : Addr} {od26 an26 : Option Addr} {sl26 : Array (Option Value)} {oc26 kV26 dc26 pm26 cd26 ct26 : Value}
    {f29 : Addr} {od29 an29 : Option Addr} {sl29 : Array (Option Value)} {oc29 kV29 dc29 pm29 cd29 ct29 : Value}
    {f30 : Addr} {od30 an30 : Option Addr} {sl30 : Array (Option Value)} {oc30 kV30 dc30 pm30 cd30 ct30 : Value}
    {f36 : Addr} {od36 an36 : Option Addr} {sl36 : Array (Option Value)} {oc36 kV36 dc36 pm36 cd36 ct36 : Value}
    {f35 : Addr} {od35 an35 : Option Addr} {sl35 : Array (Option Value)} {oc35 kV35 dc35 pm35 cd35 ct35 : Value}
    {f37 : Addr} {od37 an37 : Option Addr} {sl37 : Array (Option Value)} {oc37 kV37 dc37 pm37 cd37 ct37 : Value}
    {f42 : Addr} {od42 an42 : Option Addr} {sl42 : Array (Option Value)} {oc42 kV42 dc42 pm42 cd42 ct42 : Value}
    {f20 : Addr} {od20 an20 : Option Addr} {sl20 : Array (Option Value)} {oc20 kV20 dc20 pm20 cd20 ct20 : Value}
    {f21 : Addr} {od21 an21 : Option Addr} {sl21 : Array (Option Value)} {oc21 kV21 dc21 pm21 cd21 ct21 : Value}
    {f33 : Addr} {od33 an33 : Option Addr} {sl33 : Array (Option Value)} {oc33 kV33 dc33 pm33 cd33 ct33 : Value}
    {f34 : Addr} {od34 an34 : Option Addr} {sl34 : Array (Option Value)} {oc34 kV34 dc34 pm34 cd34 ct34 : Value}
    {f22 : Addr} {od22 an22 : Option Addr} {sl22 : Array (Option Value)} {oc22 kV22 dc22 pm22 cd22 ct22 : Value}
    {f31 : Addr} {od31 an31 : Option Addr} {sl31 : Array (Option Value)} {oc31 kV31 dc31 pm31 cd31 ct31 : Value}
    {f27 : Addr} {od27 an27 : Option Addr} {sl27 : Array (Option Value)} {oc27 kV27 dc27 pm27 cd27 ct27 : Value}
    {f38 : Addr} {od38 an38 : Option Addr} {sl38 : Array (Option Value)} {oc38 kV38 dc38 pm38 cd38 ct38 : Value}
    {f39 : Addr} {od39 an39 : Option Addr} {sl39 : Array (Option Value)} {oc39 kV39 dc39 pm39 cd39 ct39 : Value}
    {f17 : Addr} {od17 an17 : Option Addr} {sl17 : Array (Option Value)} {oc17 kV17 dc17 pm17 cd17 ct17 : Value}
    {f40 : Addr} {od40 an40 : Option Addr} {sl40 : Array (Option Value)} {oc40 kV40 dc40 pm40 cd40 ct40 : Value}
    {f41 : Addr} {od41 an41 : Option Addr} {sl41 : Array (Option Value)} {oc41 kV41 dc41 pm41 cd41 ct41 : Value}
    {f43 : Addr} {od43 an43 : Option Addr} {sl43 : Array (Option Value)} {oc43 kV43 dc43 pm43 cd43 ct43 : Value}
    {f2_x cda2_x cc2_x : Addr} {od2_x an2_x cdd2_x cld2_x : Option Addr} {sl2_x ccs2_x csl2_x : Array (Option Value)} {oc2_x kV2_x dc2_x pm2_x ct2_x ccl2_x cl2_x : Value} {cvs2_x : Array Value} {file2_x : Str} {tf2_x : Tok}
    (zb_all : PySem.W.nsIn K mainGlobals "all" = some none)
    (zb_bool : PySem.W.nsIn K mainGlobals "bool" = some none)
    (zb_enumerate : PySem.W.nsIn K mainGlobals "enumerate" = some none)
    (zb_int : PySem.W.nsIn K mainGlobals "int" = some none)
    (zb_isinstance : PySem.W.nsIn K mainGlobals "isinstance" = some none)
    (zb_len : PySem.W.nsIn K mainGlobals "len" = some none)
    (zb_list : PySem.W.nsIn K mainGlobals "list" = some none)
    (zb_max : PySem.W.nsIn K mainGlobals "max" = some none)
    (zb_min : PySem.W.nsIn K mainGlobals "min" = some none)
    (zb_range : PySem.W.nsIn K mainGlobals "range" = some none)
    (zb_reversed : PySem.W.nsIn K mainGlobals "reversed" = some none)
    (zb_tuple : PySem.W.nsIn K mainGlobals "tuple" = some none)
    (xa0 : PySem.W.nsIn K mainGlobals "TalkError" = some (some (.ref C0)))
    (xk0 : PySem.W.keepIn K (.ref C0) = true)
    (xb0 : PySem.W.subIn K (.ref C0) (.type "BaseException") = some true)
    (xt0 : PySem.W.typeIn K (.ref C0) = some (.type "type"))
    (xi0 : PySem.W.isClsIn K C0 = true)
    (xa1 : PySem.W.nsIn K mainGlobals "BadSevens" = some (some (.ref C1)))
    (xq1 : PySem.W.excIn K C1 PySem.HandSPX.veTail "ValueError.__new__" = true)
    (xk1 : PySem.W.keepIn K (.ref C1) = true)
    (xb1 : PySem.W.subIn K (.ref C1) (.type "BaseException") = some true)
    (xt1 : PySem.W.typeIn K (.ref C1) = some (.type "type"))
    (xi1 : PySem.W.isClsIn K C1 = true)
    (xa2 : PySem.W.nsIn K mainGlobals "BadHop" = some (some (.ref C2)))
    (xk2 : PySem.W.keepIn K (.ref C2) = true)
    (xb2 : PySem.W.subIn K (.ref C2) (.type "BaseException") = some true)
    (xt2 : PySem.W.typeIn K (.ref C2) = some (.type "type"))
    (xi2 : PySem.W.isClsIn K C2 = true)
    (xl2 : K.lookup C2 = some (excClassObj nm2 q2 C2 N2 bs2 bm2 true sn2 su2 ab2 col2 dd2 ka2 kb2 kc2 kd2 ke2 "ValueError.__new__"))
    (xr2 : PySem.HandSPX.refsVE bm2 = true)
    (xs2 : PySem.W.findIn K (.ref C2) "__setattr__" = some (some (.builtin "object.__setattr__")))
    (xh2_index : PySem.W.findIn K (.ref C2) "index" = some none)
    (xa3 : PySem.W.nsIn K mainGlobals "BadTerm" = some (some (.ref C3)))
    (xk3 : PySem.W.keepIn K (.ref C3) = true)
    (xb3 : PySem.W.subIn K (.ref C3) (.type "BaseException") = some true)
    (xt3 : PySem.W.typeIn K (.ref C3) = some (.type "type"))
    (xi3 : PySem.W.isClsIn K C3 = true)
    (ya1 : PySem.W.findIn K (.ref C1) "__getattribute__" = some (some (.builtin "BaseException.__getattribute__")))
    (yg1 : PySem.W.findIn K (.ref C1) "__getattr__" = some none)
    (yd1 : PySem.W.hasDictIn K C1 = true)
    (yc1 : PySem.W.findIn K (.ref C1) "__class__" = some (some (.builtin "object.__class__")))
    (ym1 : PySem.W.mroIn K C1 (.type "object") = some true)
    (ya2 : PySem.W.findIn K (.ref C2) "__getattribute__" = some (some (.builtin "BaseException.__getattribute__")))
    (yg2 : PySem.W.findIn K (.ref C2) "__getattr__" = some none)
    (yd2 : PySem.W.hasDictIn K C2 = true)
    (yc2 : PySem.W.findIn K (.ref C2) "__class__" = some (some (.builtin "object.__class__")))
    (ym2 : PySem.W.mroIn K C2 (.type "object") = some true)
    (zs : PySem.W.specialIn K (.builtin "object.__class__") "__get__" = some (some (.builtin "getset_descriptor.__get__")))
    (zt : PySem.W.takesIn K (.builtin "object.__class__") = some true)
    (yi1_BadTerm : PySem.W.kitOne K (.ref C1) (.ref C3) = some false)
    (yi2_BadTerm : PySem.W.kitOne K (.ref C2) (.ref C3) = some false)
    (yi1_TalkError : PySem.W.kitOne K (.ref C1) (.ref C0) = some true)
    (yi2_TalkError : PySem.W.kitOne K (.ref C2) (.ref C0) = some true)
    (xs1_1 : PySem.W.subIn K (.ref C1) (.ref C1) = some true)
    (xs1_2 : PySem.W.subIn K (.ref C1) (.ref C2) = some false)
    (xs2_1 : PySem.W.subIn K (.ref C2) (.ref C1) = some false)
    (xs2_2 : PySem.W.subIn K (.ref C2) (.ref C2) = some true)
    (gc_MOST_PLUS : PySem.W.nsIn K mainGlobals "MOST_PLUS" = some (some (.int 30 t_MOST_PLUS_0)))
    (a19 : PySem.W.nsIn K mainGlobals "_law_hand" = some (some (.ref f19)))
    (l19 : K.lookup f19 = some ⟨oc19, od19, .func (PySem.W.fnOf "_law_hand" "_law_hand" (defArgs (top 19)) (defBody (top 19)) (defScope (top 19)) .none kV19 dc19 pm19 an19 cd19 ct19), sl19⟩)
    (c19 : PySem.W.codeIn K cd19 "_law_hand" = true)
    (k19 : PySem.W.keepIn K (.ref f19) = true)
    (a9 : PySem.W.nsIn K mainGlobals "even_sevens" = some (some (.ref f9)))
    (l9 : K.lookup f9 = some ⟨oc9, od9, .func (PySem.W.fnOf "even_sevens" "even_sevens" (defArgs (top 9)) (defBody (top 9)) (defScope (top 9)) .none kV9 dc9 pm9 an9 cd9 ct9), sl9⟩)
    (c9 : PySem.W.codeIn K cd9 "even_sevens" = true)
    (k9 : PySem.W.keepIn K (.ref f9) = true)
    (a28 : PySem.W.nsIn K mainGlobals "_law_even" = some (some (.ref f28)))
    (l28 : K.lookup f28 = some ⟨oc28, od28, .func (PySem.W.fnOf "_law_even" "_law_even" (defArgs (top 28)) (defBody (top 28)) (defScope (top 28)) .none kV28 dc28 pm28 an28 cd28 ct28), sl28⟩)
    (c28 : PySem.W.codeIn K cd28 "_law_even" = true)
    (k28 : PySem.W.keepIn K (.ref f28) = true)
    (a23 : PySem.W.nsIn K mainGlobals "_law_coming" = some (some (.ref f23)))
    (l23 : K.lookup f23 = some ⟨oc23, od23, .func (PySem.W.fnOf "_law_coming" "_law_coming" (defArgs (top 23)) (defBody (top 23)) (defScope (top 23)) .none kV23 dc23 pm23 an23 cd23 ct23), sl23⟩)
    (c23 : PySem.W.codeIn K cd23 "_law_coming" = true)
    (k23 : PySem.W.keepIn K (.ref f23) = true)
    (a24 : PySem.W.nsIn K mainGlobals "_law_last" = some (some (.ref f24)))
    (l24 : K.lookup f24 = some ⟨oc24, od24, .func (PySem.W.fnOf "_law_last" "_law_last" (defArgs (top 24)) (defBody (top 24)) (defScope (top 24)) .none kV24 dc24 pm24 an24 cd24 ct24), sl24⟩)
    (c24 : PySem.W.codeIn K cd24 "_law_last" = true)
    (k24 : PySem.W.keepIn K (.ref f24) = true)
    (a25 : PySem.W.nsIn K mainGlobals "_law_counted" = some (some (.ref f25)))
    (l25 : K.lookup f25 = some ⟨oc25, od25, .func (PySem.W.fnOf "_law_counted" "_law_counted" (defArgs (top 25)) (defBody (top 25)) (defScope (top 25)) .none kV25 dc25 pm25 an25 cd25 ct25), sl25⟩)
    (c25 : PySem.W.codeIn K cd25 "_law_counted" = true)
    (k25 : PySem.W.keepIn K (.ref f25) = true)
    (a32 : PySem.W.nsIn K mainGlobals "_law_hopped" = some (some (.ref f32)))
    (l32 : K.lookup f32 = some ⟨oc32, od32, .func (PySem.W.fnOf "_law_hopped" "_law_hopped" (defArgs (top 32)) (defBody (top 32)) (defScope (top 32)) .none kV32 dc32 pm32 an32 cd32 ct32), sl32⟩)
    (c32 : PySem.W.codeIn K cd32 "_law_hopped" = true)
    (k32 : PySem.W.keepIn K (.ref f32) = true)
    (a11 : PySem.W.nsIn K mainGlobals "days_ahead" = some (some (.ref f11)))
    (l11 : K.lookup f11 = some ⟨oc11, od11, .func (PySem.W.fnOf "days_ahead" "days_ahead" (defArgs (top 11)) (defBody (top 11)) (defScope (top 11)) .none kV11 dc11 pm11 an11 cd11 ct11), sl11⟩)
    (c11 : PySem.W.codeIn K cd11 "days_ahead" = true)
    (k11 : PySem.W.keepIn K (.ref f11) = true)
    (a10 : PySem.W.nsIn K mainGlobals "saw_sevens" = some (some (.ref f10)))
    (l10 : K.lookup f10 = some ⟨oc10, od10, .func (PySem.W.fnOf "saw_sevens" "saw_sevens" (defArgs (top 10)) (defBody (top 10)) (defScope (top 10)) .none kV10 dc10 pm10 an10 cd10 ct10), sl10⟩)
    (c10 : PySem.W.codeIn K cd10 "saw_sevens" = true)
    (k10 : PySem.W.keepIn K (.ref f10) = true)
    (a6 : PySem.W.nsIn K mainGlobals "is_whole" = some (some (.ref f6)))
    (l6 : K.lookup f6 = some ⟨oc6, od6, .func (PySem.W.fnOf "is_whole" "is_whole" (defArgs (top 6)) (defBody (top 6)) (defScope (top 6)) .none kV6 dc6 pm6 an6 cd6 ct6), sl6⟩)
    (c6 : PySem.W.codeIn K cd6 "is_whole" = true)
    (k6 : PySem.W.keepIn K (.ref f6) = true)
    (a13 : PySem.W.nsIn K mainGlobals "shape_of_sevens" = some (some (.ref f13)))
    (l13 : K.lookup f13 = some ⟨oc13, od13, .func (PySem.W.fnOf "shape_of_sevens" "shape_of_sevens" (defArgs (top 13)) (defBody (top 13)) (defScope (top 13)) .none kV13 dc13 pm13 an13 cd13 ct13), sl13⟩)
    (c13 : PySem.W.codeIn K cd13 "shape_of_sevens" = true)
    (k13 : PySem.W.keepIn K (.ref f13) = true)
    (a12 : PySem.W.nsIn K mainGlobals "days_back" = some (some (.ref f12)))
    (l12 : K.lookup f12 = some ⟨oc12, od12, .func (PySem.W.fnOf "days_back" "days_back" (defArgs (top 12)) (defBody (top 12)) (defScope (top 12)) .none kV12 dc12 pm12 an12 cd12 ct12), sl12⟩)
    (c12 : PySem.W.codeIn K cd12 "days_back" = true)
    (k12 : PySem.W.keepIn K (.ref f12) = true)
    (a16 : PySem.W.nsIn K mainGlobals "lead_by_one" = some (some (.ref f16)))
    (l16 : K.lookup f16 = some ⟨oc16, od16, .func (PySem.W.fnOf "lead_by_one" "lead_by_one" (defArgs (top 16)) (defBody (top 16)) (defScope (top 16)) .none kV16 dc16 pm16 an16 cd16 ct16), sl16⟩)
    (c16 : PySem.W.codeIn K cd16 "lead_by_one" = true)
    (k16 : PySem.W.keepIn K (.ref f16) = true)
    (a14 : PySem.W.nsIn K mainGlobals "is_hop" = some (some (.ref f14)))
    (l14 : K.lookup f14 = some ⟨oc14, od14, .func (PySem.W.fnOf "is_hop" "is_hop" (defArgs (top 14)) (defBody (top 14)) (defScope (top 14)) .none kV14 dc14 pm14 an14 cd14 ct14), sl14⟩)
    (c14 : PySem.W.codeIn K cd14 "is_hop" = true)
    (k14 : PySem.W.keepIn K (.ref f14) = true)
    (a15 : PySem.W.nsIn K mainGlobals "lead_sevens" = some (some (.ref f15)))
    (l15 : K.lookup f15 = some ⟨oc15, od15, .func (PySem.W.fnOf "lead_sevens" "lead_sevens" (defArgs (top 15)) (defBody (top 15)) (defScope (top 15)) .none kV15 dc15 pm15 an15 cd15 ct15), sl15⟩)
    (c15 : PySem.W.codeIn K cd15 "lead_sevens" = true)
    (k15 : PySem.W.keepIn K (.ref f15) = true)
    (a26 : PySem.W.nsIn K mainGlobals "_law_whole" = some (some (.ref f26)))
    (l26 : K.lookup f26 = some ⟨oc26, od26, .func (PySem.W.fnOf "_law_whole" "_law_whole" (defArgs (top 26)) (defBody (top 26)) (defScope (top 26)) .none kV26 dc26 pm26 an26 cd26 ct26), sl26⟩)
    (c26 : PySem.W.codeIn K cd26 "_law_whole" = true)
    (k26 : PySem.W.keepIn K (.ref f26) = true)
    (a29 : PySem.W.nsIn K mainGlobals "_law_saw" = some (some (.ref f29)))
    (l29 : K.lookup f29 = some ⟨oc29, od29, .func (PySem.W.fnOf "_law_saw" "_law_saw" (defArgs (top 29)) (defBody (top 29)) (defScope (top 29)) .none kV29 dc29 pm29 an29 cd29 ct29), sl29⟩)
    (c29 : PySem.W.codeIn K cd29 "_law_saw" = true)
    (k29 : PySem.W.keepIn K (.ref f29) = true)
    (a30 : PySem.W.nsIn K mainGlobals "_law_shape" = some (some (.ref f30)))
    (l30 : K.lookup f30 = some ⟨oc30, od30, .func (PySem.W.fnOf "_law_shape" "_law_shape" (defArgs (top 30)) (defBody (top 30)) (defScope (top 30)) .none kV30 dc30 pm30 an30 cd30 ct30), sl30⟩)
    (c30 : PySem.W.codeIn K cd30 "_law_shape" = true)
    (k30 : PySem.W.keepIn K (.ref f30) = true)
    (a36 : PySem.W.nsIn K mainGlobals "_law_asked" = some (some (.ref f36)))
    (l36 : K.lookup f36 = some ⟨oc36, od36, .func (PySem.W.fnOf "_law_asked" "_law_asked" (defArgs (top 36)) (defBody (top 36)) (defScope (top 36)) .none kV36 dc36 pm36 an36 cd36 ct36), sl36⟩)
    (c36 : PySem.W.codeIn K cd36 "_law_asked" = true)
    (k36 : PySem.W.keepIn K (.ref f36) = true)
    (a35 : PySem.W.nsIn K mainGlobals "_law_made_by" = some (some (.ref f35)))
    (l35 : K.lookup f35 = some ⟨oc35, od35, .func (PySem.W.fnOf "_law_made_by" "_law_made_by" (defArgs (top 35)) (defBody (top 35)) (defScope (top 35)) .none kV35 dc35 pm35 an35 cd35 ct35), sl35⟩)
    (c35 : PySem.W.codeIn K cd35 "_law_made_by" = true)
    (k35 : PySem.W.keepIn K (.ref f35) = true)
    (a37 : PySem.W.nsIn K mainGlobals "_law_same_shape" = some (some (.ref f37)))
    (l37 : K.lookup f37 = some ⟨oc37, od37, .func (PySem.W.fnOf "_law_same_shape" "_law_same_shape" (defArgs (top 37)) (defBody (top 37)) (defScope (top 37)) .none kV37 dc37 pm37 an37 cd37 ct37), sl37⟩)
    (c37 : PySem.W.codeIn K cd37 "_law_same_shape" = true)
    (k37 : PySem.W.keepIn K (.ref f37) = true)
    (a42 : PySem.W.nsIn K mainGlobals "_law_walked" = some (some (.ref f42)))
    (l42 : K.lookup f42 = some ⟨oc42, od42, .func (PySem.W.fnOf "_law_walked" "_law_walked" (defArgs (top 42)) (defBody (top 42)) (defScope (top 42)) .none kV42 dc42 pm42 an42 cd42 ct42), sl42⟩)
    (c42 : PySem.W.codeIn K cd42 "_law_walked" = true)
    (k42 : PySem.W.keepIn K (.ref f42) = true)
    (a20 : PySem.W.nsIn K mainGlobals "_law_mixed" = some (some (.ref f20)))
    (l20 : K.lookup f20 = some ⟨oc20, od20, .func (PySem.W.fnOf "_law_mixed" "_law_mixed" (defArgs (top 20)) (defBody (top 20)) (defScope (top 20)) .none kV20 dc20 pm20 an20 cd20 ct20), sl20⟩)
    (c20 : PySem.W.codeIn K cd20 "_law_mixed" = true)
    (k20 : PySem.W.keepIn K (.ref f20) = true)
    (a21 : PySem.W.nsIn K mainGlobals "_law_take" = some (some (.ref f21)))
    (l21 : K.lookup f21 = some ⟨oc21, od21, .func (PySem.W.fnOf "_law_take" "_law_take" (defArgs (top 21)) (defBody (top 21)) (defScope (top 21)) .none kV21 dc21 pm21 an21 cd21 ct21), sl21⟩)
    (c21 : PySem.W.codeIn K cd21 "_law_take" = true)
    (k21 : PySem.W.keepIn K (.ref f21) = true)
    (a33 : PySem.W.nsIn K mainGlobals "_law_far" = some (some (.ref f33)))
    (l33 : K.lookup f33 = some ⟨oc33, od33, .func (PySem.W.fnOf "_law_far" "_law_far" (defArgs (top 33)) (defBody (top 33)) (defScope (top 33)) .none kV33 dc33 pm33 an33 cd33 ct33), sl33⟩)
    (c33 : PySem.W.codeIn K cd33 "_law_far" = true)
    (k33 : PySem.W.keepIn K (.ref f33) = true)
    (a34 : PySem.W.nsIn K mainGlobals "_law_sevens" = some (some (.ref f34)))
    (l34 : K.lookup f34 = some ⟨oc34, od34, .func (PySem.W.fnOf "_law_sevens" "_law_sevens" (defArgs (top 34)) (defBody (top 34)) (defScope (top 34)) .none kV34 dc34 pm34 an34 cd34 ct34), sl34⟩)
    (c34 : PySem.W.codeIn K cd34 "_law_sevens" = true)
    (k34 : PySem.W.keepIn K (.ref f34) = true)
    (a22 : PySem.W.nsIn K mainGlobals "_law_step" = some (some (.ref f22)))
    (l22 : K.lookup f22 = some ⟨oc22, od22, .func (PySem.W.fnOf "_law_step" "_law_step" (defArgs (top 22)) (defBody (top 22)) (defScope (top 22)) .none kV22 dc22 pm22 an22 cd22 ct22), sl22⟩)
    (c22 : PySem.W.codeIn K cd22 "_law_step" = true)
    (k22 : PySem.W.keepIn K (.ref f22) = true)
    (a31 : PySem.W.nsIn K mainGlobals "_law_hop" = some (some (.ref f31)))
    (l31 : K.lookup f31 = some ⟨oc31, od31, .func (PySem.W.fnOf "_law_hop" "_law_hop" (defArgs (top 31)) (defBody (top 31)) (defScope (top 31)) .none kV31 dc31 pm31 an31 cd31 ct31), sl31⟩)
    (c31 : PySem.W.codeIn K cd31 "_law_hop" = true)
    (k31 : PySem.W.keepIn K (.ref f31) = true)
    (a27 : PySem.W.nsIn K mainGlobals "_law_pick" = some (some (.ref f27)))
    (l27 : K.lookup f27 = some ⟨oc27, od27, .func (PySem.W.fnOf "_law_pick" "_law_pick" (defArgs (top 27)) (defBody (top 27)) (defScope (top 27)) .none kV27 dc27 pm27 an27 cd27 ct27), sl27⟩)
    (c27 : PySem.W.codeIn K cd27 "_law_pick" = true)
    (k27 : PySem.W.keepIn K (.ref f27) = true)
    (a38 : PySem.W.nsIn K mainGlobals "_law_spoilt" = some (some (.ref f38)))
    (l38 : K.lookup f38 = some ⟨oc38, od38, .func (PySem.W.fnOf "_law_spoilt" "_law_spoilt" (defArgs (top 38)) (defBody (top 38)) (defScope (top 38)) .none kV38 dc38 pm38 an38 cd38 ct38), sl38⟩)
    (c38 : PySem.W.codeIn K cd38 "_law_spoilt" = true)
    (k38 : PySem.W.keepIn K (.ref f38) = true)
    (a39 : PySem.W.nsIn K mainGlobals "_law_bad_hop" = some (some (.ref f39)))
    (l39 : K.lookup f39 = some ⟨oc39, od39, .func (PySem.W.fnOf "_law_bad_hop" "_law_bad_hop" (defArgs (top 39)) (defBody (top 39)) (defScope (top 39)) .none kV39 dc39 pm39 an39 cd39 ct39), sl39⟩)
    (c39 : PySem.W.codeIn K cd39 "_law_bad_hop" = true)
    (k39 : PySem.W.keepIn K (.ref f39) = true)
    (a17 : PySem.W.nsIn K mainGlobals "led_by" = some (some (.ref f17)))
    (l17 : K.lookup f17 = some ⟨oc17, od17, .func (PySem.W.fnOf "led_by" "led_by" (defArgs (top 17)) (defBody (top 17)) (defScope (top 17)) .none kV17 dc17 pm17 an17 cd17 ct17), sl17⟩)
    (c17 : PySem.W.codeIn K cd17 "led_by" = true)
    (k17 : PySem.W.keepIn K (.ref f17) = true)
    (a40 : PySem.W.nsIn K mainGlobals "_law_led_refused" = some (some (.ref f40)))
    (l40 : K.lookup f40 = some ⟨oc40, od40, .func (PySem.W.fnOf "_law_led_refused" "_law_led_refused" (defArgs (top 40)) (defBody (top 40)) (defScope (top 40)) .none kV40 dc40 pm40 an40 cd40 ct40), sl40⟩)
    (c40 : PySem.W.codeIn K cd40 "_law_led_refused" = true)
    (k40 : PySem.W.keepIn K (.ref f40) = true)
    (a41 : PySem.W.nsIn K mainGlobals "_law_lead_refused" = some (some (.ref f41)))
    (l41 : K.lookup f41 = some ⟨oc41, od41, .func (PySem.W.fnOf "_law_lead_refused" "_law_lead_refused" (defArgs (top 41)) (defBody (top 41)) (defScope (top 41)) .none kV41 dc41 pm41 an41 cd41 ct41), sl41⟩)
    (c41 : PySem.W.codeIn K cd41 "_law_lead_refused" = true)
    (k41 : PySem.W.keepIn K (.ref f41) = true)
    (a43 : PySem.W.nsIn K mainGlobals "law" = some (some (.ref f43)))
    (l43 : K.lookup f43 = some ⟨oc43, od43, .func (PySem.W.fnOf "law" "law" (defArgs (top 43)) (defBody (top 43)) (defScope (top 43)) .none kV43 dc43 pm43 an43 cd43 ct43), sl43⟩)
    (c43 : PySem.W.codeIn K cd43 "law" = true)
    (k43 : PySem.W.keepIn K (.ref f43) = true)
    (a2_x : PySem.W.findIn K (.ref C2) "__init__" = some (some (.ref f2_x)))
    (l2_x : K.lookup f2_x = some ⟨oc2_x, od2_x, .func (PySem.W.ksFn "__init__" "BadHop.__init__" (defArgs (inClass (top 3) 0)) (defBody (inClass (top 3) 0)) (defScope (inClass (top 3) 0)) .none kV2_x dc2_x pm2_x an2_x (.ref cda2_x) ct2_x cc2_x), sl2_x⟩)
    (c2_x : PySem.W.codeIn K (.ref cda2_x) "BadHop.__init__" = true)
    (n2_x : PySem.W.isFn K (.ref f2_x) = true)
    (lc2_x : K.lookup cda2_x = some ⟨ccl2_x, cdd2_x, .fields cvs2_x, ccs2_x⟩)
    (hv2_x : cvs2_x[2]? = some (.str file2_x tf2_x))
    (lcc2_x : K.lookup cc2_x = some ⟨cl2_x, cld2_x, .cell (some (.ref C2)), csl2_x⟩)
    (sb2_x : PySem.W.mroIn K C2 (.ref C2) = some true)
    (ms2_x : PySem.W.nsIn K mainGlobals "super" = some none)
    (op2_x : PySem.W.nsIn K cStatics "thirdparty.any" = some none)
    (in2_x : PySem.W.ks_superIn K C2 C2 "__init__" = some (some (.builtin "ValueError.__init__")))
    (ev2_x : PySem.W.subIn K (.ref C2) (.type "ValueError") = some true)
    (hf2_x : ((PySem.Challenge.pw_whosetomorrow_k20_whole_sevens_are_even.main.file : Str) == file2_x) = true)
    : Txt K mg (fun n => if n = 0 then C0 else if n = 1 then C1 else if n = 2 then C2 else if n = 3 then C3 else 0) where
  b_all := PySem.W.mg_none_of X G zb_all
  b_bool := PySem.W.mg_none_of X G zb_bool
  b_enumerate := PySem.W.mg_none_of X G zb_enumerate
  b_int := PySem.W.mg_none_of X G zb_int
  b_isinstance := PySem.W.mg_none_of X G zb_isinstance
  b_len := PySem.W.mg_none_of X G zb_len
  b_list := PySem.W.mg_none_of X G zb_list
  b_max := PySem.W.mg_none_of X G zb_max
  b_min := PySem.W.mg_none_of X G zb_min
  b_range := PySem.W.mg_none_of X G zb_range
  b_reversed := PySem.W.mg_none_of X G zb_reversed
  b_tuple := PySem.W.mg_none_of X G zb_tuple
  x_TalkError := ⟨PySem.W.mg_of X G xa0, xk0, xb0, xt0⟩
  x_BadSevens := ⟨xq1, PySem.W.mg_of X G xa1, xk1, xb1, xt1⟩
  x_BadHop := ⟨PySem.W.mg_of X G xa2, xk2, xb2, xt2⟩
  x_BadTerm := ⟨PySem.W.mg_of X G xa3, xk3, xb3, xt3⟩
  xo_BadHop := oex_mk xl2 xr2 xs2 xb2 xt2 xk2
  xh_BadHop_index := xh2_index
  d_BadHop := dms_mk a2_x l2_x c2_x n2_x lc2_x hv2_x lcc2_x sb2_x (PySem.W.mg_none_of X G ms2_x) op2_x in2_x ev2_x hf2_x rfl rfl rfl fun _ _ _ _ _ _ us hl => match us, hl with | [_, _], _ => rfl
  xf_index := ⟨fun c hc => by
    simp only [Bool.or_eq_true, beq_iff_eq] at hc
    rcases hc with rfl
    · exact ⟨⟨ya2, yg2, xb2, yd2⟩, xh2_index⟩⟩
  xi_BadTerm := xi_mk fun c b e => by
    unfold xi_BadTerm at e
    split at e
    · rename_i h; subst h; cases e; exact ⟨⟨xi1, ya1, yg1, xb1, yc1, zs, zt, ym1⟩, yi1_BadTerm⟩
    split at e
    · rename_i h; subst h; cases e; exact ⟨⟨xi2, ya2, yg2, xb2, yc2, zs, zt, ym2⟩, yi2_BadTerm⟩
    cases e
  xn_BadTerm := PySem.W.mg_of X G xa3
  xi_TalkError := xi_mk fun c b e => by
    unfold xi_TalkError at e
    split at e
    · rename_i h; subst h; cases e; exact ⟨⟨xi1, ya1, yg1, xb1, yc1, zs, zt, ym1⟩, yi1_TalkError⟩
    split at e
    · rename_i h; subst h; cases e; exact ⟨⟨xi2, ya2, yg2, xb2, yc2, zs, zt, ym2⟩, yi2_TalkError⟩
    cases e
  xn_TalkError := PySem.W.mg_of X G xa0
  sb := sub_all (exm_at xb1 xi1 xt1 xs1_1) (exm_at xb2 xi2 xt2 xs1_2) (exm_at xb1 xi1 xt1 xs2_1) (exm_at xb2 xi2 xt2 xs2_2)
  g_MOST_PLUS := ⟨_, .int 30, PySem.W.mg_of X G gc_MOST_PLUS, ⟨_, rfl⟩, fun _ => .int _⟩
  d__law_hand := df_mk X G a19 l19 c19 k19 fun _ _ _ _ _ _ us hl => match us, hl with | [_], _ => rfl
  d_even_sevens := df_mk X G a9 l9 c9 k9 fun _ _ _ _ _ _ us hl => match us, hl with | [_], _ => rfl
  d__law_even := df_mk X G a28 l28 c28 k28 fun _ _ _ _ _ _ us hl => match us, hl with | [_], _ => rfl
  d__law_coming := df_mk X G a23 l23 c23 k23 fun _ _ _ _ _ _ us hl => match us, hl with | [_, _], _ => rfl
  d__law_last := df_mk X G a24 l24 c24 k24 fun _ _ _ _ _ _ us hl => match us, hl with | [_, _], _ => rfl
  d__law_counted := df_mk X G a25 l25 c25 k25 fun _ _ _ _ _ _ us hl => match us, hl with | [_, _], _ => rfl
  d__law_hopped := df_mk X G a32 l32 c32 k32 fun _ _ _ _ _ _ us hl => match us, hl with | [_, _], _ => rfl
  d_days_ahead := df_mk X G a11 l11 c11 k11 fun _ _ _ _ _ _ us hl => match us, hl with | [_, _], _ => rfl
  d_saw_sevens := df_mk X G a10 l10 c10 k10 fun _ _ _ _ _ _ us hl => match us, hl with | [_, _], _ => rfl
  d_is_whole := df_mk X G a6 l6 c6 k6 fun _ _ _ _ _ _ us hl => match us, hl with | [_], _ => rfl
  d_shape_of_sevens := df_mk X G a13 l13 c13 k13 fun _ _ _ _ _ _ us hl => match us, hl with | [_], _ => rfl
  d_days_back := df_mk X G a12 l12 c12 k12 fun _ _ _ _ _ _ us hl => match us, hl with | [_, _], _ => rfl
  d_lead_by_one := df_mk X G a16 l16 c16 k16 fun _ _ _ _ _ _ us hl => match us, hl with | [_, _], _ => rfl
  d_is_hop := df_mk X G a14 l14 c14 k14 fun _ _ _ _ _ _ us hl => match us, hl with | [_], _ => rfl
  d_lead_sevens := df_mk X G a15 l15 c15 k15 fun _ _ _ _ _ _ us hl => match us, hl with | [_, _], _ => rfl
  d__law_whole := df_mk X G a26 l26 c26 k26 fun _ _ _ _ _ _ us hl => match us, hl with | [_], _ => rfl
  d__law_saw := df_mk X G a29 l29 c29 k29 fun _ _ _ _ _ _ us hl => match us, hl with | [_, _], _ => rfl
  d__law_shape := df_mk X G a30 l30 c30 k30 fun _ _ _ _ _ _ us hl => match us, hl with | [_], _ => rfl
  d__law_asked := df_mk X G a36 l36 c36 k36 fun _ _ _ _ _ _ us hl => match us, hl with | [_], _ => rfl
  d__law_made_by := df_mk X G a35 l35 c35 k35 fun _ _ _ _ _ _ us hl => match us, hl with | [_], _ => rfl
  d__law_same_shape := df_mk X G a37 l37 c37 k37 fun _ _ _ _ _ _ us hl => match us, hl with | [_], _ => rfl
  d__law_walked := df_mk X G a42 l42 c42 k42 fun _ _ _ _ _ _ us hl => match us, hl with | [_, _], _ => rfl
  d__law_mixed := df_mk X G a20 l20 c20 k20 fun _ _ _ _ _ _ us hl => match us, hl with | [_, _], _ => rfl
  d__law_take := df_mk X G a21 l21 c21 k21 fun _ _ _ _ _ _ us hl => match us, hl with | [_, _], _ => rfl
  d__law_far := df_mk X G a33 l33 c33 k33 fun _ _ _ _ _ _ us hl => match us, hl with | [_, _], _ => rfl
  d__law_sevens := df_mk X G a34 l34 c34 k34 fun _ _ _ _ _ _ us hl => match us, hl with | [_, _], _ => rfl
  d__law_step := df_mk X G a22 l22 c22 k22 fun _ _ _ _ _ _ us hl => match us, hl with | [_], _ => rfl
  d__law_hop := df_mk X G a31 l31 c31 k31 fun _ _ _ _ _ _ us hl => match us, hl with | [_], _ => rfl
  d__law_pick := df_mk X G a27 l27 c27 k27 fun _ _ _ _ _ _ us hl => match us, hl with | [_, _], _ => rfl
  d__law_spoilt := df_mk X G a38 l38 c38 k38 fun _ _ _ _ _ _ us hl => match us, hl with | [_, _], _ => rfl
  d__law_bad_hop := df_mk X G a39 l39 c39 k39 fun _ _ _ _ _ _ us hl => match us, hl with | [_], _ => rfl
  d_led_by := df_mk X G a17 l17 c17 k17 fun _ _ _ _ _ _ us hl => match us, hl with | [_], _ => rfl
  d__law_led_refused := df_mk X G a40 l40 c40 k40 fun _ _ _ _ _ _ us hl => match us, hl with | [_], _ => rfl
  d__law_lead_refused := df_mk X G a41 l41 c41 k41 fun _ _ _ _ _ _ us hl => match us, hl with | [_, _], _ => rfl
  d_law := df_mk X G a43 l43 c43 k43 fun _ _ _ _ _ _ us hl => match us, hl with | [_], _ => rfl
theorem end_mk {P : Program} {w : World} {K : PySem.W.Frag} {mg : Str → Option Value} {C : Nat → Addr} (T : Txt K mg C) (hP : P = PySem.Challenge.pw_whosetomorrow_k20_whole_sevens_are_even) : ∃ (C : Nat → Addr) (st : Stmt) (df : Df K mg "law" st ["_law_script"]), ∀ base : Heap, FnOk P w K mg base (L2.CX P w) 7 df.f df.fd ["_law_script"] (spF K C 1 m_law) := ⟨C, _, T.d_law, fun base => k_all T hP⟩
end L20
open PySem PySem.W PyProof.Rows in
set_option maxRecDepth 100000 in
set_option maxHeartbeats 0 in
theorem PySem.Challenge.cw_whosetomorrow_k20_whole_sevens_are_even_holds : PySem.Challenge.rw_whosetomorrow_k20_whole_sevens_are_even.Holds := by
  w_on; o_law; k_head; (case hw => w_witness2)
  k_fill
  refine Rf.walk_end (l := PySem.Challenge.rw_whosetomorrow_k20_whole_sevens_are_even) (k := 7) (F := L20.m_law) rfl rfl rfl ⟨rfl, by decide, by decide⟩ (fun w h Y => PySem.W.kIn_of Y) ?F L20.law_true
  case F =>
    intro w mg h KX G
    refine' L20.end_mk (L20.txt_mk KX G ?zb_all ?zb_bool ?zb_enumerate ?zb_int ?zb_isinstance ?zb_len ?zb_list ?zb_max ?zb_min ?zb_range ?zb_reversed ?zb_tuple ?xa0 ?xk0 ?xb0 ?xt0 ?xi0 ?xa1 ?xq1 ?xk1 ?xb1 ?xt1 ?xi1 ?xa2 ?xk2 ?xb2 ?xt2 ?xi2 ?xl2 ?xr2 ?xs2 ?xh2_index ?xa3 ?xk3 ?xb3 ?xt3 ?xi3 ?ya1 ?yg1 ?yd1 ?yc1 ?ym1 ?ya2 ?yg2 ?yd2 ?yc2 ?ym2 ?zs ?zt ?yi1_BadTerm ?yi2_BadTerm ?yi1_TalkError ?yi2_TalkError ?xs1_1 ?xs1_2 ?xs2_1 ?xs2_2 ?gc_MOST_PLUS ?a19 ?l19 ?c19 ?k19 ?a9 ?l9 ?c9 ?k9 ?a28 ?l28 ?c28 ?k28 ?a23 ?l23 ?c23 ?k23 ?a24 ?l24 ?c24 ?k24 ?a25 ?l25 ?c25 ?k25 ?a32 ?l32 ?c32 ?k32 ?a11 ?l11 ?c11 ?k11 ?a10 ?l10 ?c10 ?k10 ?a6 ?l6 ?c6 ?k6 ?a13 ?l13 ?c13 ?k13 ?a12 ?l12 ?c12 ?k12 ?a16 ?l16 ?c16 ?k16 ?a14 ?l14 ?c14 ?k14 ?a15 ?l15 ?c15 ?k15 ?a26 ?l26 ?c26 ?k26 ?a29 ?l29 ?c29 ?k29 ?a30 ?l30 ?c30 ?k30 ?a36 ?l36 ?c36 ?k36 ?a35 ?l35 ?c35 ?k35 ?a37 ?l37 ?c37 ?k37 ?a42 ?l42 ?c42 ?k42 ?a20 ?l20 ?c20 ?k20 ?a21 ?l21 ?c21 ?k21 ?a33 ?l33 ?c33 ?k33 ?a34 ?l34 ?c34 ?k34 ?a22 ?l22 ?c22 ?k22 ?a31 ?l31 ?c31 ?k31 ?a27 ?l27 ?c27 ?k27 ?a38 ?l38 ?c38 ?k38 ?a39 ?l39 ?c39 ?k39 ?a17 ?l17 ?c17 ?k17 ?a40 ?l40 ?c40 ?k40 ?a41 ?l41 ?c41 ?k41 ?a43 ?l43 ?c43 ?k43 ?a2_x ?l2_x ?c2_x ?n2_x ?lc2_x ?hv2_x ?lcc2_x ?sb2_x ?ms2_x ?op2_x ?in2_x ?ev2_x ?hf2_x) rfl
    (case zb_all => k_is)
    (case zb_bool => k_is)
    (case zb_enumerate => k_is)
    (case zb_int => k_is)
    (case zb_isinstance => k_is)
    (case zb_len => k_is)
    (case zb_list => k_is)
    (case zb_max => k_is)
    (case zb_min => k_is)
    (case zb_range => k_is)
    (case zb_reversed => k_is)
    (case zb_tuple => k_is)
    (case xa0 => k_is)
    (case xk0 => k_is)
    (case xb0 => k_is)
    (case xt0 => k_is)
    (case xi0 => k_is)
    (case xa1 => k_is)
    (case xq1 => k_exc)
    (case xk1 => k_is)
    (case xb1 => k_is)
    (case xt1 => k_is)
    (case xi1 => k_is)
    (case xa2 => k_is)
    (case xk2 => k_is)
    (case xb2 => k_is)
    (case xt2 => k_is)
    (case xi2 => k_is)
    (case xl2 => k_is)
    (case xr2 => decide +kernel)
    (case xs2 => k_is)
    (case xh2_index => k_is)
    (case xa3 => k_is)
    (case xk3 => k_is)
    (case xb3 => k_is)
    (case xt3 => k_is)
    (case xi3 => k_is)
    (case ya1 => k_is)
    (case yg1 => k_is)
    (case yd1 => k_is)
    (case yc1 => k_is)
    (case ym1 => k_is)
    (case ya2 => k_is)
    (case yg2 => k_is)
    (case yd2 => k_is)
    (case yc2 => k_is)
    (case ym2 => k_is)
    (case zs => k_is)
    (case zt => k_is)
    (case yi1_BadTerm => (first | rfl | k_is))
    (case yi2_BadTerm => (first | rfl | k_is))
    (case yi1_TalkError => (first | rfl | k_is))
    (case yi2_TalkError => (first | rfl | k_is))
    (case xs1_1 => (first | rfl | k_is))
    (case xs1_2 => (first | rfl | k_is))
    (case xs2_1 => (first | rfl | k_is))
    (case xs2_2 => (first | rfl | k_is))
    (case gc_MOST_PLUS => k_is)
    (case a19 => k_is)
    (case l19 => k_is)
    (case c19 => k_is)
    (case k19 => k_is)
    (case a9 => k_is)
    (case l9 => k_is)
    (case c9 => k_is)
    (case k9 => k_is)
    (case a28 => k_is)
    (case l28 => k_is)
    (case c28 => k_is)
    (case k28 => k_is)
    (case a23 => k_is)
    (case l23 => k_is)
    (case c23 => k_is)
    (case k23 => k_is)
    (case a24 => k_is)
    (case l24 => k_is)
    (case c24 => k_is)
    (case k24 => k_is)
    (case a25 => k_is)
    (case l25 => k_is)
    (case c25 => k_is)
    (case k25 => k_is)
    (case a32 => k_is)
    (case l32 => k_is)
    (case c32 => k_is)
    (case k32 => k_is)
    (case a11 => k_is)
    (case l11 => k_is)
    (case c11 => k_is)
    (case k11 => k_is)
    (case a10 => k_is)
    (case l10 => k_is)
    (case c10 => k_is)
    (case k10 => k_is)
    (case a6 => k_is)
    (case l6 => k_is)
    (case c6 => k_is)
    (case k6 => k_is)
    (case a13 => k_is)
    (case l13 => k_is)
    (case c13 => k_is)
    (case k13 => k_is)
    (case a12 => k_is)
    (case l12 => k_is)
    (case c12 => k_is)
    (case k12 => k_is)
    (case a16 => k_is)
    (case l16 => k_is)
    (case c16 => k_is)
    (case k16 => k_is)
    (case a14 => k_is)
    (case l14 => k_is)
    (case c14 => k_is)
    (case k14 => k_is)
    (case a15 => k_is)
    (case l15 => k_is)
    (case c15 => k_is)
    (case k15 => k_is)
    (case a26 => k_is)
    (case l26 => k_is)
    (case c26 => k_is)
    (case k26 => k_is)
    (case a29 => k_is)
    (case l29 => k_is)
    (case c29 => k_is)
    (case k29 => k_is)
    (case a30 => k_is)
    (case l30 => k_is)
    (case c30 => k_is)
    (case k30 => k_is)
    (case a36 => k_is)
    (case l36 => k_is)
    (case c36 => k_is)
    (case k36 => k_is)
    (case a35 => k_is)
    (case l35 => k_is)
    (case c35 => k_is)
    (case k35 => k_is)
    (case a37 => k_is)
    (case l37 => k_is)
    (case c37 => k_is)
    (case k37 => k_is)
    (case a42 => k_is)
    (case l42 => k_is)
    (case c42 => k_is)
    (case k42 => k_is)
    (case a20 => k_is)
    (case l20 => k_is)
    (case c20 => k_is)
    (case k20 => k_is)
    (case a21 => k_is)
    (case l21 => k_is)
    (case c21 => k_is)
    (case k21 => k_is)
    (case a33 => k_is)
    (case l33 => k_is)
    (case c33 => k_is)
    (case k33 => k_is)
    (case a34 => k_is)
    (case l34 => k_is)
    (case c34 => k_is)
    (case k34 => k_is)
    (case a22 => k_is)
    (case l22 => k_is)
    (case c22 => k_is)
    (case k22 => k_is)
    (case a31 => k_is)
    (case l31 => k_is)
    (case c31 => k_is)
    (case k31 => k_is)
    (case a27 => k_is)
    (case l27 => k_is)
    (case c27 => k_is)
    (case k27 => k_is)
    (case a38 => k_is)
    (case l38 => k_is)
    (case c38 => k_is)
    (case k38 => k_is)
    (case a39 => k_is)
    (case l39 => k_is)
    (case c39 => k_is)
    (case k39 => k_is)
    (case a17 => k_is)
    (case l17 => k_is)
    (case c17 => k_is)
    (case k17 => k_is)
    (case a40 => k_is)
    (case l40 => k_is)
    (case c40 => k_is)
    (case k40 => k_is)
    (case a41 => k_is)
    (case l41 => k_is)
    (case c41 => k_is)
    (case k41 => k_is)
    (case a43 => k_is)
    (case l43 => k_is)
    (case c43 => k_is)
    (case k43 => k_is)
    (case a2_x => k_is)
    (case l2_x => k_is)
    (case c2_x => k_is)
    (case n2_x => k_is)
    (case lc2_x => k_is)
    (case hv2_x => rfl)
    (case lcc2_x => k_is)
    (case sb2_x => k_is)
    (case ms2_x => k_is)
    (case op2_x => k_is)
    (case in2_x => (first | k_is | rfl | decide +kernel))
    (case ev2_x => (first | rfl | k_is))
    (case hf2_x => (first | rfl | decide +kernel))
