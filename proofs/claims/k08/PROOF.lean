import PyProof.Rows.All
import Wide.All
import OpenK.AllK
import Wide.FinOn
import KE.KStateDown
import KE.KSuper
import HandS.Head0
import HandS.Head1
import HandS.Head2
import HandS.HeadHook1
import HandS.HeadHook2
import HandS.HeadEnd
import HandS.Words
import HandS.Defaults
import HandS.Deep
import PySem.Challenge.RW_whosetomorrow_k08_whole_texts_of_words
import HandS.ForExc
import HandS.ForMost
import HandS.IsInst
import HandS.TupAny
import HandS.Wide
import HandS.Flow
import HandS.Text
import HandS.TupLe
import KE.DatumOrd
import HandS.Walk
import HandS.ExcOwn
import HandS.TryOnly
import HandS.WordsExc
import HandS.ExcInit
import HandS.ExcField
import HandS.ExcIs
import KE.KExcIs
import HandS.OwnEq
import HandS.More
import KE.GoesMore
import KE.GoesEnum
import KE.KTab
import PyProof.StrOps2
import PyProof.CallFns
import HandS.TryMany
import HandS.ExcCtx
import HandS.CallSlots
import KE.KExcSuper
import HandS.Rev
import HandS.TupMul
import HandS.HotCalls
import HandS.Style
import HandS.IterVal
import HandS.Dict
import HandS.ListEq
import KE.KEqNest
import PyProof.AutoIntG7
import HandS.Strs
import HandS.Conv
import HandS.Zip
import HandS.Replace
import HandS.ReplaceLit
import HandS.RaiseMore
import HandS.DictTup
import HandS.Codes
import KE.IntTextText
set_option Elab.async false
set_option linter.all false
set_option maxRecDepth 100000
set_option maxHeartbeats 2000000
namespace Hd
open PySem PySem.Spec PyProof.Rows L2
abbrev Fr := PySem.W.Frag
def downR : Nat → Nat → List Nat
  | 0, _ => []
  | n + 1, B => match Nat.ble B n with
    | true => n :: downR n B
    | false => []
theorem downR_mem {B a : Nat} (h : B ≤ a) : ∀ {n : Nat}, a < n → a ∈ downR n B
  | 0, h' => absurd h' (Nat.not_lt_zero _)
  | n + 1, h' => by
    have hb : Nat.ble B n = true := Nat.ble_eq_true_of_le (by omega)
    unfold downR
    rw [hb]
    by_cases e : a = n
    · rw [e]; exact List.mem_cons_self
    · exact List.mem_cons_of_mem _ (downR_mem h (by omega))
def asL (N : Nat) : List Nat := downR 200 0 ++ (downR N 200 ++ [mainGlobals])
def frL (g : Addr → Option Obj) : List Nat → Fr
  | [] => []
  | a :: r => match g a with
    | some o => (a, o) :: frL g r
    | none => frL g r
theorem frL_mem {g : Addr → Option Obj} : ∀ (as : List Nat), ∀ z ∈ frL g as, g z.1 = some z.2
  | [], z, h => nomatch h
  | b :: r, z, h => by
    unfold frL at h
    cases hb : g b with
    | none => rw [hb] at h; exact frL_mem r z h
    | some ob =>
      rw [hb] at h
      rcases List.mem_cons.mp h with h | h
      · rw [h]; exact hb
      · exact frL_mem r z h
theorem frL_has {g : Addr → Option Obj} {a : Addr} {o : Obj} (ho : g a = some o) : ∀ {as : List Nat}, a ∈ as → (a, o) ∈ frL g as
  | b :: r, h => by
    unfold frL
    rcases List.mem_cons.mp h with h | h
    · rw [← h, ho]; exact List.mem_cons_self
    · cases hb : g b with
      | none => exact frL_has ho h
      | some ob => exact List.mem_cons_of_mem _ (frL_has ho h)
def force {α β : Type} (k : List α → β) : List α → List α → β
  | [], acc => k acc
  | x :: r, acc => force k r (x :: acc)
theorem force_eq {α β : Type} (k : List α → β) : ∀ (l acc : List α), force k l acc = k (l.reverse ++ acc)
  | [], acc => rfl
  | x :: r, acc => by
    show force k r (x :: acc) = _
    rw [force_eq k r]
    simp
abbrev lk (K : Fr) : Addr → Option Obj := fun a => K.lookup a
def cutG (N : Nat) (g : Addr → Option Obj) (a : Addr) : Option Obj := match Nat.blt a N with
  | true => g a
  | false => none
def frR (g : Addr → Option Obj) (N : Nat) : Fr := (frL (cutG N g) (asL N)).reverse
theorem lookup_of {g : Addr → Option Obj} : ∀ {l : Fr}, (∀ z ∈ l, g z.1 = some z.2) → ∀ {a : Addr}, (∀ o, g a = some o → (a, o) ∈ l) → l.lookup a = g a
  | [], _, a, h2 => by
    cases e : g a with
    | none => rfl
    | some o => exact nomatch h2 o e
  | (b, ob) :: l, h1, a, h2 => by
    show (match a == b with | true => some ob | false => l.lookup a) = g a
    cases q : (a == b) with
    | true =>
      have := h1 (b, ob) List.mem_cons_self
      rw [beq_iff_eq.mp q]
      exact this.symm
    | false =>
      refine lookup_of (fun z hz => h1 z (List.mem_cons_of_mem _ hz)) fun o ho => ?_
      rcases List.mem_cons.mp (h2 o ho) with h | h
      · have : a = b := congrArg (fun z : Addr × Obj => z.1) h
        rw [this, beq_self_eq_true] at q; cases q
      · exact h
theorem frR_lookup (g : Addr → Option Obj) (N : Nat) : lk (frR g N) = cutG N g := by
  funext a
  refine lookup_of (fun z hz => frL_mem _ z (List.mem_reverse.mp hz)) fun o ho => List.mem_reverse.mpr (frL_has ho ?_)
  unfold cutG at ho
  have lt : a < N := by
    cases e : Nat.blt a N with
    | false => rw [e] at ho; cases ho
    | true => exact Nat.le_of_ble_eq_true e
  unfold asL
  by_cases h : a < 200
  · exact List.mem_append_left _ (downR_mem (Nat.zero_le _) h)
  · exact List.mem_append_right _ (List.mem_append_left _ (downR_mem (Nat.le_of_not_lt h) lt))
theorem frR_in {N : Nat} {h : Heap} : (frR h.get? N).In h := fun a o e => by
  have e : (frR h.get? N).lookup a = some o := e
  have e : lk (frR h.get? N) a = some o := e
  rw [frR_lookup] at e
  unfold cutG at e
  cases q : Nat.blt a N with
  | false => rw [q] at e; cases e
  | true => rw [q] at e; exact e
abbrev Lk : Type := Addr → Option Obj
abbrev FnQ : Type := Option (Str × Str × Arguments × FuncBody × Scope × Addr × List Str × Addr)
def fnL (L : Lk) (a : Addr) : FnQ := match L a with
  | some ⟨_, _, .func fd, _⟩ => some (fd.name, fd.qualname, fd.params, fd.body, fd.scope, fd.globals, fd.closure.map (·.1), fd.builtins)
  | _ => none
abbrev fnA (K : Fr) (a : Addr) : FnQ := fnL (lk K) a
structure DX where
  at_ : Lk → Addr
  name : Str
  qual : Str
  params : Arguments
  body : List Stmt
  scope : Scope
  clo : List Str
def DX.val (d : DX) : FnQ := some (d.name, d.qual, d.params, .stmts d.body, d.scope, mainGlobals, d.clo, builtinsNs)
abbrev AlX : Type := Bool × List FnQ
abbrev Fx : Type := Lk → Fr → Bool
def obsX (fs : List Fx) (ds : List DX) (L : Lk) (K : Fr) : AlX := (fs.all fun f => f L K, ds.map fun d => fnL L (d.at_ L))
def valX (ds : List DX) : AlX := (true, ds.map DX.val)
def SaysX (fs : List Fx) (ds : List DX) (K : Fr) : Prop := obsX fs ds (lk K) K = valX ds
def obsG (N : Nat) (fs : List Fx) (ds : List DX) (g : Addr → Option Obj) : AlX := force (obsX fs ds (cutG N g)) (frL (cutG N g) (asL N)) []
theorem obsG_R {N : Nat} {fs : List Fx} {ds : List DX} {g : Addr → Option Obj} : obsG N fs ds g = obsX fs ds (lk (frR g N)) (frR g N) := by
  rw [frR_lookup]
  unfold obsG frR
  rw [force_eq, List.append_nil]
def hookX (N : Nat) (fs : List Fx) (ds : List DX) : PySem.W.Hook where
  α := AlX
  obs := fun s => obsG N fs ds s.heap.get?
  val := fun _ => valX ds
  says := fun _ h => ∃ K : Fr, K.In h ∧ SaysX fs ds K
  of := fun _ _ e => ⟨_, frR_in, obsG_R.symm.trans e⟩
  keeps := fun _ _ _ ⟨K, hK, c⟩ k => ⟨K, PySem.W.Frag.In.keeps hK k, c⟩
theorem obsG_eq {N : Nat} {fs : List Fx} {ds : List DX} {g : Addr → Option Obj} {s : Shared} (h : ∀ a, g a = s.heap.get? a) : obsG N fs ds g = (hookX N fs ds).obs s := by
  have e : g = s.heap.get? := funext h
  rw [e] <;> rfl
def obT (N : Nat) (fs : List Fx) (ds : List DX) (s : PySem.W.SharedT) : AlX := obsG N fs ds (HandSHeadRun.getT s)
theorem obT_eq {N : Nat} {fs : List Fx} {ds : List DX} (s : PySem.W.SharedT) : obT N fs ds s = (hookX N fs ds).obs s.abs := obsG_eq (HandSHeadRun.getT_eq s)
theorem obT_app {N : Nat} {f1 f2 : List Fx} {d1 d2 : List DX} {s : PySem.W.SharedT} (h1 : obT N f1 d1 s = valX d1) (h2 : obT N f2 d2 s = valX d2) : obT N (f1 ++ f2) (d1 ++ d2) s = valX (d1 ++ d2) := by
  unfold obT at *
  rw [obsG_R] at *
  unfold obsX valX at *
  have a1 := congrArg (fun z : AlX => z.1) h1
  have b1 := congrArg (fun z : AlX => z.2) h1
  have a2 := congrArg (fun z : AlX => z.1) h2
  have b2 := congrArg (fun z : AlX => z.2) h2
  refine Prod.ext ?_ ?_
  · show (f1 ++ f2).all _ = true
    rw [List.all_append, show f1.all _ = true from a1, show f2.all _ = true from a2]; rfl
  · show (d1 ++ d2).map _ = (d1 ++ d2).map _
    rw [List.map_append, List.map_append, show d1.map _ = d1.map DX.val from b1, show d2.map _ = d2.map DX.val from b2]
def RunO (r : PySem.W.OpenRow) (N : Nat) (fs : List Fx) (ds : List DX) (M : Nat) (w : World) : Prop :=
  ∀ os : OsState, (HandSHeadRun.endF (HandSHeadRun.stepQ (HandSHeadRun.denQ HandSHeadRun.tabQ) r.prog w) M r.prog w os).map (obT N fs ds) = some (valX ds)
theorem RunO.app {r : PySem.W.OpenRow} {N : Nat} {f1 f2 : List Fx} {d1 d2 : List DX} {M : Nat} {w : World} (h1 : RunO r N f1 d1 M w) (h2 : RunO r N f2 d2 M w) : RunO r N (f1 ++ f2) (d1 ++ d2) M w := fun os => by
  have e1 := h1 os
  have e2 := h2 os
  revert e1 e2
  cases HandSHeadRun.endF (HandSHeadRun.stepQ (HandSHeadRun.denQ HandSHeadRun.tabQ) r.prog w) M r.prog w os with
  | none => intro e1; cases e1
  | some s => exact fun e1 e2 => congrArg some (obT_app (f1 := f1) (f2 := f2) (d1 := d1) (d2 := d2) (s := s) (Option.some.inj e1) (Option.some.inj e2))
theorem RunEq_app {r : PySem.W.OpenRow} {q : Program} {loose : List Str} {N : Nat} {f1 f2 : List Fx} {d1 d2 : List DX} {M : Nat} {w : World} (h1 : HandSHeadRun.RunEq r q (hookX N f1 d1) (obT N f1 d1) M loose w) (h2 : RunO r N f2 d2 M w) :
    HandSHeadRun.RunEq r q (hookX N (f1 ++ f2) (d1 ++ d2)) (obT N (f1 ++ f2) (d1 ++ d2)) M loose w := fun os => by
  have e1 := h1 os
  have e2 := h2 os
  revert e1 e2
  cases HandSHeadRun.endF (HandSHeadRun.stepQ (HandSHeadRun.denQ HandSHeadRun.tabQ) r.prog w) M r.prog w os with
  | none => intro e1; cases e1
  | some s =>
    intro e1 e2
    have e1 := Option.some.inj e1
    have a := congrArg Prod.fst e1
    have b := congrArg (fun z => z.2.1) e1
    have c := congrArg (fun z => z.2.2) e1
    exact congrArg some (Prod.ext a (Prod.ext b (obT_app (f1 := f1) (f2 := f2) (d1 := d1) (d2 := d2) (s := s) c (Option.some.inj e2))))
def nsL (L : Lk) (ns : Addr) (name : Str) : Option (Option Value) := match L ns with
  | some ⟨_, _, .dict es _, _⟩ => (match es.toList.find? (·.key.isStr name) with
      | some e => some (some e.val)
      | none => if es.toList.any (·.refKey) then none else some none)
  | _ => none
def gaL (L : Lk) (x : Str) : Addr := match nsL L mainGlobals x with
  | some (some (.ref a)) => a
  | _ => 0
def codeL (L : Lk) (cd : Value) (q : Str) : Bool := match cd with
  | .ref c => (match L c with
      | some ⟨_, _, .fields vs, _⟩ => (match vs.toList with | _ :: .str n _ :: _ => n == q | _ => false)
      | _ => false)
  | _ => false
def isFL (L : Lk) (a : Addr) : Bool := (L a).map (·.cls) == some (.type "function")
def keepL (L : Lk) (a : Addr) : Bool := match L a with
  | some ⟨_, _, .func _, _⟩ => true
  | _ => false
section
variable {K : Fr}
theorem nsL_eq {a : Addr} {x : Str} : nsL (lk K) a x = PySem.W.nsIn K a x := rfl
theorem codeL_eq {v : Value} {q : Str} : codeL (lk K) v q = PySem.W.codeIn K v q := rfl
theorem isFL_eq {a : Addr} : isFL (lk K) a = PySem.W.isFn K (.ref a) := rfl
theorem keepL_ok {a : Addr} (h : keepL (lk K) a = true) : PySem.W.keepIn K (.ref a) = true := by
  unfold keepL at h
  show (match lk K a with
    | some ⟨_, _, .func _, _⟩ => true
    | some ⟨_, _, .cls _, _⟩ => _
    | _ => false) = true
  cases q : lk K a with
  | none => rw [q] at h; cases h
  | some o =>
    obtain ⟨oc, od, dt, osl⟩ := o
    rw [q] at h
    cases dt with
    | func fd => rfl
    | _ => cases h
end
section
variable {fs : List Fx} {ds : List DX} {K : Fr}
theorem SaysX.fact (c : SaysX fs ds K) (i : Nat) {f : Fx} (h : fs[i]? = some f := by rfl) : f (lk K) K = true :=
  List.all_eq_true.mp (congrArg (fun z : AlX => z.1) c) f (List.mem_of_getElem? h)
def obj (K : Lk) (a : Addr) : Obj := (K a).getD default
def fdO (K : Lk) (a : Addr) : FuncData := match (obj K a).data with
  | .func fd => fd
  | _ => default
def clO (K : Lk) (a : Addr) : ClassData := match (obj K a).data with
  | .cls c => c
  | _ => ⟨Str.empty, [], [], 0, Str.empty, true, [], [], false, none, false⟩
def dfV (v : Value) (b : Bool) : Bool := match v with
  | .none => !b
  | .ref _ => b
  | _ => false
def dfB (K : Lk) (a : Addr) (b : Bool) : Bool := dfV (fdO K a).defaults b
theorem SaysX.fn_ (c : SaysX fs ds K) (i : Nat) {d : DX} (h : ds[i]? = some d := by rfl) : fnA K (d.at_ (lk K)) = d.val := by
  have e : (ds.map fun d => fnA K (d.at_ (lk K))) = ds.map DX.val := congrArg (fun z : AlX => z.2) c
  have e2 : (ds.map fun d => fnA K (d.at_ (lk K)))[i]? = (ds.map DX.val)[i]? := by rw [e]
  rw [List.getElem?_map, List.getElem?_map, h] at e2
  exact Option.some.inj e2
theorem fn_at {a : Addr} {n q : Str} {pr : Arguments} {bd : List Stmt} {sc : Scope} (e : fnA K a = some (n, q, pr, .stmts bd, sc, mainGlobals, [], builtinsNs)) :
    K.lookup a = some ⟨(obj (lk K) a).cls, (obj (lk K) a).dict, .func (PySem.W.fnOf n q pr bd sc (fdO (lk K) a).defaults (fdO (lk K) a).kwdefaults (fdO (lk K) a).doc (fdO (lk K) a).pyModule (fdO (lk K) a).annotations (fdO (lk K) a).code (fdO (lk K) a).closureTuple), (obj (lk K) a).slots⟩ := by
  unfold fnA fnL at e
  show lk K a = _
  unfold fdO obj
  cases hq : lk K a with
  | none => rw [hq] at e; cases e
  | some o =>
    obtain ⟨oc, od, dt, osl⟩ := o
    rw [hq] at e
    cases dt with
    | func fd =>
      obtain ⟨n1, n2, n3, n4, n5, n6, n7, n8, n9, n10, n11, n12, n13, n14, n15⟩ := fd
      have e2 : (some (n1, n2, n3, n4, n5, n6, n7.map (·.1), n15) : FnQ) = some (n, q, pr, .stmts bd, sc, mainGlobals, [], builtinsNs) := e
      simp only [Option.some.injEq, Prod.mk.injEq] at e2
      obtain ⟨h1, h2, h3, h4, h5, h6, h7, h8⟩ := e2
      have h7 := List.map_eq_nil_iff.mp h7
      subst h1 h2 h3 h4 h5 h6 h7 h8
      rfl
    | _ => cases e
theorem fn_no {a : Addr} {n q : Str} {pr : Arguments} {bd : List Stmt} {sc : Scope} (e : fnA K a = some (n, q, pr, .stmts bd, sc, mainGlobals, [], builtinsNs)) (d : dfB (lk K) a false = true) :
    K.lookup a = some ⟨(obj (lk K) a).cls, (obj (lk K) a).dict, .func (PySem.W.fnOf n q pr bd sc .none (fdO (lk K) a).kwdefaults (fdO (lk K) a).doc (fdO (lk K) a).pyModule (fdO (lk K) a).annotations (fdO (lk K) a).code (fdO (lk K) a).closureTuple), (obj (lk K) a).slots⟩ := by
  have h := fn_at e
  unfold dfB dfV at d
  cases q : (fdO (lk K) a).defaults with
  | none => rw [q] at h; exact h
  | _ => rw [q] at d; cases d
def maL (K : Lk) (C : Addr) (m : Str) : Addr := match nsL K (clO K C).ns m with
  | some (some (.ref a)) => a
  | _ => 0
def isO (a b : Option (Option Value)) : Bool := decide (a = b)
theorem isO_ok {a b : Option (Option Value)} (h : isO a b = true) : a = b := of_decide_eq_true h
def isB (a : Option Bool) (b : Bool) : Bool := match a with
  | some c => c == b
  | none => false
theorem isB_ok {a : Option Bool} {b : Bool} (h : isB a b = true) : a = some b := by
  cases a with
  | none => cases h
  | some c => rw [eq_of_beq (show (c == b) = true from h)]
def isV (a : Option Value) (b : Value) : Bool := match a with
  | some c => decide (c = b)
  | none => false
theorem isV_ok {a : Option Value} {b : Value} (h : isV a b = true) : a = some b := by
  cases a with
  | none => cases h
  | some c => rw [show c = b from of_decide_eq_true h]
def isF (a : Option PySem.W.CFound) (b : Value) : Bool := match a with
  | some (.val c) => decide (c = b)
  | _ => false
theorem isF_ok {a : Option PySem.W.CFound} {b : Value} (h : isF a b = true) : a = some (.val b) := by
  cases a with
  | none => cases h
  | some c => cases c with
    | val c => rw [show c = b from of_decide_eq_true h]
    | get _ _ _ _ => cases h
theorem not_ok {b : Bool} (h : (!b) = true) : b = false := by cases b with
  | false => rfl
  | true => cases h
inductive VP where
  | str (x : Str) | int (i : Int) | adr (a : Addr) | oth (v : Value)
def mkV : Value → Tok
  | .str _ t => t
  | .int _ t => t
  | _ => default
def VP.v : VP → Tok → Value
  | .str x, t => .str x t
  | .int i, t => .int i t
  | .adr a, _ => .ref a
  | .oth v, _ => v
def VP.is : VP → Value → Bool
  | .str x, .str y _ => decide (y = x)
  | .int i, .int j _ => decide (j = i)
  | .adr a, .ref b => decide (b = a)
  | .oth v, u => decide (u = v)
  | _, _ => false
theorem VP.is_ok {p : VP} {u : Value} (h : p.is u = true) : u = p.v (mkV u) := by
  cases p with
  | str x => cases u with
    | str y t => rw [show y = x from of_decide_eq_true h]; rfl
    | _ => cases h
  | int i => cases u with
    | int y t => rw [show y = i from of_decide_eq_true h]; rfl
    | _ => cases h
  | adr a => cases u with
    | ref y => rw [show y = a from of_decide_eq_true h]; rfl
    | _ => cases h
  | oth v => exact of_decide_eq_true (by cases u <;> exact h)
def itmA (K : Lk) (a : Addr) (i : Nat) : Value := match (obj K a).data with
  | .seq its _ => its.toList.getD i .none
  | _ => .none
def numA (K : Lk) (a : Addr) : Nat := match (obj K a).data with
  | .seq _ n => n
  | .dict _ n => n
  | _ => 0
def vps (f : Nat → Value) : List VP → Nat → List Value
  | [], _ => []
  | p :: r, i => p.v (mkV (f i)) :: vps f r (i + 1)
def allP : List VP → List Value → Bool
  | [], [] => true
  | p :: r, u :: us => p.is u && allP r us
  | _, _ => false
theorem allP_ok (f : Nat → Value) : ∀ (ps : List VP) (us : List Value) (i : Nat), (∀ j, us.getD j .none = f (i + j)) → allP ps us = true → us = vps f ps i
  | [], [], _, _, _ => rfl
  | [], _ :: _, _, _, h => by cases h
  | _ :: _, [], _, _, h => by cases h
  | p :: r, u :: us, i, hf, h => by
    obtain ⟨h1, h2⟩ := Bool.and_eq_true_iff.mp (show (p.is u && allP r us) = true from h)
    have e0 := hf 0
    show u :: us = p.v (mkV (f i)) :: vps f r (i + 1)
    rw [← allP_ok f r us (i + 1) (fun j => by have := hf (j + 1); rw [show i + (j + 1) = i + 1 + j by omega] at this; exact this) h2]
    rw [show f i = u from e0.symm, ← VP.is_ok h1]
def tupB (K : Lk) (a : Addr) (ps : List VP) : Bool := match K a with
  | some ⟨.type c, _, .seq its _, _⟩ => decide (c = "tuple") && allP ps its.toList
  | _ => false
theorem tup_ok {a : Addr} {ps : List VP} (h : tupB (lk K) a ps = true) : K.lookup a = some ⟨.type "tuple", (obj (lk K) a).dict, .seq (vps (itmA (lk K) a) ps 0).toArray (numA (lk K) a), (obj (lk K) a).slots⟩ := by
  unfold tupB at h
  unfold itmA numA obj
  show lk K a = _
  cases q : lk K a with
  | none => rw [q] at h; cases h
  | some o =>
    obtain ⟨oc, od, dt, osl⟩ := o
    rw [q] at h
    cases oc with
    | type c =>
      cases dt with
      | seq its n =>
        obtain ⟨h1, h2⟩ := Bool.and_eq_true_iff.mp (show (decide (c = "tuple") && allP ps its.toList) = true from h)
        have e := allP_ok (fun i => its.toList.getD i .none) ps its.toList 0 (fun j => by rw [Nat.zero_add]) h2
        have e1 : c = "tuple" := of_decide_eq_true h1
        subst e1
        show some (⟨.type "tuple", od, .seq its n, osl⟩ : Obj) = some ⟨.type "tuple", od, .seq (vps (fun i => its.toList.getD i .none) ps 0).toArray n, osl⟩
        rw [← e]
      | _ => cases h
    | _ => cases dt <;> cases h
def entA (K : Lk) (a : Addr) (i : Nat) : DictEntry := match (obj K a).data with
  | .dict es _ => es.toList.getD i ⟨0, .none, .none⟩
  | _ => ⟨0, .none, .none⟩
def dps (f : Nat → DictEntry) : List (VP × VP) → Nat → List DictEntry
  | [], _ => []
  | p :: r, i => ⟨(f i).hash, p.1.v (mkV (f i).key), p.2.v (mkV (f i).val)⟩ :: dps f r (i + 1)
def allE : List (VP × VP) → List DictEntry → Bool
  | [], [] => true
  | p :: r, u :: us => p.1.is u.key && (p.2.is u.val && allE r us)
  | _, _ => false
theorem allE_ok (f : Nat → DictEntry) : ∀ (ps : List (VP × VP)) (us : List DictEntry) (i : Nat), (∀ j, us.getD j ⟨0, .none, .none⟩ = f (i + j)) → allE ps us = true → us = dps f ps i
  | [], [], _, _, _ => rfl
  | [], _ :: _, _, _, h => by cases h
  | _ :: _, [], _, _, h => by cases h
  | p :: r, u :: us, i, hf, h => by
    obtain ⟨h1, h2⟩ := Bool.and_eq_true_iff.mp (show (p.1.is u.key && (p.2.is u.val && allE r us)) = true from h)
    obtain ⟨h2, h3⟩ := Bool.and_eq_true_iff.mp h2
    have e0 := hf 0
    show u :: us = ⟨(f i).hash, p.1.v (mkV (f i).key), p.2.v (mkV (f i).val)⟩ :: dps f r (i + 1)
    rw [← allE_ok f r us (i + 1) (fun j => by have := hf (j + 1); rw [show i + (j + 1) = i + 1 + j by omega] at this; exact this) h3]
    rw [show f i = u from e0.symm, ← VP.is_ok h1, ← VP.is_ok h2]
def dicB (K : Lk) (a : Addr) (ps : List (VP × VP)) : Bool := match K a with
  | some ⟨.type c, none, .dict es _, sl⟩ => decide (c = "dict") && (sl.isEmpty && allE ps es.toList)
  | _ => false
theorem dic_ok {a : Addr} {ps : List (VP × VP)} (h : dicB (lk K) a ps = true) : K.lookup a = some ⟨.type "dict", none, .dict (dps (entA (lk K) a) ps 0).toArray (numA (lk K) a), #[]⟩ := by
  unfold dicB at h
  unfold entA numA obj
  show lk K a = _
  cases q : lk K a with
  | none => rw [q] at h; cases h
  | some o =>
    obtain ⟨oc, od, dt, osl⟩ := o
    rw [q] at h
    cases oc with
    | type c =>
      cases od with
      | none =>
        cases dt with
        | dict es n =>
          obtain ⟨h1, h2⟩ := Bool.and_eq_true_iff.mp (show (decide (c = "dict") && (osl.isEmpty && allE ps es.toList)) = true from h)
          obtain ⟨h2, h3⟩ := Bool.and_eq_true_iff.mp h2
          have e := allE_ok (fun i => es.toList.getD i ⟨0, .none, .none⟩) ps es.toList 0 (fun j => by rw [Nat.zero_add]) h3
          have e1 : c = "dict" := of_decide_eq_true h1
          have e2 : osl = #[] := Array.isEmpty_iff.mp h2
          subst e1 e2
          show some (⟨.type "dict", none, .dict es n, #[]⟩ : Obj) = some ⟨.type "dict", none, .dict (dps (fun i => es.toList.getD i ⟨0, .none, .none⟩) ps 0).toArray n, #[]⟩
          rw [← e]
        | _ => cases h
      | some d => cases dt <;> cases h
    | _ => cases od <;> cases dt <;> cases h
def gvB (K : Lk) (x : Str) (p : VP) : Bool := match nsL K mainGlobals x with
  | some (some v) => p.is v
  | _ => false
def gvM (K : Lk) (x : Str) : Tok := match nsL K mainGlobals x with
  | some (some v) => mkV v
  | _ => default
theorem gv_ok {x : Str} {p : VP} (h : gvB (lk K) x p = true) : PySem.W.nsIn K mainGlobals x = some (some (p.v (gvM (lk K) x))) := by
  unfold gvB at h
  unfold gvM
  show PySem.W.nsIn K mainGlobals x = _
  cases q : nsL (lk K) mainGlobals x with
  | none => rw [q] at h; cases h
  | some o => cases o with
    | none => rw [q] at h; cases h
    | some v =>
      rw [q] at h
      rw [← nsL_eq, q, ← VP.is_ok h]
def slN (o : Obj) (i : Nat) : Option Value := o.slots.toList.getD i none
def excB (K : Lk) (a : Addr) : Bool := match K a with
  | some ⟨.type c, _, .cls cd, sl⟩ => decide (c = "type") && (cd.hasDict && (!cd.hasDel && ((match cd.mro with
    | .ref b :: _ => decide (b = a)
    | _ => false) && (decide (sl.toList.length = 6) && isV (sl.toList.getD 4 none) (.builtin "ValueError.__new__")))))
  | _ => false
theorem six {α : Type} : ∀ (l : List α) (d : α), l.length = 6 → l = [l.getD 0 d, l.getD 1 d, l.getD 2 d, l.getD 3 d, l.getD 4 d, l.getD 5 d]
  | [a, b, c, d, e, f], _, _ => rfl
theorem exc_ok {a : Addr} (h : excB (lk K) a = true) : K.lookup a = some (excClassObj (clO (lk K) a).name (clO (lk K) a).qualname a (clO (lk K) a).ns (clO (lk K) a).bases (clO (lk K) a).mro.tail true (clO (lk K) a).slotNames (clO (lk K) a).subclasses (clO (lk K) a).abstract (clO (lk K) a).collection (obj (lk K) a).dict (slN (obj (lk K) a) 0) (slN (obj (lk K) a) 1) (slN (obj (lk K) a) 2) (slN (obj (lk K) a) 3) (slN (obj (lk K) a) 5) "ValueError.__new__") := by
  unfold excB at h
  unfold clO slN obj
  show lk K a = _
  cases q : lk K a with
  | none => rw [q] at h; cases h
  | some o =>
    obtain ⟨oc, od, dt, osl⟩ := o
    rw [q] at h
    cases oc with
    | type c =>
      cases dt with
      | cls cd =>
        obtain ⟨h1, h⟩ := Bool.and_eq_true_iff.mp (show (decide (c = "type") && (cd.hasDict && (!cd.hasDel && ((match cd.mro with
          | .ref b :: _ => decide (b = a)
          | _ => false) && (decide (osl.toList.length = 6) && isV (osl.toList.getD 4 none) (.builtin "ValueError.__new__")))))) = true from h)
        obtain ⟨h2, h⟩ := Bool.and_eq_true_iff.mp h
        obtain ⟨h3, h⟩ := Bool.and_eq_true_iff.mp h
        obtain ⟨h4, h⟩ := Bool.and_eq_true_iff.mp h
        obtain ⟨h5, h6⟩ := Bool.and_eq_true_iff.mp h
        obtain ⟨n1, n2, n3, n4, n5, n6, n7, n8, n9, n10, n11⟩ := cd
        have e1 : c = "type" := of_decide_eq_true h1
        have e2 : n6 = true := h2
        have e3 : n11 = false := not_ok h3
        have e5 := six osl.toList none (of_decide_eq_true h5)
        have e6 := isV_ok h6
        rw [e6] at e5
        have e7 : osl = #[osl.toList.getD 0 none, osl.toList.getD 1 none, osl.toList.getD 2 none, osl.toList.getD 3 none, some (.builtin "ValueError.__new__"), osl.toList.getD 5 none] := Array.toList_inj.mp e5
        have e4 : n3 = .ref a :: n3.tail := by
          cases n3 with
          | nil => cases h4
          | cons v r => cases v with
            | ref b => rw [show b = a from of_decide_eq_true h4]; rfl
            | _ => cases h4
        subst e1 e2 e3
        show some (⟨.type "type", od, .cls ⟨n1, n2, n3, n4, n5, true, n7, n8, n9, n10, false⟩, osl⟩ : Obj) = some ⟨.type "type", od, .cls ⟨n1, n2, .ref a :: n3.tail, n4, n5, true, n7, n8, n9, n10, false⟩, #[osl.toList.getD 0 none, osl.toList.getD 1 none, osl.toList.getD 2 none, osl.toList.getD 3 none, some (.builtin "ValueError.__new__"), osl.toList.getD 5 none]⟩
        rw [← e4, ← e7]
      | _ => cases h
    | _ => cases dt <;> cases h
end
end Hd
set_option Elab.async false
set_option linter.all false
set_option maxRecDepth 100000
namespace L08.H
open PySem PySem.Spec PyProof.Rows L2
def top (i : Nat) : Stmt := PySem.Challenge.pw_whosetomorrow_k08_whole_texts_of_words.main.body.getD i (.Pass ⟨0, 0, 0, 0⟩)
def A_C1 (L : Hd.Lk) : Addr := Hd.gaL L "BadWord"
def A_C2 (L : Hd.Lk) : Addr := Hd.gaL L "BadText"
def A_C0 (L : Hd.Lk) : Addr := Hd.gaL L "TalkError"
def A_g_SINGLE_WORDS_a (L : Hd.Lk) : Addr := Hd.gaL L "SINGLE_WORDS"
def A_g_STEP_WORDS_a (L : Hd.Lk) : Addr := Hd.gaL L "STEP_WORDS"
def A_g_WEEKDAY_WORDS_a (L : Hd.Lk) : Addr := Hd.gaL L "WEEKDAY_WORDS"
def A_g_SINGLE_TEXTS_a (L : Hd.Lk) : Addr := Hd.gaL L "SINGLE_TEXTS"
def A_g_WORDS_OF_TEXTS_a (L : Hd.Lk) : Addr := Hd.gaL L "WORDS_OF_TEXTS"
def A_g_SIGNED_TEXTS_a (L : Hd.Lk) : Addr := Hd.gaL L "SIGNED_TEXTS"
def A_g_WEEKDAY_TEXTS_a (L : Hd.Lk) : Addr := Hd.gaL L "WEEKDAY_TEXTS"
def A_g_STEP_TEXTS_a (L : Hd.Lk) : Addr := Hd.gaL L "STEP_TEXTS"
def A_f29 (L : Hd.Lk) : Addr := Hd.gaL L "_law_hand"
def A_f30 (L : Hd.Lk) : Addr := Hd.gaL L "_law_mixed"
def A_f31 (L : Hd.Lk) : Addr := Hd.gaL L "_law_take"
def A_f32 (L : Hd.Lk) : Addr := Hd.gaL L "_law_name"
def A_f33 (L : Hd.Lk) : Addr := Hd.gaL L "_law_names"
def A_f34 (L : Hd.Lk) : Addr := Hd.gaL L "_law_world"
def A_f10 (L : Hd.Lk) : Addr := Hd.gaL L "is_whole"
def A_f11 (L : Hd.Lk) : Addr := Hd.gaL L "is_name"
def A_f12 (L : Hd.Lk) : Addr := Hd.gaL L "find_kind"
def A_f13 (L : Hd.Lk) : Addr := Hd.gaL L "kind_of"
def A_f14 (L : Hd.Lk) : Addr := Hd.gaL L "check_word"
def A_f22 (L : Hd.Lk) : Addr := Hd.gaL L "word_text"
def A_f45 (L : Hd.Lk) : Addr := Hd.gaL L "_law_written"
def A_f46 (L : Hd.Lk) : Addr := Hd.gaL L "_law_number"
def A_f43 (L : Hd.Lk) : Addr := Hd.gaL L "_law_word_text"
def A_f41 (L : Hd.Lk) : Addr := Hd.gaL L "_law_letters"
def A_f47 (L : Hd.Lk) : Addr := Hd.gaL L "_law_due"
def A_f23 (L : Hd.Lk) : Addr := Hd.gaL L "is_figures"
def A_f24 (L : Hd.Lk) : Addr := Hd.gaL L "number_from"
def A_f25 (L : Hd.Lk) : Addr := Hd.gaL L "find_signed"
def A_f26 (L : Hd.Lk) : Addr := Hd.gaL L "find_word"
def A_f27 (L : Hd.Lk) : Addr := Hd.gaL L "read_word"
def A_f44 (L : Hd.Lk) : Addr := Hd.gaL L "_law_read"
def A_f49 (L : Hd.Lk) : Addr := Hd.gaL L "_law_right"
def A_f37 (L : Hd.Lk) : Addr := Hd.gaL L "_law_person"
def A_f39 (L : Hd.Lk) : Addr := Hd.gaL L "_law_place"
def A_f35 (L : Hd.Lk) : Addr := Hd.gaL L "_law_step"
def A_f36 (L : Hd.Lk) : Addr := Hd.gaL L "_law_date"
def A_f38 (L : Hd.Lk) : Addr := Hd.gaL L "_law_day"
def A_f40 (L : Hd.Lk) : Addr := Hd.gaL L "_law_word"
def A_f42 (L : Hd.Lk) : Addr := Hd.gaL L "_law_odd_word"
def A_f48 (L : Hd.Lk) : Addr := Hd.gaL L "_law_near"
def A_f50 (L : Hd.Lk) : Addr := Hd.gaL L "law"
def A_f2_x (L : Hd.Lk) : Addr := Hd.maL L (A_C2 L) "__init__"
def F_0 : Hd.DX := ⟨fun L => (A_f29 L), "_law_hand", "_law_hand", defArgs (top 29), defBody (top 29), defScope (top 29), []⟩
def F_1 : Hd.DX := ⟨fun L => (A_f30 L), "_law_mixed", "_law_mixed", defArgs (top 30), defBody (top 30), defScope (top 30), []⟩
def F_2 : Hd.DX := ⟨fun L => (A_f31 L), "_law_take", "_law_take", defArgs (top 31), defBody (top 31), defScope (top 31), []⟩
def F_3 : Hd.DX := ⟨fun L => (A_f32 L), "_law_name", "_law_name", defArgs (top 32), defBody (top 32), defScope (top 32), []⟩
def F_4 : Hd.DX := ⟨fun L => (A_f33 L), "_law_names", "_law_names", defArgs (top 33), defBody (top 33), defScope (top 33), []⟩
def F_5 : Hd.DX := ⟨fun L => (A_f34 L), "_law_world", "_law_world", defArgs (top 34), defBody (top 34), defScope (top 34), []⟩
def F_6 : Hd.DX := ⟨fun L => (A_f10 L), "is_whole", "is_whole", defArgs (top 10), defBody (top 10), defScope (top 10), []⟩
def F_7 : Hd.DX := ⟨fun L => (A_f11 L), "is_name", "is_name", defArgs (top 11), defBody (top 11), defScope (top 11), []⟩
def F_8 : Hd.DX := ⟨fun L => (A_f12 L), "find_kind", "find_kind", defArgs (top 12), defBody (top 12), defScope (top 12), []⟩
def F_9 : Hd.DX := ⟨fun L => (A_f13 L), "kind_of", "kind_of", defArgs (top 13), defBody (top 13), defScope (top 13), []⟩
def F_10 : Hd.DX := ⟨fun L => (A_f14 L), "check_word", "check_word", defArgs (top 14), defBody (top 14), defScope (top 14), []⟩
def F_11 : Hd.DX := ⟨fun L => (A_f22 L), "word_text", "word_text", defArgs (top 22), defBody (top 22), defScope (top 22), []⟩
def F_12 : Hd.DX := ⟨fun L => (A_f45 L), "_law_written", "_law_written", defArgs (top 45), defBody (top 45), defScope (top 45), []⟩
def F_13 : Hd.DX := ⟨fun L => (A_f46 L), "_law_number", "_law_number", defArgs (top 46), defBody (top 46), defScope (top 46), []⟩
def F_14 : Hd.DX := ⟨fun L => (A_f43 L), "_law_word_text", "_law_word_text", defArgs (top 43), defBody (top 43), defScope (top 43), []⟩
def F_15 : Hd.DX := ⟨fun L => (A_f41 L), "_law_letters", "_law_letters", defArgs (top 41), defBody (top 41), defScope (top 41), []⟩
def F_16 : Hd.DX := ⟨fun L => (A_f47 L), "_law_due", "_law_due", defArgs (top 47), defBody (top 47), defScope (top 47), []⟩
def F_17 : Hd.DX := ⟨fun L => (A_f23 L), "is_figures", "is_figures", defArgs (top 23), defBody (top 23), defScope (top 23), []⟩
def F_18 : Hd.DX := ⟨fun L => (A_f24 L), "number_from", "number_from", defArgs (top 24), defBody (top 24), defScope (top 24), []⟩
def F_19 : Hd.DX := ⟨fun L => (A_f25 L), "find_signed", "find_signed", defArgs (top 25), defBody (top 25), defScope (top 25), []⟩
def F_20 : Hd.DX := ⟨fun L => (A_f26 L), "find_word", "find_word", defArgs (top 26), defBody (top 26), defScope (top 26), []⟩
def F_21 : Hd.DX := ⟨fun L => (A_f27 L), "read_word", "read_word", defArgs (top 27), defBody (top 27), defScope (top 27), []⟩
def F_22 : Hd.DX := ⟨fun L => (A_f44 L), "_law_read", "_law_read", defArgs (top 44), defBody (top 44), defScope (top 44), []⟩
def F_23 : Hd.DX := ⟨fun L => (A_f49 L), "_law_right", "_law_right", defArgs (top 49), defBody (top 49), defScope (top 49), []⟩
def F_24 : Hd.DX := ⟨fun L => (A_f37 L), "_law_person", "_law_person", defArgs (top 37), defBody (top 37), defScope (top 37), []⟩
def F_25 : Hd.DX := ⟨fun L => (A_f39 L), "_law_place", "_law_place", defArgs (top 39), defBody (top 39), defScope (top 39), []⟩
def F_26 : Hd.DX := ⟨fun L => (A_f35 L), "_law_step", "_law_step", defArgs (top 35), defBody (top 35), defScope (top 35), []⟩
def F_27 : Hd.DX := ⟨fun L => (A_f36 L), "_law_date", "_law_date", defArgs (top 36), defBody (top 36), defScope (top 36), []⟩
def F_28 : Hd.DX := ⟨fun L => (A_f38 L), "_law_day", "_law_day", defArgs (top 38), defBody (top 38), defScope (top 38), []⟩
def F_29 : Hd.DX := ⟨fun L => (A_f40 L), "_law_word", "_law_word", defArgs (top 40), defBody (top 40), defScope (top 40), []⟩
def F_30 : Hd.DX := ⟨fun L => (A_f42 L), "_law_odd_word", "_law_odd_word", defArgs (top 42), defBody (top 42), defScope (top 42), []⟩
def F_31 : Hd.DX := ⟨fun L => (A_f48 L), "_law_near", "_law_near", defArgs (top 48), defBody (top 48), defScope (top 48), []⟩
def F_32 : Hd.DX := ⟨fun L => (A_f50 L), "law", "law", defArgs (top 50), defBody (top 50), defScope (top 50), []⟩
def F_33 : Hd.DX := ⟨fun L => (A_f2_x L), "__init__", "BadText.__init__", defArgs (inClass (top 3) 0), defBody (inClass (top 3) 0), defScope (inClass (top 3) 0), []⟩
def ds0_0 : List Hd.DX := [F_0, F_1, F_2, F_3, F_4, F_5, F_6, F_7, F_8, F_9, F_10]
def ds0 : List Hd.DX := ds0_0
def fs0_0 : List Hd.Fx := [fun L K => Hd.isO (Hd.nsL L mainGlobals "all") (some none), fun L K => Hd.isO (Hd.nsL L mainGlobals "bool") (some none), fun L K => Hd.isO (Hd.nsL L mainGlobals "int") (some none), fun L K => Hd.isO (Hd.nsL L mainGlobals "isinstance") (some none), fun L K => Hd.isO (Hd.nsL L mainGlobals "len") (some none), fun L K => Hd.isO (Hd.nsL L mainGlobals "range") (some none), fun L K => Hd.isO (Hd.nsL L mainGlobals "str") (some none), fun L K => Hd.isO (Hd.nsL L mainGlobals "tuple") (some none), fun L K => Hd.isO (Hd.nsL L mainGlobals "BadWord") (some (some (.ref (A_C1 L)))), fun L K => PySem.W.excIn K (A_C1 L) PySem.HandSPX.veTail "ValueError.__new__", fun L K => PySem.W.keepIn K (.ref (A_C1 L)), fun L K => Hd.isB (PySem.W.subIn K (.ref (A_C1 L)) (.type "BaseException")) true, fun L K => Hd.isV (PySem.W.typeIn K (.ref (A_C1 L))) (.type "type"), fun L K => PySem.W.isClsIn K (A_C1 L), fun L K => Hd.isO (Hd.nsL L mainGlobals "BadText") (some (some (.ref (A_C2 L)))), fun L K => PySem.W.keepIn K (.ref (A_C2 L)), fun L K => Hd.isB (PySem.W.subIn K (.ref (A_C2 L)) (.type "BaseException")) true, fun L K => Hd.isV (PySem.W.typeIn K (.ref (A_C2 L))) (.type "type"), fun L K => PySem.W.isClsIn K (A_C2 L), fun L K => Hd.excB L (A_C2 L)]
def fs0_1 : List Hd.Fx := [fun L K => PySem.HandSPX.refsVE (Hd.clO L (A_C2 L)).mro.tail, fun L K => Hd.isO (PySem.W.findIn K (.ref (A_C2 L)) "__setattr__") (some (some (.builtin "object.__setattr__"))), fun L K => Hd.isO (PySem.W.findIn K (.ref (A_C2 L)) "position") (some none), fun L K => Hd.isO (PySem.W.findIn K (.ref (A_C2 L)) "what") (some none), fun L K => Hd.isO (Hd.nsL L mainGlobals "TalkError") (some (some (.ref (A_C0 L)))), fun L K => Hd.isO (PySem.W.specialIn K (.ref (A_C0 L)) "__getattribute__") (some (some (.builtin "type.__getattribute__"))), fun L K => PySem.W.readsIn K (A_C0 L) (.type "type"), fun L K => Hd.isF (PySem.W.findCls K (.ref (A_C0 L)) (.type "type") "__init__") (.builtin "ValueError.__init__"), fun L K => Hd.isO (PySem.W.findIn K (.ref (A_C2 L)) "__getattribute__") (some (some (.builtin "BaseException.__getattribute__"))), fun L K => Hd.isO (PySem.W.findIn K (.ref (A_C2 L)) "__getattr__") (some none), fun L K => PySem.W.hasDictIn K (A_C2 L), fun L K => Hd.isB (PySem.W.subIn K (.ref (A_C1 L)) (.ref (A_C1 L))) true, fun L K => Hd.isB (PySem.W.subIn K (.ref (A_C1 L)) (.ref (A_C2 L))) false, fun L K => Hd.isB (PySem.W.subIn K (.ref (A_C2 L)) (.ref (A_C1 L))) false, fun L K => Hd.isB (PySem.W.subIn K (.ref (A_C2 L)) (.ref (A_C2 L))) true, fun L K => Hd.gvB L "LETTERS" (.str "abcdefghijklmnopqrstuvwxyz"), fun L K => Hd.gvB L "MOST_STEP" (.int 30), fun L K => Hd.isO (Hd.nsL L mainGlobals "SINGLE_WORDS") (some (some (.ref (A_g_SINGLE_WORDS_a L)))), fun L K => Hd.dicB L (A_g_SINGLE_WORDS_a L) [(.str "I", .str "person"), (.str "you", .str "person"), (.str "self", .str "person"), (.str "told", .str "person"), (.str "somebody", .str "person"), (.str "one day", .str "day"), (.str "here", .str "place"), (.str "there", .str "place"), (.str "somewhere", .str "place")], fun L K => !(((A_g_SINGLE_WORDS_a L) == sysModules))]
def fs0_2 : List Hd.Fx := [fun L K => Hd.isO (Hd.nsL L mainGlobals "STEP_WORDS") (some (some (.ref (A_g_STEP_WORDS_a L)))), fun L K => Hd.tupB L (A_g_STEP_WORDS_a L) [.str "today", .str "that day"], fun L K => Hd.isO (Hd.nsL L mainGlobals "WEEKDAY_WORDS") (some (some (.ref (A_g_WEEKDAY_WORDS_a L)))), fun L K => Hd.tupB L (A_g_WEEKDAY_WORDS_a L) [.str "coming", .str "last", .str "then coming", .str "then last"], fun L K => Hd.gvB L "MOST_FIGURES" (.int 100), fun L K => Hd.isO (Hd.nsL L mainGlobals "SINGLE_TEXTS") (some (some (.ref (A_g_SINGLE_TEXTS_a L)))), fun L K => Hd.dicB L (A_g_SINGLE_TEXTS_a L) [(.str "I", .str "I"), (.str "you", .str "you"), (.str "self", .str "self"), (.str "told", .str "told"), (.str "somebody", .str "somebody"), (.str "one day", .str "someday"), (.str "here", .str "here"), (.str "there", .str "there"), (.str "somewhere", .str "somewhere")], fun L K => !(((A_g_SINGLE_TEXTS_a L) == sysModules)), fun L K => Hd.isO (Hd.nsL L mainGlobals "WORDS_OF_TEXTS") (some (some (.ref (A_g_WORDS_OF_TEXTS_a L)))), fun L K => Hd.dicB L (A_g_WORDS_OF_TEXTS_a L) [(.str "I", .str "I"), (.str "you", .str "you"), (.str "self", .str "self"), (.str "told", .str "told"), (.str "somebody", .str "somebody"), (.str "someday", .str "one day"), (.str "here", .str "here"), (.str "there", .str "there"), (.str "somewhere", .str "somewhere")], fun L K => !(((A_g_WORDS_OF_TEXTS_a L) == sysModules)), fun L K => Hd.isO (Hd.nsL L mainGlobals "SIGNED_TEXTS") (some (some (.ref (A_g_SIGNED_TEXTS_a L)))), fun L K => Hd.dicB L (A_g_SIGNED_TEXTS_a L) [(.str "name", .str "@"), (.str "place", .str "#"), (.str "date", .str "=")], fun L K => !(((A_g_SIGNED_TEXTS_a L) == sysModules)), fun L K => Hd.isO (Hd.nsL L mainGlobals "WEEKDAY_TEXTS") (some (some (.ref (A_g_WEEKDAY_TEXTS_a L)))), fun L K => Hd.dicB L (A_g_WEEKDAY_TEXTS_a L) [(.str "coming", .str "coming"), (.str "last", .str "last"), (.str "then coming", .str "thencoming"), (.str "then last", .str "thenlast")], fun L K => !(((A_g_WEEKDAY_TEXTS_a L) == sysModules)), fun L K => Hd.isO (Hd.nsL L mainGlobals "STEP_TEXTS") (some (some (.ref (A_g_STEP_TEXTS_a L)))), fun L K => Hd.dicB L (A_g_STEP_TEXTS_a L) [(.str "today", .str "today"), (.str "that day", .str "that")], fun L K => !(((A_g_STEP_TEXTS_a L) == sysModules))]
def fs0_3 : List Hd.Fx := [fun L K => Hd.isO (Hd.nsL L mainGlobals "_law_hand") (some (some (.ref (A_f29 L)))), fun L K => Hd.dfB L (A_f29 L) false, fun L K => Hd.codeL L (Hd.fdO L (A_f29 L)).code "_law_hand", fun L K => Hd.keepL L (A_f29 L), fun L K => Hd.isO (Hd.nsL L mainGlobals "_law_mixed") (some (some (.ref (A_f30 L))))]
def fs0 : List Hd.Fx := fs0_0 ++ (fs0_1 ++ (fs0_2 ++ (fs0_3)))
def ds1_0 : List Hd.DX := [F_11, F_12, F_13, F_14, F_15, F_16, F_17, F_18, F_19, F_20, F_21]
def ds1 : List Hd.DX := ds1_0
def fs1_0 : List Hd.Fx := [fun L K => Hd.dfB L (A_f30 L) false, fun L K => Hd.codeL L (Hd.fdO L (A_f30 L)).code "_law_mixed", fun L K => Hd.keepL L (A_f30 L), fun L K => Hd.isO (Hd.nsL L mainGlobals "_law_take") (some (some (.ref (A_f31 L)))), fun L K => Hd.dfB L (A_f31 L) false, fun L K => Hd.codeL L (Hd.fdO L (A_f31 L)).code "_law_take", fun L K => Hd.keepL L (A_f31 L), fun L K => Hd.isO (Hd.nsL L mainGlobals "_law_name") (some (some (.ref (A_f32 L)))), fun L K => Hd.dfB L (A_f32 L) false, fun L K => Hd.codeL L (Hd.fdO L (A_f32 L)).code "_law_name", fun L K => Hd.keepL L (A_f32 L), fun L K => Hd.isO (Hd.nsL L mainGlobals "_law_names") (some (some (.ref (A_f33 L)))), fun L K => Hd.dfB L (A_f33 L) false, fun L K => Hd.codeL L (Hd.fdO L (A_f33 L)).code "_law_names", fun L K => Hd.keepL L (A_f33 L), fun L K => Hd.isO (Hd.nsL L mainGlobals "_law_world") (some (some (.ref (A_f34 L)))), fun L K => Hd.dfB L (A_f34 L) false, fun L K => Hd.codeL L (Hd.fdO L (A_f34 L)).code "_law_world", fun L K => Hd.keepL L (A_f34 L), fun L K => Hd.isO (Hd.nsL L mainGlobals "is_whole") (some (some (.ref (A_f10 L))))]
def fs1_1 : List Hd.Fx := [fun L K => Hd.dfB L (A_f10 L) false, fun L K => Hd.codeL L (Hd.fdO L (A_f10 L)).code "is_whole", fun L K => Hd.keepL L (A_f10 L), fun L K => Hd.isO (Hd.nsL L mainGlobals "is_name") (some (some (.ref (A_f11 L)))), fun L K => Hd.dfB L (A_f11 L) false, fun L K => Hd.codeL L (Hd.fdO L (A_f11 L)).code "is_name", fun L K => Hd.keepL L (A_f11 L), fun L K => Hd.isO (Hd.nsL L mainGlobals "find_kind") (some (some (.ref (A_f12 L)))), fun L K => Hd.dfB L (A_f12 L) false, fun L K => Hd.codeL L (Hd.fdO L (A_f12 L)).code "find_kind", fun L K => Hd.keepL L (A_f12 L), fun L K => Hd.isO (Hd.nsL L mainGlobals "kind_of") (some (some (.ref (A_f13 L)))), fun L K => Hd.dfB L (A_f13 L) false, fun L K => Hd.codeL L (Hd.fdO L (A_f13 L)).code "kind_of", fun L K => Hd.keepL L (A_f13 L), fun L K => Hd.isO (Hd.nsL L mainGlobals "check_word") (some (some (.ref (A_f14 L)))), fun L K => Hd.dfB L (A_f14 L) false, fun L K => Hd.codeL L (Hd.fdO L (A_f14 L)).code "check_word", fun L K => Hd.keepL L (A_f14 L), fun L K => Hd.isO (Hd.nsL L mainGlobals "word_text") (some (some (.ref (A_f22 L))))]
def fs1_2 : List Hd.Fx := [fun L K => Hd.dfB L (A_f22 L) false, fun L K => Hd.codeL L (Hd.fdO L (A_f22 L)).code "word_text", fun L K => Hd.keepL L (A_f22 L), fun L K => Hd.isO (Hd.nsL L mainGlobals "_law_written") (some (some (.ref (A_f45 L)))), fun L K => Hd.dfB L (A_f45 L) false, fun L K => Hd.codeL L (Hd.fdO L (A_f45 L)).code "_law_written", fun L K => Hd.keepL L (A_f45 L), fun L K => Hd.isO (Hd.nsL L mainGlobals "_law_number") (some (some (.ref (A_f46 L)))), fun L K => Hd.dfB L (A_f46 L) false, fun L K => Hd.codeL L (Hd.fdO L (A_f46 L)).code "_law_number", fun L K => Hd.keepL L (A_f46 L), fun L K => Hd.isO (Hd.nsL L mainGlobals "_law_word_text") (some (some (.ref (A_f43 L)))), fun L K => Hd.dfB L (A_f43 L) false, fun L K => Hd.codeL L (Hd.fdO L (A_f43 L)).code "_law_word_text", fun L K => Hd.keepL L (A_f43 L), fun L K => Hd.isO (Hd.nsL L mainGlobals "_law_letters") (some (some (.ref (A_f41 L)))), fun L K => Hd.dfB L (A_f41 L) false, fun L K => Hd.codeL L (Hd.fdO L (A_f41 L)).code "_law_letters", fun L K => Hd.keepL L (A_f41 L), fun L K => Hd.isO (Hd.nsL L mainGlobals "_law_due") (some (some (.ref (A_f47 L))))]
def fs1_3 : List Hd.Fx := [fun L K => Hd.dfB L (A_f47 L) false, fun L K => Hd.codeL L (Hd.fdO L (A_f47 L)).code "_law_due", fun L K => Hd.keepL L (A_f47 L), fun L K => Hd.isO (Hd.nsL L mainGlobals "is_figures") (some (some (.ref (A_f23 L)))), fun L K => Hd.dfB L (A_f23 L) false, fun L K => Hd.codeL L (Hd.fdO L (A_f23 L)).code "is_figures"]
def fs1 : List Hd.Fx := fs1_0 ++ (fs1_1 ++ (fs1_2 ++ (fs1_3)))
def ds2_0 : List Hd.DX := [F_22, F_23, F_24, F_25, F_26, F_27, F_28, F_29, F_30, F_31, F_32, F_33]
def ds2 : List Hd.DX := ds2_0
def fs2_0 : List Hd.Fx := [fun L K => Hd.keepL L (A_f23 L), fun L K => Hd.isO (Hd.nsL L mainGlobals "number_from") (some (some (.ref (A_f24 L)))), fun L K => Hd.dfB L (A_f24 L) false, fun L K => Hd.codeL L (Hd.fdO L (A_f24 L)).code "number_from", fun L K => Hd.keepL L (A_f24 L), fun L K => Hd.isO (Hd.nsL L mainGlobals "find_signed") (some (some (.ref (A_f25 L)))), fun L K => Hd.dfB L (A_f25 L) false, fun L K => Hd.codeL L (Hd.fdO L (A_f25 L)).code "find_signed", fun L K => Hd.keepL L (A_f25 L), fun L K => Hd.isO (Hd.nsL L mainGlobals "find_word") (some (some (.ref (A_f26 L)))), fun L K => Hd.dfB L (A_f26 L) false, fun L K => Hd.codeL L (Hd.fdO L (A_f26 L)).code "find_word", fun L K => Hd.keepL L (A_f26 L), fun L K => Hd.isO (Hd.nsL L mainGlobals "read_word") (some (some (.ref (A_f27 L)))), fun L K => Hd.dfB L (A_f27 L) false, fun L K => Hd.codeL L (Hd.fdO L (A_f27 L)).code "read_word", fun L K => Hd.keepL L (A_f27 L), fun L K => Hd.isO (Hd.nsL L mainGlobals "_law_read") (some (some (.ref (A_f44 L)))), fun L K => Hd.dfB L (A_f44 L) false, fun L K => Hd.codeL L (Hd.fdO L (A_f44 L)).code "_law_read"]
def fs2_1 : List Hd.Fx := [fun L K => Hd.keepL L (A_f44 L), fun L K => Hd.isO (Hd.nsL L mainGlobals "_law_right") (some (some (.ref (A_f49 L)))), fun L K => Hd.dfB L (A_f49 L) false, fun L K => Hd.codeL L (Hd.fdO L (A_f49 L)).code "_law_right", fun L K => Hd.keepL L (A_f49 L), fun L K => Hd.isO (Hd.nsL L mainGlobals "_law_person") (some (some (.ref (A_f37 L)))), fun L K => Hd.dfB L (A_f37 L) false, fun L K => Hd.codeL L (Hd.fdO L (A_f37 L)).code "_law_person", fun L K => Hd.keepL L (A_f37 L), fun L K => Hd.isO (Hd.nsL L mainGlobals "_law_place") (some (some (.ref (A_f39 L)))), fun L K => Hd.dfB L (A_f39 L) false, fun L K => Hd.codeL L (Hd.fdO L (A_f39 L)).code "_law_place", fun L K => Hd.keepL L (A_f39 L), fun L K => Hd.isO (Hd.nsL L mainGlobals "_law_step") (some (some (.ref (A_f35 L)))), fun L K => Hd.dfB L (A_f35 L) false, fun L K => Hd.codeL L (Hd.fdO L (A_f35 L)).code "_law_step", fun L K => Hd.keepL L (A_f35 L), fun L K => Hd.isO (Hd.nsL L mainGlobals "_law_date") (some (some (.ref (A_f36 L)))), fun L K => Hd.dfB L (A_f36 L) false, fun L K => Hd.codeL L (Hd.fdO L (A_f36 L)).code "_law_date"]
def fs2_2 : List Hd.Fx := [fun L K => Hd.keepL L (A_f36 L), fun L K => Hd.isO (Hd.nsL L mainGlobals "_law_day") (some (some (.ref (A_f38 L)))), fun L K => Hd.dfB L (A_f38 L) false, fun L K => Hd.codeL L (Hd.fdO L (A_f38 L)).code "_law_day", fun L K => Hd.keepL L (A_f38 L), fun L K => Hd.isO (Hd.nsL L mainGlobals "_law_word") (some (some (.ref (A_f40 L)))), fun L K => Hd.dfB L (A_f40 L) false, fun L K => Hd.codeL L (Hd.fdO L (A_f40 L)).code "_law_word", fun L K => Hd.keepL L (A_f40 L), fun L K => Hd.isO (Hd.nsL L mainGlobals "_law_odd_word") (some (some (.ref (A_f42 L)))), fun L K => Hd.dfB L (A_f42 L) false, fun L K => Hd.codeL L (Hd.fdO L (A_f42 L)).code "_law_odd_word", fun L K => Hd.keepL L (A_f42 L), fun L K => Hd.isO (Hd.nsL L mainGlobals "_law_near") (some (some (.ref (A_f48 L)))), fun L K => Hd.dfB L (A_f48 L) false, fun L K => Hd.codeL L (Hd.fdO L (A_f48 L)).code "_law_near", fun L K => Hd.keepL L (A_f48 L), fun L K => Hd.isO (Hd.nsL L mainGlobals "law") (some (some (.ref (A_f50 L)))), fun L K => Hd.dfB L (A_f50 L) false, fun L K => Hd.codeL L (Hd.fdO L (A_f50 L)).code "law"]
def fs2_3 : List Hd.Fx := [fun L K => Hd.keepL L (A_f50 L), fun L K => Hd.isO (PySem.W.findIn K (.ref (A_C2 L)) "__init__") (some (some (.ref (A_f2_x L)))), fun L K => Hd.dfB L (A_f2_x L) false, fun L K => Hd.codeL L (Hd.fdO L (A_f2_x L)).code "BadText.__init__", fun L K => Hd.keepL L (A_f2_x L), fun L K => Hd.isFL L (A_f2_x L)]
def fs2 : List Hd.Fx := fs2_0 ++ (fs2_1 ++ (fs2_2 ++ (fs2_3)))
def ds : List Hd.DX := ds0 ++ (ds1 ++ (ds2))
def fs : List Hd.Fx := fs0 ++ (fs1 ++ (fs2))
def names_0 : List PySem.Str := ["__name__", "TalkError", "BadWord", "BadText", "LETTERS", "MOST_STEP", "SINGLE_WORDS", "STEP_WORDS", "WEEKDAY_WORDS", "is_whole", "is_name", "find_kind", "kind_of", "check_word", "MOST_FIGURES", "SINGLE_TEXTS", "WORDS_OF_TEXTS", "SIGNED_TEXTS", "WEEKDAY_TEXTS", "STEP_TEXTS"]
def names_1 : List PySem.Str := ["word_text", "is_figures", "number_from", "find_signed", "find_word", "read_word", "_law_hand", "_law_mixed", "_law_take", "_law_name", "_law_names", "_law_world", "_law_step", "_law_date", "_law_person", "_law_day", "_law_place", "_law_word", "_law_letters", "_law_odd_word"]
def names_2 : List PySem.Str := ["_law_word_text", "_law_read", "_law_written", "_law_number", "_law_due", "_law_near", "_law_right"]
def names : List PySem.Str := names_0 ++ (names_1 ++ (names_2))
abbrev R : PySem.W.OpenRow := PySem.W.OpenLaw.row PySem.Challenge.rw_whosetomorrow_k08_whole_texts_of_words
abbrev hk : PySem.W.Hook := Hd.hookX 2000 fs ds
def ob (s : PySem.W.SharedT) : Hd.AlX := Hd.obT 2000 fs ds s
theorem ob_eq (s : PySem.W.SharedT) : ob s = hk.obs s.abs := Hd.obT_eq s
set_option maxHeartbeats 0 in
theorem run0F (w : World) : HandSHeadRun.RunEq R (PySem.W.view R.prog [50]) (Hd.hookX 2000 fs0 ds0) (Hd.obT 2000 fs0 ds0) 60000 names (w.withFollow "special-get-raises" false) := by
  intro os
  kernel_rfl
set_option maxHeartbeats 0 in
theorem run0T (w : World) : HandSHeadRun.RunEq R (PySem.W.view R.prog [50]) (Hd.hookX 2000 fs0 ds0) (Hd.obT 2000 fs0 ds0) 60000 names (w.withFollow "special-get-raises" true) := by
  intro os
  kernel_rfl
theorem run0 (w : World) : HandSHeadRun.RunEq R (PySem.W.view R.prog [50]) (Hd.hookX 2000 fs0 ds0) (Hd.obT 2000 fs0 ds0) 60000 names w := PySem.W.byRow2 "special-get-raises" (P := fun w => HandSHeadRun.RunEq R (PySem.W.view R.prog [50]) (Hd.hookX 2000 fs0 ds0) (Hd.obT 2000 fs0 ds0) 60000 names w) run0F run0T w
set_option maxHeartbeats 0 in
theorem run1F (w : World) : Hd.RunO R 2000 fs1 ds1 60000 (w.withFollow "special-get-raises" false) := by
  intro os
  kernel_rfl
set_option maxHeartbeats 0 in
theorem run1T (w : World) : Hd.RunO R 2000 fs1 ds1 60000 (w.withFollow "special-get-raises" true) := by
  intro os
  kernel_rfl
theorem run1 (w : World) : Hd.RunO R 2000 fs1 ds1 60000 w := PySem.W.byRow2 "special-get-raises" (P := fun w => Hd.RunO R 2000 fs1 ds1 60000 w) run1F run1T w
set_option maxHeartbeats 0 in
theorem run2F (w : World) : Hd.RunO R 2000 fs2 ds2 60000 (w.withFollow "special-get-raises" false) := by
  intro os
  kernel_rfl
set_option maxHeartbeats 0 in
theorem run2T (w : World) : Hd.RunO R 2000 fs2 ds2 60000 (w.withFollow "special-get-raises" true) := by
  intro os
  kernel_rfl
theorem run2 (w : World) : Hd.RunO R 2000 fs2 ds2 60000 w := PySem.W.byRow2 "special-get-raises" (P := fun w => Hd.RunO R 2000 fs2 ds2 60000 w) run2F run2T w
theorem run (w : World) : HandSHeadRun.RunEq R (PySem.W.view R.prog [50]) hk ob 60000 names w := Hd.RunEq_app (run0 w) (Hd.RunO.app (run1 w) (run2 w))
end L08.H
open Lean in
local macro_rules
  | `(tactic| simp only [$ls,*] $[$l]?) => do
    let ws : List (Name × String) := [(`RFS, "startE List.map List.length List.replicate e_Seq e_Asg e_Ret e_RetF e_Expr e_exprK e_op e_op2 e_op1 e_un e_is e_B e_bK e_Cons e_consK e_consK2 e_Nil e_var e_C e_bind e_bindX e_bindB e_lookS e_lookO M.toD e_of e_asgK e_gSet e_stK e_sqN e_sqR e_sqB e_sqC e_sNil e_retK e_retFK e_add e_vI e_neg e_fInt e_fIntB e_sIf e_sifT e_sifF e_T e_toB e_Tru e_truB e_And e_Or e_andT e_andF e_orT e_orF e_Not e_notK e_AndV e_OrV e_andVT e_andVF e_orVT e_orVF e_NotV e_notVK e_If e_ifT e_ifF e_Tup e_Lst e_LstF e_tup0 e_lst0 e_lstF0 e_eqI e_neI e_ltI e_leI e_gtI e_geI e_lenL e_lenT e_lenR e_lenS e_ixL e_ixT at0 at1 at2 at3 e_tupL e_tupT e_lstT e_Own e_ownK e_Sub e_For e_Items e_itL e_itT e_itR e_Call e_CallF e_aNil e_aVal e_aVK e_aVK2 step0 step1 step2 step3 out0 out1 out2 out3 outX1 outX2 outO1 outO2 outO3 e_onSh e_onOw decide_true decide_false Bool.not_true Bool.not_false List.cons_append List.nil_append List.getElem?_cons_zero List.getElem?_cons_succ List.set_cons_zero List.set_cons_succ Nat.reduceLT Nat.reduceAdd Nat.reduceSub Option.map_some finF outsE e_frz d_rng7 e_forK e_tnN e_tnC e_tnB e_tnR e_whT e_whF e_Raise e_Par e_parK e_parK2 e_augK e_Ch e_chK1 e_chK2 e_chT e_chF e_Try e_tryO e_tru e_While e_abs e_max2 e_min2 e_gSq2 e_tup1 e_lst1 e_tup2 e_lst2 e_tup3 e_lst3 e_tup4 e_lst4 e_tup5 e_lst5 e_tup6 e_lst6 e_tup7 e_lst7 e_tup8 e_lst8"), (`RVS, "e_RaF e_raF1 e_raF2 e_TryA e_tryAO e_asgnK e_frzX e_bindX e_Fld e_SFld e_Mk e_mkK1 e_mkK2 e_mkK3 e_mkK4 e_mkO e_mkX e_Met e_metK2 e_Enum e_enumL e_enumT pairs2 pairs3 pairs4 e_lst13 e_lst14 e_lst15 e_lst16 e_lst9 e_lst10 e_lst11 e_lst12 e_tup9 e_tup10 e_tup11 e_tup12 e_ListF e_listFT e_listFL e_GetK e_getK e_IfB e_ifBT e_ifBF e_notB e_isB o_int o_str o_tup o_lst o_non o_bl n_int n_str n_tup n_lst n_non n_bl"), (`SLS, "e_Sl e_sl1 e_sl2 e_sl3 e_NoPart e_Part e_prt step4 out4"), (`TIS, "t_fld t_eq t_ne t_len t_is t_itm t_of t_of2 t_lst")]
    let es := ls.getElems
    let known := fun (x : Syntax) => if x.getNumArgs == 3 && x[0].getNumArgs == 0 && x[1].getNumArgs == 0 && x[2].isIdent then ws.lookup x[2].getId else none
    unless es.any (fun x => (known x.raw).isSome) do Macro.throwUnsupported
    let mut zs : Array (TSyntax [``Lean.Parser.Tactic.simpStar, ``Lean.Parser.Tactic.simpErase, ``Lean.Parser.Tactic.simpLemma]) := #[]
    for x in es do
      match known x.raw with
      | some w =>
        for s in w.splitOn " " do
          let y ← `(Lean.Parser.Tactic.simpLemma| $(mkIdent s.toName):ident)
          zs := zs.push ⟨y.raw⟩
      | none => zs := zs.push x
    `(tactic| simp only [$zs,*] $[$l]?)
set_option Elab.async false
set_option linter.all false
set_option maxRecDepth 100000
namespace Rf
open PySem L2

inductive D where
  | non | bl (b : Bool) | int (i : Int) | str (x : Str) | tup (ds : List D) | lst (ds : List D) | scr (ds : List D)
  | ins (c : Nat) (fs : List (Str × D)) | dic (ks : List (Key × D))
inductive M where
  | lst (ds : List D) | ins (c : Nat) (fs : List (Str × D)) | dic (ks : List (Key × D))
def M.toD : M → D
  | .lst ds => .lst ds
  | .ins c fs => .ins c fs
  | .dic ks => .dic ks
inductive DV where
  | sh (d : D) | ow (m : M)
abbrev ENV := List (Option DV)
structure EX where
  c : Nat
  fs : List (Str × D)
inductive R (α : Type) where
  | ok (a : α) (ρ : ENV) | exc (e : EX) (ρ : ENV) | bot
def R.bind {α β : Type} (r : R α) (f : α → ENV → R β) : R β := match r with
  | .ok a ρ => f a ρ
  | .exc e ρ => .exc e ρ
  | .bot => .bot
def R.of {α : Type} (o : Option α) (ρ : ENV) : R α := match o with
  | some a => .ok a ρ
  | none => .bot

mutual
inductive Rp (K : PySem.W.Frag) (C : Nat → Addr) (G : Hp) : V → D → Prop
  | non : Rp K C G .non .non
  | bl (b : Bool) : Rp K C G (.bl b) (.bl b)
  | int (i : Int) : Rp K C G (.int i) (.int i)
  | str (x : Str) (h : x.length ≤ sizeLine) : Rp K C G (.str x) (.str x)
  | tup {a : Addr} {xs : List V} {ds : List D} (h : SqT K G a xs) (r : RpL K C G xs ds) : Rp K C G (.ref a) (.tup ds)
  | lst {a : Addr} {xs : List V} {ds : List D} (h : G a = some (.lst xs)) (r : RpL K C G xs ds) : Rp K C G (.ref a) (.lst ds)
  | scr {a : Addr} {xs : List V} {ds : List D} (h : SqL K G a xs) (r : RpL K C G xs ds) : Rp K C G (.ref a) (.scr ds)
  | ins {a dx : Addr} {c : Nat} {fl : List (Str × V)} {fs : List (Str × D)} (h : G a = some (.ins (C c) dx fl)) (r : RpF K C G fl fs) : Rp K C G (.ref a) (.ins c fs)
  | dic {a : Addr} {kv : List (Key × V)} {ks : List (Key × D)} (h : G a = some (.dK kv)) (r : RpK K C G kv ks) : Rp K C G (.ref a) (.dic ks)
inductive RpL (K : PySem.W.Frag) (C : Nat → Addr) (G : Hp) : List V → List D → Prop
  | nil : RpL K C G [] []
  | cons {v : V} {d : D} {vs : List V} {ds : List D} (h : Rp K C G v d) (r : RpL K C G vs ds) : RpL K C G (v :: vs) (d :: ds)
inductive RpF (K : PySem.W.Frag) (C : Nat → Addr) (G : Hp) : List (Str × V) → List (Str × D) → Prop
  | nil : RpF K C G [] []
  | cons {n : Str} {v : V} {d : D} {vs : List (Str × V)} {ds : List (Str × D)} (h : Rp K C G v d) (r : RpF K C G vs ds) : RpF K C G ((n, v) :: vs) ((n, d) :: ds)
inductive RpK (K : PySem.W.Frag) (C : Nat → Addr) (G : Hp) : List (Key × V) → List (Key × D) → Prop
  | nil : RpK K C G [] []
  | cons {n : Key} {v : V} {d : D} {vs : List (Key × V)} {ds : List (Key × D)} (h : Rp K C G v d) (r : RpK K C G vs ds) : RpK K C G ((n, v) :: vs) ((n, d) :: ds)
end

theorem same_seqT {K : PySem.W.Frag} {H H' : Hp} {a : Addr} {xs : List V} (e : Same H H') (h : SqT K H a xs) : SqT K H' a xs := by
  rcases h with (h | ⟨o, h⟩) | h
  · exact .inl (.inl (e _ _ h))
  · exact .inl (.inr ⟨o, e _ _ h⟩)
  · exact .inr h

mutual
theorem Rp.mono {K : PySem.W.Frag} {C : Nat → Addr} {G G' : Hp} (s : Same G G') {v : V} {d : D} : Rp K C G v d → Rp K C G' v d
  | .non => .non
  | .bl b => .bl b
  | .int i => .int i
  | .str x h => .str x h
  | .tup h r => .tup (same_seqT s h) (r.mono s)
  | .lst h r => .lst (s _ _ h) (r.mono s)
  | .scr h r => .scr (Same.seq s h) (r.mono s)
  | .ins h r => .ins (s _ _ h) (r.mono s)
  | .dic h r => .dic (s _ _ h) (r.mono s)
theorem RpL.mono {K : PySem.W.Frag} {C : Nat → Addr} {G G' : Hp} (s : Same G G') {v : List V} {d : List D} : RpL K C G v d → RpL K C G' v d
  | .nil => .nil
  | .cons h r => .cons (h.mono s) (r.mono s)
theorem RpF.mono {K : PySem.W.Frag} {C : Nat → Addr} {G G' : Hp} (s : Same G G') {v : List (Str × V)} {d : List (Str × D)} : RpF K C G v d → RpF K C G' v d
  | .nil => .nil
  | .cons h r => .cons (h.mono s) (r.mono s)
theorem RpK.mono {K : PySem.W.Frag} {C : Nat → Addr} {G G' : Hp} (s : Same G G') {v : List (Key × V)} {d : List (Key × D)} : RpK K C G v d → RpK K C G' v d
  | .nil => .nil
  | .cons h r => .cons (h.mono s) (r.mono s)
end

theorem RpL.length {K : PySem.W.Frag} {C : Nat → Addr} {G : Hp} : ∀ {v : List V} {d : List D}, RpL K C G v d → v.length = d.length
  | _, _, .nil => rfl
  | _, _, .cons _ r => congrArg (· + 1) r.length
theorem RpL.append {K : PySem.W.Frag} {C : Nat → Addr} {G : Hp} : ∀ {v w : List V} {d e : List D}, RpL K C G v d → RpL K C G w e → RpL K C G (v ++ w) (d ++ e)
  | _, _, _, _, .nil, s => s
  | _, _, _, _, .cons h r, s => .cons h (r.append s)
theorem RpL.get {K : PySem.W.Frag} {C : Nat → Addr} {G : Hp} : ∀ {v : List V} {d : List D} {i : Nat} {x : D}, RpL K C G v d → d[i]? = some x → ∃ y, v[i]? = some y ∧ Rp K C G y x
  | _, _, i, _, .nil, e => by simp at e
  | _, _, 0, _, .cons h _, e => by simp at e; subst e; exact ⟨_, rfl, h⟩
  | _, _, i + 1, x, .cons _ r, e => by
    obtain ⟨u, h1, h2⟩ := RpL.get (i := i) (x := x) r (by simpa using e)
    exact ⟨u, by simpa using h1, h2⟩
theorem RpL.getV {K : PySem.W.Frag} {C : Nat → Addr} {G : Hp} : ∀ {v : List V} {d : List D} {i : Nat} {y : V}, RpL K C G v d → v[i]? = some y → ∃ x, d[i]? = some x ∧ Rp K C G y x
  | _, _, i, _, .nil, e => by simp at e
  | _, _, 0, _, .cons h _, e => by simp at e; subst e; exact ⟨_, rfl, h⟩
  | _, _, i + 1, y, .cons _ r, e => by
    obtain ⟨u, h1, h2⟩ := RpL.getV (i := i) (y := y) r (by simpa using e)
    exact ⟨u, by simpa using h1, h2⟩
theorem RpL.set {K : PySem.W.Frag} {C : Nat → Addr} {G : Hp} {x : V} {y : D} (q : Rp K C G x y) : ∀ {v : List V} {d : List D} (i : Nat), RpL K C G v d → RpL K C G (v.set i x) (d.set i y)
  | _, _, _, .nil => .nil
  | _, _, 0, .cons _ r => .cons q r
  | _, _, i + 1, .cons h r => .cons h (RpL.set q i r)
theorem RpL.take {K : PySem.W.Frag} {C : Nat → Addr} {G : Hp} : ∀ {v : List V} {d : List D} (n : Nat), RpL K C G v d → RpL K C G (v.take n) (d.take n)
  | _, _, 0, _ => by simp; exact .nil
  | _, _, _ + 1, .nil => .nil
  | _, _, n + 1, .cons h r => .cons h (RpL.take n r)
theorem RpL.drop {K : PySem.W.Frag} {C : Nat → Addr} {G : Hp} : ∀ {v : List V} {d : List D} (n : Nat), RpL K C G v d → RpL K C G (v.drop n) (d.drop n)
  | _, _, 0, r => r
  | _, _, _ + 1, .nil => .nil
  | _, _, n + 1, .cons _ r => RpL.drop n r

def HoldsM (K : PySem.W.Frag) (C : Nat → Addr) (G : Hp) (o : HO) : M → Prop
  | .lst ds => ∃ xs, o = .lst xs ∧ RpL K C G xs ds
  | .ins c fs => ∃ dx fl, o = .ins (C c) dx fl ∧ RpF K C G fl fs
  | .dic ks => ∃ kv, o = .dK kv ∧ RpK K C G kv ks
theorem HoldsM.mono {K : PySem.W.Frag} {C : Nat → Addr} {G G' : Hp} (s : Same G G') {o : HO} {m : M} (h : HoldsM K C G o m) : HoldsM K C G' o m := by
  cases m with
  | lst ds => obtain ⟨xs, e, r⟩ := h; exact ⟨xs, e, r.mono s⟩
  | ins c fs => obtain ⟨dx, fl, e, r⟩ := h; exact ⟨dx, fl, e, r.mono s⟩
  | dic ks => obtain ⟨kv, e, r⟩ := h; exact ⟨kv, e, r.mono s⟩
structure Own (K : PySem.W.Frag) (C : Nat → Addr) (B G H : Hp) (p : Addr) (m : M) : Prop where
  nb : B p = none
  ng : G p = none
  at_ : ∃ o, H p = some o ∧ HoldsM K C G o m
structure Cc where
  C : Nat → Addr
  W : WX
  pr : List Nat
  ad : Nat → Addr
  kb : Hp
structure Rl (K : PySem.W.Frag) (cc : Cc) (B : Hp) (ρ : ENV) (σ : St) (G H : Hp) : Prop where
  bk : Same B H
  gk : Same G H
  ln : σ.length = ρ.length
  sh : ∀ (i : Nat) (d : D), ρ[i]? = some (some (.sh d)) → ∃ v, σ[i]? = some (some v) ∧ Rp K cc.C G v d
  ow : ∀ (i : Nat) (m : M), ρ[i]? = some (some (.ow m)) → ∃ p, σ[i]? = some (some (.ref p)) ∧ Own K cc.C B G H p m
  df : ∀ (i j : Nat) (m m' : M) (p : Addr), ρ[i]? = some (some (.ow m)) → ρ[j]? = some (some (.ow m')) → σ[i]? = some (some (.ref p)) → σ[j]? = some (some (.ref p)) → i = j
  pa : ∀ (i : Nat), i ∈ cc.pr → σ[i]? = some (some (.ref (cc.ad i)))
  kg : Same cc.kb G
structure Ext (B G G' : Hp) : Prop where
  gg : Same G G'
  nb : ∀ a o, G' a = some o → G a = some o ∨ B a = none
theorem Ext.refl (B G : Hp) : Ext B G G := ⟨Same.refl G, fun _ _ h => .inl h⟩
theorem Ext.trans {B G G1 G2 : Hp} (a : Ext B G G1) (b : Ext B G1 G2) : Ext B G G2 := ⟨a.gg.trans b.gg, fun c o h => by
  rcases b.nb c o h with h | h
  · exact a.nb c o h
  · exact .inr h⟩
structure Grow (G H G' H' : Hp) : Prop where
  gg : Same G G'
  hh : Same H H'
  gh : Same G' H'
  nw : ∀ a o, G' a = some o → G a = some o ∨ H a = none
theorem Grow.refl {G H : Hp} (s : Same G H) : Grow G H G H := ⟨Same.refl G, Same.refl H, s, fun _ _ h => .inl h⟩
theorem Grow.trans {G H G1 H1 G2 H2 : Hp} (a : Grow G H G1 H1) (b : Grow G1 H1 G2 H2) : Grow G H G2 H2 := ⟨a.gg.trans b.gg, a.hh.trans b.hh, b.gh, fun c o h => by
  rcases b.nw c o h with h | h
  · exact a.nw c o h
  · exact .inr (a.hh.free h)⟩
theorem same_upd {H : Hp} {p : Addr} {o : HO} (h : H p = none) : Same H (upd H p o) := fun b u e => by rw [upd_ne (ne_of_none e h)]; exact e
theorem same_upd2 {G H : Hp} {p : Addr} {o : HO} (s : Same G H) : Same (upd G p o) (upd H p o) := fun b u e => by
  by_cases q : b = p
  · subst q; rw [upd_same] at e ⊢; exact e
  · rw [upd_ne q] at e ⊢; exact s _ _ e
theorem Grow.new {G H : Hp} {p : Addr} {o : HO} (s : Same G H) (h : H p = none) : Grow G H (upd G p o) (upd H p o) :=
  ⟨same_upd (s.free h), same_upd h, same_upd2 s, fun a u e => by
    by_cases q : a = p
    · subst q; exact .inr h
    · rw [upd_ne q] at e; exact .inl e⟩
theorem Grow.newO {G H : Hp} {p : Addr} {o : HO} (s : Same G H) (h : H p = none) : Grow G H G (upd H p o) :=
  ⟨Same.refl G, same_upd h, s.trans (same_upd h), fun a u e => .inl e⟩
section
variable {K : PySem.W.Frag} {cc : Cc} {B : Hp} {ρ : ENV} {σ : St} {G H G' H' : Hp}
theorem Own.grow {p : Addr} {m : M} (o : Own K cc.C B G H p m) (g : Grow G H G' H') : Own K cc.C B G' H' p m := by
  obtain ⟨x, hx, hm⟩ := o.at_
  refine ⟨o.nb, ?_, x, g.hh _ _ hx, hm.mono g.gg⟩
  cases q : G' p with
  | none => rfl
  | some u =>
    rcases g.nw p u q with h | h
    · rw [o.ng] at h; cases h
    · rw [hx] at h; cases h
theorem Rl.grow (r : Rl K cc B ρ σ G H) (g : Grow G H G' H') : Rl K cc B ρ σ G' H' where
  bk := r.bk.trans g.hh
  gk := g.gh
  ln := r.ln
  sh := fun i d e => let ⟨v, h, p⟩ := r.sh i d e; ⟨v, h, p.mono g.gg⟩
  ow := fun i m e => let ⟨p, h, o⟩ := r.ow i m e; ⟨p, h, o.grow g⟩
  df := r.df
  pa := r.pa
  kg := r.kg.trans g.gg
theorem Grow.ext (g : Grow G H G' H') (bk : Same B H) : Ext B G G' := ⟨g.gg, fun a o e => by
  rcases g.nw a o e with h | h
  · exact .inl h
  · exact .inr (bk.free h)⟩
end

def ERp (K : PySem.W.Frag) (C : Nat → Addr) (G : Hp) (e : EX) (cl : Value) (dd : Option Addr) : Prop :=
  cl = .ref (C e.c) ∧ ((e.fs = [] ∧ dd = none) ∨ ∃ dx fl, dd = some dx ∧ G dx = some (.xd fl) ∧ RpF K C G fl e.fs)

def Post {α β : Type} (K : PySem.W.Frag) (cc : Cc) (Vr : Hp → β → α → Prop) (B G : Hp) (σ : St) (Q : β → Hp → Prop) (r : R α) : Prop := match r with
  | .ok d ρ' => ∀ v G' H', Ext B G G' → Rl K cc B ρ' σ G' H' → Vr G' v d → Q v H'
  | .exc e ρ' => ∀ cl dd G' H', Ext B G G' → Rl K cc B ρ' σ G' H' → ERp K cc.C G' e cl dd → cc.W cl dd σ H'
  | .bot => False
theorem Post.bind {α β γ δ : Type} {K : PySem.W.Frag} {cc : Cc} {V1 : Hp → β → α → Prop} {V2 : Hp → δ → γ → Prop} {B G : Hp} {σ : St} {Q : δ → Hp → Prop} {Q' : β → Hp → Prop} {r : R α} {f : α → ENV → R γ}
    (h : Post K cc V2 B G σ Q (r.bind f))
    (k : ∀ d ρ1 G1 H1 x, Ext B G G1 → Rl K cc B ρ1 σ G1 H1 → V1 G1 x d → Post K cc V2 B G1 σ Q (f d ρ1) → Q' x H1) : Post K cc V1 B G σ Q' r := by
  cases r with
  | ok d ρ1 =>
    intro v G1 H1 e1 R1 p1
    refine k d ρ1 G1 H1 v e1 R1 p1 ?_
    have h : Post K cc V2 B G σ Q (f d ρ1) := h
    revert h
    cases f d ρ1 with
    | ok c ρ2 => exact fun h v G' H' e R' p => h v G' H' (e1.trans e) R' p
    | exc c ρ2 => exact fun h cl dd G' H' e R' p => h cl dd G' H' (e1.trans e) R' p
    | bot => exact id
  | exc e ρ1 => exact h
  | bot => exact h
theorem Post.mono {α β : Type} {K : PySem.W.Frag} {cc : Cc} {V1 : Hp → β → α → Prop} {B G : Hp} {σ : St} {Q Q' : β → Hp → Prop} {r : R α}
    (h : Post K cc V1 B G σ Q r) (k : ∀ v H, Q v H → Q' v H) : Post K cc V1 B G σ Q' r := by
  cases r with
  | ok d ρ1 => exact fun v G1 H1 e1 R1 p1 => k _ _ (h v G1 H1 e1 R1 p1)
  | exc e ρ1 => exact h
  | bot => exact h
theorem Post.fin {α β : Type} {K : PySem.W.Frag} {cc : Cc} {V1 : Hp → β → α → Prop} {B G : Hp} {σ : St} {Q : β → Hp → Prop} {d : α} {ρ1 : ENV} {G1 H1 G2 H2 : Hp} {v : β}
    (h : Post K cc V1 B G σ Q (.ok d ρ1)) (R1 : Rl K cc B ρ1 σ G1 H1) (e : Ext B G G1) (g : Grow G1 H1 G2 H2) (p : V1 G2 v d) : Q v H2 :=
  h v G2 H2 (e.trans (g.ext R1.bk)) (R1.grow g) p

def rE (K : PySem.W.Frag) (cc : Cc) (den : ENV → R D) : TE := fun σ H Q => ∃ B ρ G, Rl K cc B ρ σ G H ∧ Post K cc (Rp K cc.C) B G σ Q (den ρ)
def rT (K : PySem.W.Frag) (cc : Cc) (den : ENV → R Bool) : TT := fun σ H Q => ∃ B ρ G, Rl K cc B ρ σ G H ∧ Post K cc (fun _ b c => b = c) B G σ Q (den ρ)
def rA (K : PySem.W.Frag) (cc : Cc) (den : ENV → R (List D)) : TA := fun σ H Q => ∃ B ρ G, Rl K cc B ρ σ G H ∧ Post K cc (RpL K cc.C) B G σ Q (den ρ)
theorem PE.imp {X : Cx} {e : Expr} {t t' : TE} (h : PE X e t) (k : ∀ σ H Q, t' σ H Q → t σ H Q) : PE X e t' := ⟨fun pins s σ H Q I q => h.run pins s σ H Q I (k _ _ _ q)⟩
theorem PT.imp {X : Cx} {e : Expr} {t t' : TT} (h : PT X e t) (k : ∀ σ H Q, t' σ H Q → t σ H Q) : PT X e t' := ⟨fun pins s σ H Q I q => h.run pins s σ H Q I (k _ _ _ q)⟩
theorem PW.imp {X : Cx} {e : Expr} {t t' : TT} (h : PW X e t) (k : ∀ σ H Q, t' σ H Q → t σ H Q) : PW X e t' := ⟨fun wh pins s σ H Q I q => h.run wh pins s σ H Q I (k _ _ _ q)⟩
theorem PA.imp {X : Cx} {e : List Expr} {t t' : TA} (h : PA X e t) (k : ∀ σ H Q, t' σ H Q → t σ H Q) : PA X e t' := ⟨fun pos pins s σ H Q I q => h.run pos pins s σ H Q I (k _ _ _ q)⟩
theorem PS.imp {X : Cx} {e : Stmt} {t t' : TS} (h : PS X e t) (k : ∀ Dn σ H, t' Dn σ H → t Dn σ H) : PS X e t' := ⟨fun pins s σ H Dn I q => h.run pins s σ H Dn I (k _ _ _ q)⟩
theorem PSs.imp {X : Cx} {e : List Stmt} {t t' : TS} (h : PSs X e t) (k : ∀ Dn σ H, t' Dn σ H → t Dn σ H) : PSs X e t' := ⟨fun pins s σ H Dn I q => h.run pins s σ H Dn I (k _ _ _ q)⟩
def DE (X : Cx) (cc : Cc) (e : Expr) (den : ENV → R D) : Prop := PE X e (rE X.K cc den)
def DT (X : Cx) (cc : Cc) (e : Expr) (den : ENV → R Bool) : Prop := PT X e (rT X.K cc den)
def DW (X : Cx) (cc : Cc) (e : Expr) (den : ENV → R Bool) : Prop := PW X e (rT X.K cc den)
def DA (X : Cx) (cc : Cc) (e : List Expr) (den : ENV → R (List D)) : Prop := PA X e (rA X.K cc den)
end Rf
set_option Elab.async false
set_option linter.all false
set_option maxRecDepth 100000
namespace Rf
open PySem L2
def dVar (i : Nat) : ENV → R D := fun ρ => match ρ[i]? with
  | some (some (.sh d)) => .ok d ρ
  | some (some (.ow m)) => .ok m.toD (ρ.set i (some (.sh m.toD)))
  | _ => .bot
def dC (d : D) : ENV → R D := fun ρ => .ok d ρ
theorem HoldsM.rp {K : PySem.W.Frag} {C : Nat → Addr} {G : Hp} {p : Addr} {o : HO} {m : M} (e : G p = some o) (h : HoldsM K C G o m) : Rp K C G (.ref p) m.toD := by
  cases m with
  | lst ds => obtain ⟨xs, rfl, r⟩ := h; exact .lst e r
  | ins c fs => obtain ⟨dx, fl, rfl, r⟩ := h; exact .ins e r
  | dic ks => obtain ⟨kv, rfl, r⟩ := h; exact .dic e r
theorem Rl.freeze {K : PySem.W.Frag} {cc : Cc} {B : Hp} {ρ : ENV} {σ : St} {G H : Hp} {i : Nat} {m : M} (r : Rl K cc B ρ σ G H) (e : ρ[i]? = some (some (.ow m))) :
    ∃ p G', σ[i]? = some (some (.ref p)) ∧ Ext B G G' ∧ Rl K cc B (ρ.set i (some (.sh m.toD))) σ G' H ∧ Rp K cc.C G' (.ref p) m.toD := by
  obtain ⟨p, hp, o⟩ := r.ow i m e
  obtain ⟨x, hx, hm⟩ := o.at_
  have sG : Same G (upd G p x) := same_upd o.ng
  have rp : Rp K cc.C (upd G p x) (.ref p) m.toD := HoldsM.rp upd_same (hm.mono sG)
  have il : i < ρ.length := (List.getElem?_eq_some_iff.mp e).1
  refine ⟨p, upd G p x, hp, ⟨sG, fun a u q => ?_⟩, ⟨r.bk, fun b u q => ?_, by rw [List.length_set]; exact r.ln, fun j d q => ?_, fun j m' q => ?_, fun j k m1 m2 p' q1 q2 => ?_, r.pa, r.kg.trans sG⟩, rp⟩
  · by_cases h : a = p
    · subst h; exact .inr o.nb
    · rw [upd_ne h] at q; exact .inl q
  · by_cases h : b = p
    · subst h; rw [upd_same] at q; cases q; exact hx
    · rw [upd_ne h] at q; exact r.gk b u q
  · by_cases h : j = i
    · subst h
      rw [List.getElem?_set_self il] at q; cases q
      exact ⟨_, hp, rp⟩
    · rw [List.getElem?_set_ne (Ne.symm h)] at q
      obtain ⟨v, h1, h2⟩ := r.sh j d q
      exact ⟨v, h1, h2.mono sG⟩
  · by_cases h : j = i
    · subst h
      rw [List.getElem?_set_self il] at q; cases q
    · rw [List.getElem?_set_ne (Ne.symm h)] at q
      obtain ⟨p', h1, o'⟩ := r.ow j m' q
      have ne : p' ≠ p := fun z => by subst z; exact h (r.df j i m' m p' q e h1 hp)
      obtain ⟨x', hx', hm'⟩ := o'.at_
      exact ⟨p', h1, o'.nb, by rw [upd_ne ne]; exact o'.ng, x', hx', hm'.mono sG⟩
  · have g1 : ρ[j]? = some (some (.ow m1)) := by
      by_cases h : j = i
      · subst h; rw [List.getElem?_set_self il] at q1; cases q1
      · rw [List.getElem?_set_ne (Ne.symm h)] at q1; exact q1
    have g2 : ρ[k]? = some (some (.ow m2)) := by
      by_cases h : k = i
      · subst h; rw [List.getElem?_set_self il] at q2; cases q2
      · rw [List.getElem?_set_ne (Ne.symm h)] at q2; exact q2
    exact r.df j k m1 m2 p' g1 g2
section
variable {X : Cx} {cc : Cc} {a b c e : Expr} {da db dc : ENV → R D} {pos : Pos}
theorem de_var (i : Nat) {x : Str} (hN : X.N[i]? = some x := by rfl) (hv : Vis X.env.scope x := by first | exact Or.inl rfl | exact Or.inr (Or.inl rfl) | exact Or.inr (Or.inr rfl)) (hd : (x == ("__debug__" : Str)) = false := by decide)
    (hcd : (x == ("__classdict__" : Str)) = false := by decide) : DE X cc (.Name x pos) (dVar i) := by
  refine PE.imp (pe_var hN hv hd hcd) fun σ H Q h => ?_
  obtain ⟨B, ρ, G, R1, h⟩ := h
  unfold dVar at h
  split at h
  · rename_i d e
    obtain ⟨v, h1, h2⟩ := R1.sh i d e
    exact ⟨v, h1, h v G H (Ext.refl B G) R1 h2⟩
  · rename_i m e
    obtain ⟨p, G', h1, h2, h3, h4⟩ := R1.freeze e
    exact ⟨_, h1, h _ G' H h2 h3 h4⟩
  · exact h.elim
theorem de_k {v : V} {d : D} (h : PE X e (tC v)) (hr : ∀ G, Rp X.K cc.C G v d) : DE X cc e (dC d) := PE.imp h fun σ H Q ⟨B, ρ, G, R1, h⟩ => h v G H (Ext.refl B G) R1 (hr G)
theorem de_int {i : Int} {j : Nat} : DE X cc (.Constant (.int i) j pos) (dC (.int i)) := de_k pe_int fun _ => .int i
theorem de_bl {i : Bool} {j : Nat} : DE X cc (.Constant (.bool i) j pos) (dC (.bl i)) := de_k pe_bl fun _ => .bl i
theorem de_non {j : Nat} : DE X cc (.Constant .none j pos) (dC .non) := de_k pe_non fun _ => .non
theorem de_str {x : Str} {j : Nat} (h : x.length ≤ sizeLine := by decide +kernel) : DE X cc (.Constant (.str x) j pos) (dC (.str x)) := de_k pe_str fun _ => .str x h

def dOp (f : D → D → Option D) (da db : ENV → R D) : ENV → R D := fun ρ => (da ρ).bind fun x ρ1 => (db ρ1).bind fun y ρ2 => R.of (f x y) ρ2
def dUn (f : D → Option D) (da : ENV → R D) : ENV → R D := fun ρ => (da ρ).bind fun x ρ1 => R.of (f x) ρ1
def V2 (K : PySem.W.Frag) (C : Nat → Addr) (f : D → D → Option D) (r : R2) : Prop :=
  ∀ {G H : Hp} {x y : V} {dx dy d : D} {Q : VK}, Same G H → Rp K C G x dx → Rp K C G y dy → f dx dy = some d → (∀ v G' H', Grow G H G' H' → Rp K C G' v d → Q v H') → r x y H Q
def V1 (K : PySem.W.Frag) (C : Nat → Addr) (f : D → Option D) (r : V → Hp → VK → Prop) : Prop :=
  ∀ {G H : Hp} {x : V} {dx d : D} {Q : VK}, Same G H → Rp K C G x dx → f dx = some d → (∀ v G' H', Grow G H G' H' → Rp K C G' v d → Q v H') → r x H Q
theorem V2.or {K : PySem.W.Frag} {C : Nat → Addr} {f g : D → D → Option D} {r r' : R2} (h : V2 K C f r) (h' : V2 K C g r') : V2 K C (fun x y => (f x y).orElse fun _ => g x y) (fun x y H Q => r x y H Q ∨ r' x y H Q) := by
  intro G H x y dx dy d Q s px py e k
  cases hf : f dx dy with
  | some z => simp only [hf, Option.orElse_some, Option.some.injEq] at e; subst e; exact .inl (h s px py hf k)
  | none => simp only [hf, Option.orElse_none] at e; exact .inr (h' s px py e k)
theorem V2.imp {K : PySem.W.Frag} {C : Nat → Addr} {f g : D → D → Option D} {r : R2} (h : V2 K C f r) (hg : ∀ x y d, g x y = some d → f x y = some d) : V2 K C g r :=
  fun s px py e k => h s px py (hg _ _ _ e) k
theorem op_core {r : R2} {f : D → D → Option D} (hv : V2 X.K cc.C f r) : ∀ σ H Q, rE X.K cc (dOp f da db) σ H Q → tOp r (rE X.K cc da) (rE X.K cc db) σ H Q := by
  intro σ H Q ⟨B, ρ, G, R0, h⟩
  refine ⟨B, ρ, G, R0, h.bind fun d1 ρ1 G1 H1 x e1 R1 p1 h1 => ⟨B, ρ1, G1, R1, h1.bind fun d2 ρ2 G2 H2 y e2 R2 p2 h2 => ?_⟩⟩
  cases hf : f d1 d2 with
  | none => rw [hf] at h2; exact h2.elim
  | some d =>
    rw [hf] at h2
    exact hv R2.gk (p1.mono e2.gg) p2 hf fun v G' H' g p => Post.fin h2 R2 (Ext.refl _ _) g p
theorem de_op {op : Operator} {r : R2} {f : D → D → Option D} (ho : OpR X (binaryOp op) r) (hv : V2 X.K cc.C f r) (ha : DE X cc a da) (hb : DE X cc b db) : DE X cc (.BinOp a op b pos) (dOp f da db) :=
  PE.imp (pe_op ho ha hb) (op_core hv)
theorem de_cmp {op : CmpOp} {r : R2} {f : D → D → Option D} (ho : OpR X (compareOp op) r) (hv : V2 X.K cc.C f r) (hm : behindInMarks op b = false) (ha : DE X cc a da) (hb : DE X cc b db) : DE X cc (.Compare a [op] [b] pos) (dOp f da db) :=
  PE.imp (pe_cmpR ho ha hb hm) (op_core hv)
theorem de_un {op : UnaryOp} {r : V → Hp → VK → Prop} {f : D → Option D} (ho : UnR X (unaryOp op) r) (hv : V1 X.K cc.C f r) (ha : DE X cc a da) : DE X cc (.UnaryOp op a pos) (dUn f da) := by
  refine PE.imp (pe_un ho ha) fun σ H Q ⟨B, ρ, G, R0, h⟩ => ⟨B, ρ, G, R0, h.bind fun d1 ρ1 G1 H1 x e1 R1 p1 h1 => ?_⟩
  cases hf : f d1 with
  | none => rw [hf] at h1; exact h1.elim
  | some d =>
    rw [hf] at h1
    exact hv R1.gk p1 hf fun v G' H' g p => Post.fin h1 R1 (Ext.refl _ _) g p
def asT (r : R D) : R Bool := r.bind fun d ρ => match d with
  | .bl b => .ok b ρ
  | _ => .bot
def dT (den : ENV → R D) : ENV → R Bool := fun ρ => asT (den ρ)
theorem test_core {t : TE} {den : ENV → R D} (k : ∀ σ H Q, rE X.K cc den σ H Q → t σ H Q) : ∀ σ H Q, rT X.K cc (dT den) σ H Q → tTest t σ H Q := by
  intro σ H Q ⟨B, ρ, G, R0, h⟩
  refine k _ _ _ ⟨B, ρ, G, R0, Post.bind (V2 := fun _ b c => b = c) h fun d1 ρ1 G1 H1 x e1 R1 p1 h1 => ?_⟩
  cases p1 with
  | bl b => exact ⟨b, rfl, h1 b G1 H1 (Ext.refl _ _) R1 rfl⟩
  | _ => exact h1.elim
theorem dt_cmp {op : CmpOp} {r : R2} {f : D → D → Option D} (ho : OpR X (compareOp op) r) (hv : V2 X.K cc.C f r) (hm : behindInMarks op b = false) (ha : DE X cc a da) (hb : DE X cc b db) : DT X cc (.Compare a [op] [b] pos) (dT (dOp f da db)) :=
  PT.imp (pt_cmpR ho ha hb hm) (test_core (op_core hv))

def tru : D → Option Bool
  | .non => some false
  | .bl b => some b
  | .int i => some (i != 0)
  | .str x => some ((x.length : Int) != 0)
  | .tup ds => some (!ds.isEmpty)
  | .lst ds => some (!ds.isEmpty)
  | .scr ds => some (!ds.isEmpty)
  | .dic ks => some (!ks.isEmpty)
  | .ins _ _ => none
theorem RpL.empty {K : PySem.W.Frag} {C : Nat → Addr} {G : Hp} {v : List V} {d : List D} (r : RpL K C G v d) : v.isEmpty = d.isEmpty := by cases r <;> rfl
theorem RpK.empty {K : PySem.W.Frag} {C : Nat → Addr} {G : Hp} {v : List (Key × V)} {d : List (Key × D)} (r : RpK K C G v d) : v.isEmpty = d.isEmpty := by cases r <;> rfl
theorem tru_of {K : PySem.W.Frag} {C : Nat → Addr} {G H : Hp} {v : V} {d : D} {k : Bool} (s : Same G H) (p : Rp K C G v d) (e : tru d = some k) : TruV K v H k := by
  cases p with
  | non => cases e; rfl
  | bl b => cases e; rfl
  | int i => cases e; rfl
  | str x h => cases e; exact ⟨h, rfl⟩
  | tup h r => cases e; exact .inr (.inl ⟨_, same_seqT s h, by rw [r.empty]⟩)
  | lst h r => cases e; exact .inl ⟨_, .inl (.inl (s _ _ h)), by rw [r.empty]⟩
  | scr h r => cases e; exact .inl ⟨_, Same.seq s h, by rw [r.empty]⟩
  | ins h r => cases e
  | dic h r => cases e; exact .inr (.inr ⟨_, s _ _ h, by rw [r.empty]⟩)
def dTru (den : ENV → R D) : ENV → R Bool := fun ρ => (den ρ).bind fun d ρ1 => R.of (tru d) ρ1
theorem dt_tru (ha : DE X cc a da) (he : ∀ whole, isTrue a X.env whole = (do let v ← whole; standAt a.pos; holding [v] (truthy v)) := by intro _; rfl) : DT X cc a (dTru da) := by
  refine PT.imp (pt_truth ha he) fun σ H Q ⟨B, ρ, G, R0, h⟩ => ⟨B, ρ, G, R0, Post.bind (V2 := fun _ b c => b = c) h fun d1 ρ1 G1 H1 x e1 R1 p1 h1 => ?_⟩
  cases hf : tru d1 with
  | none => rw [hf] at h1; exact h1.elim
  | some k =>
    rw [hf] at h1
    exact ⟨k, tru_of R1.gk p1 hf, h1 k G1 H1 (Ext.refl _ _) R1 rfl⟩
def dAnd (da db : ENV → R Bool) : ENV → R Bool := fun ρ => (da ρ).bind fun x ρ1 => if x = true then db ρ1 else .ok false ρ1
def dOr (da db : ENV → R Bool) : ENV → R Bool := fun ρ => (da ρ).bind fun x ρ1 => if x = true then .ok true ρ1 else db ρ1
def dNot (da : ENV → R Bool) : ENV → R Bool := fun ρ => (da ρ).bind fun x ρ1 => .ok (!x) ρ1
variable {ta tb : ENV → R Bool} {rest : List Expr}
theorem dw_and1 (ha : DT X cc a ta) : DW X cc (.BoolOp .And [a] pos) ta := pw_and1 ha
theorem dw_or1 (ha : DT X cc a ta) : DW X cc (.BoolOp .Or [a] pos) ta := pw_or1 ha
theorem dw_and (ha : DT X cc a ta) (hb : DW X cc (.BoolOp .And (b :: rest) pos) tb) : DW X cc (.BoolOp .And (a :: b :: rest) pos) (dAnd ta tb) := by
  refine PW.imp (pw_and ha hb) fun σ H Q ⟨B, ρ, G, R0, h⟩ => ⟨B, ρ, G, R0, Post.bind (V2 := fun _ b c => b = c) h fun d1 ρ1 G1 H1 x e1 R1 p1 h1 => ?_⟩
  subst p1
  cases x with
  | true => exact iteT ⟨B, ρ1, G1, R1, h1⟩
  | false => exact iteF (h1 false G1 H1 (Ext.refl _ _) R1 rfl)
theorem dw_or (ha : DT X cc a ta) (hb : DW X cc (.BoolOp .Or (b :: rest) pos) tb) : DW X cc (.BoolOp .Or (a :: b :: rest) pos) (dOr ta tb) := by
  refine PW.imp (pw_or ha hb) fun σ H Q ⟨B, ρ, G, R0, h⟩ => ⟨B, ρ, G, R0, Post.bind (V2 := fun _ b c => b = c) h fun d1 ρ1 G1 H1 x e1 R1 p1 h1 => ?_⟩
  subst p1
  cases x with
  | true => exact iteT (h1 true G1 H1 (Ext.refl _ _) R1 rfl)
  | false => exact iteF ⟨B, ρ1, G1, R1, h1⟩
theorem dt_w (h : DW X cc a ta) : DT X cc a ta := PW.pt h
theorem dt_not (ha : DT X cc a ta) : DT X cc (.UnaryOp .Not a pos) (dNot ta) := by
  refine PT.imp (pt_not ha) fun σ H Q ⟨B, ρ, G, R0, h⟩ => ⟨B, ρ, G, R0, Post.bind (V2 := fun _ b c => b = c) h fun d1 ρ1 G1 H1 x e1 R1 p1 h1 => ?_⟩
  subst p1
  exact h1 (!x) G1 H1 (Ext.refl _ _) R1 rfl
def dAndV (da db : ENV → R D) : ENV → R D := fun ρ => (da ρ).bind fun x ρ1 => match tru x with
  | some true => db ρ1
  | some false => .ok x ρ1
  | none => .bot
def dOrV (da db : ENV → R D) : ENV → R D := fun ρ => (da ρ).bind fun x ρ1 => match tru x with
  | some true => .ok x ρ1
  | some false => db ρ1
  | none => .bot
def dNotV (da : ENV → R D) : ENV → R D := fun ρ => (da ρ).bind fun x ρ1 => R.of ((tru x).map fun k => .bl (!k)) ρ1
theorem de_one {op : BoolOp} (h : DE X cc a da) : DE X cc (.BoolOp op [a] pos) da := pe_one h
theorem de_and (ha : DE X cc a da) (hb : DE X cc (.BoolOp .And (b :: rest) pos) db) : DE X cc (.BoolOp .And (a :: b :: rest) pos) (dAndV da db) := by
  refine PE.imp (pe_andT ha hb) fun σ H Q ⟨B, ρ, G, R0, h⟩ => ⟨B, ρ, G, R0, h.bind fun d1 ρ1 G1 H1 x e1 R1 p1 h1 => ?_⟩
  cases hf : tru d1 with
  | none => simp only [hf] at h1; exact h1.elim
  | some k =>
    simp only [hf] at h1
    refine ⟨k, tru_of R1.gk p1 hf, ?_⟩
    cases k with
    | true => exact iteT ⟨B, ρ1, G1, R1, h1⟩
    | false => exact iteF (h1 x G1 H1 (Ext.refl _ _) R1 p1)
theorem de_or (ha : DE X cc a da) (hb : DE X cc (.BoolOp .Or (b :: rest) pos) db) : DE X cc (.BoolOp .Or (a :: b :: rest) pos) (dOrV da db) := by
  refine PE.imp (pe_orT ha hb) fun σ H Q ⟨B, ρ, G, R0, h⟩ => ⟨B, ρ, G, R0, h.bind fun d1 ρ1 G1 H1 x e1 R1 p1 h1 => ?_⟩
  cases hf : tru d1 with
  | none => simp only [hf] at h1; exact h1.elim
  | some k =>
    simp only [hf] at h1
    refine ⟨k, tru_of R1.gk p1 hf, ?_⟩
    cases k with
    | true => exact iteT (h1 x G1 H1 (Ext.refl _ _) R1 p1)
    | false => exact iteF ⟨B, ρ1, G1, R1, h1⟩
theorem de_not (ha : DE X cc a da) : DE X cc (.UnaryOp .Not a pos) (dNotV da) := by
  refine PE.imp (pe_notT ha) fun σ H Q ⟨B, ρ, G, R0, h⟩ => ⟨B, ρ, G, R0, h.bind fun d1 ρ1 G1 H1 x e1 R1 p1 h1 => ?_⟩
  cases hf : tru d1 with
  | none => simp only [hf, Option.map_none] at h1; exact h1.elim
  | some k =>
    simp only [hf, Option.map_some] at h1
    exact ⟨k, tru_of R1.gk p1 hf, h1 (.bl (!k)) G1 H1 (Ext.refl _ _) R1 (.bl _)⟩
def dIf (t : ENV → R Bool) (da db : ENV → R D) : ENV → R D := fun ρ => (t ρ).bind fun x ρ1 => if x = true then da ρ1 else db ρ1
theorem de_if (hc : DT X cc c ta) (ha : DE X cc a da) (hb : DE X cc b db) : DE X cc (.IfExp c a b pos) (dIf ta da db) := by
  refine PE.imp (pe_ifExp hc ha hb) fun σ H Q ⟨B, ρ, G, R0, h⟩ => ⟨B, ρ, G, R0, h.bind fun d1 ρ1 G1 H1 x e1 R1 p1 h1 => ?_⟩
  subst p1
  cases x with
  | true => exact iteT ⟨B, ρ1, G1, R1, h1⟩
  | false => exact iteF ⟨B, ρ1, G1, R1, h1⟩

def dNil : ENV → R (List D) := fun ρ => .ok [] ρ
def dCons (da : ENV → R D) (dr : ENV → R (List D)) : ENV → R (List D) := fun ρ => (da ρ).bind fun x ρ1 => (dr ρ1).bind fun xs ρ2 => .ok (x :: xs) ρ2
variable {dr : ENV → R (List D)} {es : List Expr}
theorem da_nil : DA X cc [] dNil := PA.imp pa_nil fun σ H Q ⟨B, ρ, G, R0, h⟩ => h [] G H (Ext.refl _ _) R0 .nil
theorem da_cons (ha : DE X cc e da) (hr : DA X cc es dr) (hs : starEach (e :: es) X.env = (false, eval e X.env) :: starEach es X.env := by rfl) : DA X cc (e :: es) (dCons da dr) := by
  refine PA.imp (pa_cons ha hr hs) fun σ H Q ⟨B, ρ, G, R0, h⟩ => ⟨B, ρ, G, R0, h.bind fun d1 ρ1 G1 H1 x e1 R1 p1 h1 => ⟨B, ρ1, G1, R1, h1.bind fun d2 ρ2 G2 H2 y e2 R2 p2 h2 => ?_⟩⟩
  exact h2 (x :: y) G2 H2 (Ext.refl _ _) R2 (.cons (p1.mono e2.gg) p2)
def dTup (dr : ENV → R (List D)) : ENV → R D := fun ρ => (dr ρ).bind fun xs ρ1 => if xs.length ≤ sizeLine then .ok (.tup xs) ρ1 else .bot
def dLst (dr : ENV → R (List D)) : ENV → R D := fun ρ => (dr ρ).bind fun xs ρ1 => if xs.length ≤ sizeLine then .ok (.lst xs) ρ1 else .bot
theorem ite_post {α β : Type} {K : PySem.W.Frag} {Vr : Hp → β → α → Prop} {B G : Hp} {σ : St} {Q : β → Hp → Prop} {p : Prop} [Decidable p] {r : R α} (h : Post K cc Vr B G σ Q (if p then r else .bot)) : p ∧ Post K cc Vr B G σ Q r := by
  by_cases q : p
  · rw [if_pos q] at h; exact ⟨q, h⟩
  · rw [if_neg q] at h; exact h.elim
theorem de_tuple {x1 : Nat} (h : DA X cc es dr) : DE X cc (.Tuple es x1 pos) (dTup dr) := by
  refine PE.imp (pe_tup h) fun σ H Q ⟨B, ρ, G, R0, h⟩ => ⟨B, ρ, G, R0, h.bind fun ds ρ1 G1 H1 xs e1 R1 p1 h1 => ?_⟩
  obtain ⟨hz, h1⟩ := ite_post h1
  refine ⟨by rw [p1.length]; exact hz, fun p hp => ?_⟩
  have g := Grow.new (o := .tup xs) R1.gk hp
  exact Post.fin h1 R1 (Ext.refl _ _) g (.tup (.inl (.inl upd_same)) (p1.mono g.gg))
theorem de_list (h : DA X cc es dr) : DE X cc (.List es pos) (dLst dr) := by
  refine PE.imp (pe_lst h) fun σ H Q ⟨B, ρ, G, R0, h⟩ => ⟨B, ρ, G, R0, h.bind fun ds ρ1 G1 H1 xs e1 R1 p1 h1 => ?_⟩
  obtain ⟨hz, h1⟩ := ite_post h1
  refine ⟨by rw [p1.length]; exact hz, fun p hp => ?_⟩
  have g := Grow.new (o := .lst xs) R1.gk hp
  exact Post.fin h1 R1 (Ext.refl _ _) g (.lst upd_same (p1.mono g.gg))
end
end Rf
set_option Elab.async false
set_option linter.all false
set_option maxRecDepth 100000
namespace Rf
open PySem L2
mutual
def D.toPy : D → PyData
  | .non => .none
  | .bl b => .bool b
  | .int i => .int i
  | .str x => .str x
  | .tup ds => .tuple (toPyL ds)
  | .lst ds => .list (toPyL ds)
  | .scr ds => .list (toPyL ds)
  | .ins _ _ => .dict []
  | .dic _ => .dict []
def toPyL : List D → List PyData
  | [] => []
  | d :: ds => d.toPy :: toPyL ds
end
mutual
theorem Rp.dp {K : PySem.W.Frag} {C : Nat → Addr} {G H : Hp} (s : Same G H) {v : V} {d : D} : Rp K C G v d → d.toPy.canLay0 = true → Dp K H v d.toPy
  | .non, _ => .non
  | .bl b, _ => .bl b
  | .int i, _ => .int i
  | .str x _, _ => .str x
  | .tup h r, c => .tup (same_seqT s h) (r.dp s (by simpa [D.toPy, PyData.canLay0] using c))
  | .lst h r, c => .lst (.inl (.inl (s _ _ h))) (r.dp s (by simpa [D.toPy, PyData.canLay0] using c))
  | .scr h r, c => .lst (Same.seq s h) (r.dp s (by simpa [D.toPy, PyData.canLay0] using c))
  | .ins _ _, c => by simp [D.toPy, PyData.canLay0] at c
  | .dic _ _, c => by simp [D.toPy, PyData.canLay0] at c
theorem RpL.dp {K : PySem.W.Frag} {C : Nat → Addr} {G H : Hp} (s : Same G H) {v : List V} {d : List D} : RpL K C G v d → PyData.canLayAll0 (toPyL d) = true → DpAll K H v (toPyL d)
  | .nil, _ => .nil
  | .cons h r, c => by
    have c' := Bool.and_eq_true_iff.mp (show (PyData.canLay0 _ && PyData.canLayAll0 _) = true by simpa [toPyL, PyData.canLayAll0] using c)
    exact .cons (h.dp s c'.1) (r.dp s c'.2)
end
def vEq (neg : Bool) (x y : D) : Option D := if SeqAt.shaped x.toPy = true ∧ SeqAt.shaped y.toPy = true then some (.bl (if neg then !PyData.eqv x.toPy y.toPy else PyData.eqv x.toPy y.toPy)) else none
section
variable {K : PySem.W.Frag} {C : Nat → Addr}
theorem Grow.here {G H : Hp} {Q : VK} {d : D} {v : V} (s : Same G H) (k : ∀ v G' H', Grow G H G' H' → Rp K C G' v d → Q v H') (p : Rp K C G v d) : Q v H := k v G H (Grow.refl s) p
theorem v2_eq : V2 K C (vEq false) (rEqD K) := by
  intro G H x y dx dy d Q s px py e k
  unfold vEq at e
  split at e
  · rename_i h
    cases e
    exact ⟨_, _, px.dp s (SeqAt.canLay_of_shaped h.1), py.dp s (SeqAt.canLay_of_shaped h.2), h.1, h.2, Grow.here s k (.bl _)⟩
  · cases e
theorem v2_ne : V2 K C (vEq true) (rNeD K) := by
  intro G H x y dx dy d Q s px py e k
  unfold vEq at e
  split at e
  · rename_i h
    cases e
    exact ⟨_, _, px.dp s (SeqAt.canLay_of_shaped h.1), py.dp s (SeqAt.canLay_of_shaped h.2), h.1, h.2, Grow.here s k (.bl _)⟩
  · cases e
def vI (f : Int → Int → Int) : D → D → Option D
  | .int i, .int j => some (.int (f i j))
  | _, _ => none
def vIc (c : Int → Int → Bool) (f : Int → Int → Int) : D → D → Option D
  | .int i, .int j => if c i j = true then some (.int (f i j)) else none
  | _, _ => none
def vB (f : Int → Int → Bool) : D → D → Option D
  | .int i, .int j => some (.bl (f i j))
  | _, _ => none
theorem v2_I {f : Int → Int → Int} : V2 K C (vI f) (rI0 fun i j => .int (f i j)) := by
  intro G H x y dx dy d Q s px py e k
  cases px with
  | int i =>
    cases py with
    | int j => cases e; exact ⟨i, j, rfl, rfl, Grow.here s k (.int _)⟩
    | _ => cases e
  | _ => cases e
theorem v2_Ic {c : Int → Int → Bool} {P : Int → Int → Prop} {f : Int → Int → Int} (hc : ∀ i j, c i j = true → P i j) : V2 K C (vIc c f) (rI P fun i j => .int (f i j)) := by
  intro G H x y dx dy d Q s px py e k
  cases px with
  | int i =>
    cases py with
    | int j =>
      dsimp only [vIc] at e
      split at e
      · rename_i h; cases e; exact ⟨i, j, rfl, rfl, hc i j h, Grow.here s k (.int _)⟩
      · cases e
    | _ => cases e
  | _ => cases e
theorem v2_B {f : Int → Int → Bool} : V2 K C (vB f) (rI0 fun i j => .bl (f i j)) := by
  intro G H x y dx dy d Q s px py e k
  cases px with
  | int i =>
    cases py with
    | int j => cases e; exact ⟨i, j, rfl, rfl, Grow.here s k (.bl _)⟩
    | _ => cases e
  | _ => cases e
def vAddS : D → D → Option D
  | .str a, .str b => if a.length + b.length ≤ sizeLine then some (.str (a ++ b)) else none
  | _, _ => none
def vAddT : D → D → Option D
  | .tup a, .tup b => if a.length + b.length ≤ sizeLine then some (.tup (a ++ b)) else none
  | _, _ => none
def vAddL : D → D → Option D
  | .lst a, .lst b => if a.length + b.length ≤ sizeLine then some (.lst (a ++ b)) else none
  | _, _ => none
theorem v2_addS : V2 K C vAddS (fun x y H Q => ∃ i j, x = .str i ∧ y = .str j ∧ i.length + j.length ≤ sizeLine ∧ Q (.str (i ++ j)) H) := by
  intro G H x y dx dy d Q s px py e k
  cases px with
  | str i h1 =>
    cases py with
    | str j h2 =>
      dsimp only [vAddS] at e
      split at e
      · rename_i h; cases e; exact ⟨i, j, rfl, rfl, h, Grow.here s k (.str _ (by rw [Str.length_append]; exact h))⟩
      · cases e
    | _ => cases e
  | _ => cases e
theorem v2_addT : V2 K C vAddT (rCatA K) := by
  intro G H x y dx dy d Q s px py e k
  cases px with
  | @tup a xs ds h1 r1 =>
    cases py with
    | @tup b ys es h2 r2 =>
      dsimp only [vAddT] at e
      split at e
      · rename_i h
        cases e
        refine ⟨a, b, xs, ys, rfl, rfl, same_seqT s h1, same_seqT s h2, by rw [r1.length, r2.length]; exact h, fun q => ?_, fun q1 q2 => ?_, fun q1 q2 p hp => ?_⟩
        · subst q; cases r1; exact Grow.here s k (.tup h2 r2)
        · subst q2; cases r2; rw [List.append_nil] at k; exact Grow.here s k (.tup h1 r1)
        · have g := Grow.new (o := .tup (xs ++ ys)) s hp
          exact k _ _ _ g (.tup (.inl (.inl upd_same)) ((r1.mono g.gg).append (r2.mono g.gg)))
      · cases e
    | _ => cases e
  | _ => cases e
theorem v2_addL : V2 K C vAddL rCat := by
  intro G H x y dx dy d Q s px py e k
  cases px with
  | @lst a xs ds h1 r1 =>
    cases py with
    | @lst b ys es h2 r2 =>
      dsimp only [vAddL] at e
      split at e
      · rename_i h
        cases e
        refine ⟨a, b, xs, ys, rfl, rfl, s _ _ h1, s _ _ h2, by rw [r1.length, r2.length]; exact h, fun p hp => ?_⟩
        have g := Grow.new (o := .lst (xs ++ ys)) s hp
        exact k _ _ _ g (.lst upd_same ((r1.mono g.gg).append (r2.mono g.gg)))
      · cases e
    | _ => cases e
  | _ => cases e
def vAdd (x y : D) : Option D := match x with
  | .int _ => vI (fun i j => i + j) x y
  | .str _ => vAddS x y
  | .tup _ => vAddT x y
  | .lst _ => vAddL x y
  | _ => none
def rAddA (K : PySem.W.Frag) : R2 := fun x y H Q => rI0 (fun i j => V.int (i + j)) x y H Q ∨ (∃ i j, x = .str i ∧ y = .str j ∧ i.length + j.length ≤ sizeLine ∧ Q (.str (i ++ j)) H) ∨ rCatA K x y H Q ∨ rCat x y H Q
theorem v2_add : V2 K C vAdd (rAddA K) := by
  intro G H x y dx dy d Q s px py e k
  cases dx with
  | int i => exact .inl (v2_I s px py e k)
  | str i => exact .inr (.inl (v2_addS s px py e k))
  | tup i => exact .inr (.inr (.inl (v2_addT s px py e k)))
  | lst i => exact .inr (.inr (.inr (v2_addL s px py e k)))
  | _ => cases e
def cMul (i j : Int) : Bool := decide (i.natAbs < 2 ^ 64) || decide (j.natAbs < 2 ^ 64) || decide (i.natAbs.log2 + j.natAbs.log2 < 1000000)
def cDiv (_ j : Int) : Bool := decide (0 < j) && decide (j.natAbs.log2 < 9000)
def cMod (_ j : Int) : Bool := decide (0 < j)
def cPow (i j : Int) : Bool := decide (0 ≤ j) && decide (j ≤ 1000000) && decide (i.natAbs < 2 ^ 64)
end
section
variable {X : Cx}
theorem op_addA : OpR X (binaryOp .Add) (rAddA X.K) := op_add.or (op_add_str.or (op_catA.or op_cat))
def PMul (i j : Int) : Prop := CMul i j ∨ CMulW i j
theorem op_mulA : OpR X (binaryOp .Mult) (rI PMul fun i j => .int (i * j)) := by
  intro pins s σ H x y v u Q I rx ry ⟨i, j, e1, e2, hc, q⟩
  rcases hc with h | h
  · exact op_mul pins s σ H x y v u Q I rx ry ⟨i, j, e1, e2, h, q⟩
  · exact op_mulW pins s σ H x y v u Q I rx ry ⟨i, j, e1, e2, h, q⟩
theorem cMul_ok (i j : Int) (h : cMul i j = true) : PMul i j := by
  unfold cMul at h
  simp only [Bool.or_eq_true, decide_eq_true_eq] at h
  rcases h with (h | h) | h
  · exact .inl (.inl (by omega))
  · exact .inl (.inr (by omega))
  · exact .inr h
theorem cDiv_ok (i j : Int) (h : cDiv i j = true) : CDivW i j := by
  unfold cDiv at h
  simp only [Bool.and_eq_true, decide_eq_true_eq] at h
  exact h
theorem cMod_ok (i j : Int) (h : cMod i j = true) : 0 < j := of_decide_eq_true h
theorem cPow_ok (i j : Int) (h : cPow i j = true) : CPow i j := by
  unfold cPow at h
  simp only [Bool.and_eq_true, decide_eq_true_eq] at h
  exact ⟨h.1.1, h.1.2, h.2⟩
end
section
variable {X : Cx} {cc : Cc} {a b e : Expr} {da db : ENV → R D} {pos : Pos}
abbrev dAdd := dOp vAdd
abbrev dSub := dOp (vI fun i j => i - j)
abbrev dMul := dOp (vIc cMul fun i j => i * j)
abbrev dDiv := dOp (vIc cDiv fun i j => i / j)
abbrev dMod := dOp (vIc cMod fun i j => i % j)
abbrev dPow := dOp (vIc cPow fun i j => i ^ j.toNat)
theorem de_add (ha : DE X cc a da) (hb : DE X cc b db) : DE X cc (.BinOp a .Add b pos) (dAdd da db) := de_op op_addA v2_add ha hb
theorem de_sub (ha : DE X cc a da) (hb : DE X cc b db) : DE X cc (.BinOp a .Sub b pos) (dSub da db) := de_op op_sub v2_I ha hb
theorem de_mul (ha : DE X cc a da) (hb : DE X cc b db) : DE X cc (.BinOp a .Mult b pos) (dMul da db) := de_op op_mulA (v2_Ic cMul_ok) ha hb
theorem de_div (ha : DE X cc a da) (hb : DE X cc b db) : DE X cc (.BinOp a .FloorDiv b pos) (dDiv da db) := de_op op_fdivW (v2_Ic cDiv_ok) ha hb
theorem de_mod (ha : DE X cc a da) (hb : DE X cc b db) : DE X cc (.BinOp a .Mod b pos) (dMod da db) := de_op op_mod (v2_Ic cMod_ok) ha hb
theorem de_pow (ha : DE X cc a da) (hb : DE X cc b db) : DE X cc (.BinOp a .Pow b pos) (dPow da db) := de_op op_pow (v2_Ic cPow_ok) ha hb
def vNeg : D → Option D
  | .int i => some (.int (-i))
  | _ => none
abbrev dNeg := dUn vNeg
theorem v1_neg {K : PySem.W.Frag} {C : Nat → Addr} : V1 K C vNeg (rU fun i => .int (-i)) := by
  intro G H x dx d Q s px e k
  cases px with
  | int i => cases e; exact ⟨i, rfl, Grow.here s k (.int _)⟩
  | _ => cases e
theorem de_neg (ha : DE X cc a da) : DE X cc (.UnaryOp .USub a pos) (dNeg da) := de_un un_neg v1_neg ha

def vEqS (neg : Bool) (x y : D) : Option D := match x, y with
  | .str a, .str b => some (.bl (if neg then !decide (a = b) else decide (a = b)))
  | x, y => vEq neg x y
theorem dec_strV (a b : Str) : decide (V.str a = V.str b) = decide (a = b) := by
  by_cases h : a = b
  · subst h; simp
  · simp [h]
theorem v2_eqS {K : PySem.W.Frag} {C : Nat → Addr} : V2 K C (vEqS false) (fun x y H Q => rEq x y H Q ∨ rEqD K x y H Q) := by
  intro G H x y dx dy d Q s px py e k
  cases px with
  | str a ha =>
    cases py with
    | str b hb =>
      have e : some (D.bl (decide (a = b))) = some d := e
      cases e
      exact .inl ⟨rfl, by rw [dec_strV]; exact Grow.here s k (.bl _)⟩
    | non => exact .inr (v2_eq s (.str a ha) .non e k)
    | bl b => exact .inr (v2_eq s (.str a ha) (.bl b) e k)
    | int b => exact .inr (v2_eq s (.str a ha) (.int b) e k)
    | tup h r => exact .inr (v2_eq s (.str a ha) (.tup h r) e k)
    | lst h r => exact .inr (v2_eq s (.str a ha) (.lst h r) e k)
    | scr h r => exact .inr (v2_eq s (.str a ha) (.scr h r) e k)
    | dic h r => exact .inr (v2_eq s (.str a ha) (.dic h r) e k)
    | ins h r => exact .inr (v2_eq s (.str a ha) (.ins h r) e k)
  | non => exact .inr (v2_eq s .non py e k)
  | bl b => exact .inr (v2_eq s (.bl b) py e k)
  | int b => exact .inr (v2_eq s (.int b) py e k)
  | tup h r => exact .inr (v2_eq s (.tup h r) py e k)
  | lst h r => exact .inr (v2_eq s (.lst h r) py e k)
  | scr h r => exact .inr (v2_eq s (.scr h r) py e k)
  | dic h r => exact .inr (v2_eq s (.dic h r) py e k)
  | ins h r => exact .inr (v2_eq s (.ins h r) py e k)
theorem v2_neS {K : PySem.W.Frag} {C : Nat → Addr} : V2 K C (vEqS true) (fun x y H Q => rNe x y H Q ∨ rNeD K x y H Q) := by
  intro G H x y dx dy d Q s px py e k
  cases px with
  | str a ha =>
    cases py with
    | str b hb =>
      have e : some (D.bl (!decide (a = b))) = some d := e
      cases e
      exact .inl ⟨rfl, by rw [dec_strV]; exact Grow.here s k (.bl _)⟩
    | non => exact .inr (v2_ne s (.str a ha) .non e k)
    | bl b => exact .inr (v2_ne s (.str a ha) (.bl b) e k)
    | int b => exact .inr (v2_ne s (.str a ha) (.int b) e k)
    | tup h r => exact .inr (v2_ne s (.str a ha) (.tup h r) e k)
    | lst h r => exact .inr (v2_ne s (.str a ha) (.lst h r) e k)
    | scr h r => exact .inr (v2_ne s (.str a ha) (.scr h r) e k)
    | dic h r => exact .inr (v2_ne s (.str a ha) (.dic h r) e k)
    | ins h r => exact .inr (v2_ne s (.str a ha) (.ins h r) e k)
  | non => exact .inr (v2_ne s .non py e k)
  | bl b => exact .inr (v2_ne s (.bl b) py e k)
  | int b => exact .inr (v2_ne s (.int b) py e k)
  | tup h r => exact .inr (v2_ne s (.tup h r) py e k)
  | lst h r => exact .inr (v2_ne s (.lst h r) py e k)
  | scr h r => exact .inr (v2_ne s (.scr h r) py e k)
  | dic h r => exact .inr (v2_ne s (.dic h r) py e k)
  | ins h r => exact .inr (v2_ne s (.ins h r) py e k)
inductive CK where
  | lt | le | gt | ge | eq | ne | isN | notN | in_ | notIn | isB | notB
def vIsB (neg : Bool) (x y : D) : Option D := match x, y with
  | .bl a, .bl b => some (.bl (if neg then !decide (a = b) else decide (a = b)))
  | _, _ => none
def vIs (neg : Bool) (x y : D) : Option D := match y with
  | .non => some (.bl (match x with | .non => !neg | _ => neg))
  | _ => none
def vIn (neg : Bool) (x y : D) : Option D :=
  let fin (ds : List D) : Option D := if SeqAt.shaped x.toPy = true ∧ PyData.canLayAll0 (toPyL ds) = true then some (.bl (if neg then !((toPyL ds).any fun z => PyData.eqv z x.toPy) else (toPyL ds).any fun z => PyData.eqv z x.toPy)) else none
  match y with
  | .lst ds => fin ds
  | .scr ds => fin ds
  | .tup ds => fin ds
  | .str z => match x with
    | .str c => some (.bl (if neg then !(!(Builtin.Str.occurrences z c 0 z.length 1).isEmpty) else !(Builtin.Str.occurrences z c 0 z.length 1).isEmpty))
    | _ => none
  | _ => none
def rInA (K : PySem.W.Frag) (neg : Bool) : R2 := fun x y H Q => (∃ d e ds, Dp K H x d ∧ Dp K H y e ∧ (e = .list ds ∨ e = .tuple ds) ∧ SeqAt.shaped d = true ∧ PyData.canLayAll0 ds = true ∧ Q (.bl (if neg then !(ds.any fun z => PyData.eqv z d) else ds.any fun z => PyData.eqv z d)) H) ∨
  ∃ i j, x = .str i ∧ y = .str j ∧ Q (.bl (if neg then !(!(Builtin.Str.occurrences j i 0 j.length 1).isEmpty) else !(Builtin.Str.occurrences j i 0 j.length 1).isEmpty)) H
theorem op_inA (hu : X.A.units + 65 < cLine) : OpR X (compareOp .In) (rInA X.K false) := by
  intro pins s σ H x y v u Q I rx ry h
  rcases h with ⟨d, e, ds, hd, he, hk, sd, se, q⟩ | ⟨i, j, e1, e2, q⟩
  · obtain ⟨as, r1⟩ := Dp.reads I d x v hd rx
    obtain ⟨bs, r2⟩ := Dp.reads I e y u he ry
    rcases hk with rfl | rfl
    · exact SeqAt.in_list_reads r2 r1 se (SeqAt.canLay_of_shaped sd) (PyProof.Rows.room_in_shaped sd hu) ⟨.bl _, H, I, rfl, q⟩
    · exact SeqAt.in_tuple_reads r2 r1 se (SeqAt.canLay_of_shaped sd) (PyProof.Rows.room_in_shaped sd hu) ⟨.bl _, H, I, rfl, q⟩
  · exact op_in_str pins s σ H x y v u Q I rx ry ⟨i, j, e1, e2, q⟩
theorem op_notInA (hu : X.A.units + 65 < cLine) : OpR X (compareOp .NotIn) (rInA X.K true) := by
  intro pins s σ H x y v u Q I rx ry h
  rcases h with ⟨d, e, ds, hd, he, hk, sd, se, q⟩ | ⟨i, j, e1, e2, q⟩
  · obtain ⟨as, r1⟩ := Dp.reads I d x v hd rx
    obtain ⟨bs, r2⟩ := Dp.reads I e y u he ry
    rcases hk with rfl | rfl
    · exact SeqAt.notIn_list_reads r2 r1 se (SeqAt.canLay_of_shaped sd) (PyProof.Rows.room_in_shaped sd hu) ⟨.bl _, H, I, rfl, q⟩
    · exact SeqAt.notIn_tuple_reads r2 r1 se (SeqAt.canLay_of_shaped sd) (PyProof.Rows.room_in_shaped sd hu) ⟨.bl _, H, I, rfl, q⟩
  · exact L2.op_notIn_str pins s σ H x y v u Q I rx ry ⟨i, j, e1, e2, q⟩
theorem v2_in {K : PySem.W.Frag} {C : Nat → Addr} {neg : Bool} : V2 K C (vIn neg) (rInA K neg) := by
  intro G H x y dx dy d Q s px py e k
  have go : ∀ (ds : List D) (w : PyData), (w = .list (toPyL ds) ∨ w = .tuple (toPyL ds)) → (PyData.canLayAll0 (toPyL ds) = true → Dp K H y w) →
      (if SeqAt.shaped dx.toPy = true ∧ PyData.canLayAll0 (toPyL ds) = true then some (D.bl (if neg then !((toPyL ds).any fun z => PyData.eqv z dx.toPy) else (toPyL ds).any fun z => PyData.eqv z dx.toPy)) else none) = some d → rInA K neg x y H Q := by
    intro ds w hw hd e
    split at e
    · rename_i h
      cases e
      exact .inl ⟨_, w, _, px.dp s (SeqAt.canLay_of_shaped h.1), hd h.2, hw, h.1, h.2, Grow.here s k (.bl _)⟩
    · cases e
  cases py with
  | @lst a xs ds h r => exact go ds _ (.inl rfl) (fun c => .lst (.inl (.inl (s _ _ h))) (r.dp s c)) e
  | @scr a xs ds h r => exact go ds _ (.inl rfl) (fun c => .lst (Same.seq s h) (r.dp s c)) e
  | @tup a xs ds h r => exact go ds _ (.inr rfl) (fun c => .tup (same_seqT s h) (r.dp s c)) e
  | str z hz =>
    cases px with
    | str c hc => cases e; exact .inr ⟨c, z, rfl, rfl, Grow.here s k (.bl _)⟩
    | _ => cases e
  | _ => cases e
theorem v2_is {K : PySem.W.Frag} {C : Nat → Addr} : V2 K C (vIs false) (fun x y H Q => y = .non ∧ Q (.bl (decide (x = .non))) H) := by
  intro G H x y dx dy d Q s px py e k
  cases py with
  | non =>
    cases e
    refine ⟨rfl, ?_⟩
    cases px with
    | non => exact Grow.here s k (.bl _)
    | _ => exact Grow.here s k (.bl _)
  | _ => cases e
theorem v2_isNot {K : PySem.W.Frag} {C : Nat → Addr} : V2 K C (vIs true) (fun x y H Q => y = .non ∧ Q (.bl (!decide (x = .non))) H) := by
  intro G H x y dx dy d Q s px py e k
  cases py with
  | non =>
    cases e
    refine ⟨rfl, ?_⟩
    cases px with
    | non => exact Grow.here s k (.bl _)
    | _ => exact Grow.here s k (.bl _)
  | _ => cases e
theorem v2_isB {K : PySem.W.Frag} {C : Nat → Addr} : V2 K C (vIsB false) (fun x y H Q => ∃ a b, x = .bl a ∧ y = .bl b ∧ Q (.bl (decide (a = b))) H) := by
  intro G H x y dx dy d Q s px py e k
  cases px with
  | bl a =>
    cases py with
    | bl b => cases e; exact ⟨a, b, rfl, rfl, Grow.here s k (.bl _)⟩
    | _ => cases e
  | _ => cases e
theorem v2_notB {K : PySem.W.Frag} {C : Nat → Addr} : V2 K C (vIsB true) (fun x y H Q => ∃ a b, x = .bl a ∧ y = .bl b ∧ Q (.bl (!decide (a = b))) H) := by
  intro G H x y dx dy d Q s px py e k
  cases px with
  | bl a =>
    cases py with
    | bl b => cases e; exact ⟨a, b, rfl, rfl, Grow.here s k (.bl _)⟩
    | _ => cases e
  | _ => cases e
def CK.op : CK → CmpOp
  | .lt => .Lt | .le => .LtE | .gt => .Gt | .ge => .GtE | .eq => .Eq | .ne => .NotEq | .isN => .Is | .notN => .IsNot | .in_ => .In | .notIn => .NotIn | .isB => .Is | .notB => .IsNot
def CK.f : CK → D → D → Option D
  | .lt => vB fun i j => decide (i < j)
  | .le => vB fun i j => decide (i ≤ j)
  | .gt => vB fun i j => decide (j < i)
  | .ge => vB fun i j => decide (j ≤ i)
  | .eq => vEqS false | .ne => vEqS true | .isN => vIs false | .notN => vIs true | .in_ => vIn false | .notIn => vIn true | .isB => vIsB false | .notB => vIsB true
def CK.r (K : PySem.W.Frag) : CK → R2
  | .lt => rI0 fun i j => .bl (decide (i < j))
  | .le => rI0 fun i j => .bl (decide (i ≤ j))
  | .gt => rI0 fun i j => .bl (decide (j < i))
  | .ge => rI0 fun i j => .bl (decide (j ≤ i))
  | .eq => fun x y H Q => rEq x y H Q ∨ rEqD K x y H Q
  | .ne => fun x y H Q => rNe x y H Q ∨ rNeD K x y H Q
  | .isN => fun x y H Q => y = .non ∧ Q (.bl (decide (x = .non))) H
  | .notN => fun x y H Q => y = .non ∧ Q (.bl (!decide (x = .non))) H
  | .in_ => rInA K false | .notIn => rInA K true
  | .isB => fun x y H Q => ∃ a b, x = .bl a ∧ y = .bl b ∧ Q (.bl (decide (a = b))) H
  | .notB => fun x y H Q => ∃ a b, x = .bl a ∧ y = .bl b ∧ Q (.bl (!decide (a = b))) H
theorem CK.ok (k : CK) (hu : X.A.units + 65 < cLine) : OpR X (compareOp k.op) (k.r X.K) := by
  cases k with
  | lt => exact op_lt
  | le => exact op_le
  | gt => exact op_gt
  | ge => exact op_ge
  | eq => exact op_eq.or (op_eqD (by omega))
  | ne => exact op_ne.or (op_neD (by omega))
  | isN => exact op_isN
  | notN => exact op_notN
  | in_ => exact op_inA hu
  | notIn => exact op_notInA hu
  | isB => exact op_is_bl
  | notB => exact op_isnot_bl
theorem CK.v (k : CK) {K : PySem.W.Frag} {C : Nat → Addr} : V2 K C k.f (k.r K) := by
  cases k with
  | lt => exact v2_B
  | le => exact v2_B
  | gt => exact v2_B
  | ge => exact v2_B
  | eq => exact v2_eqS
  | ne => exact v2_neS
  | isN => exact v2_is
  | notN => exact v2_isNot
  | in_ => exact v2_in
  | notIn => exact v2_in
  | isB => exact v2_isB
  | notB => exact v2_notB
abbrev dCmp (k : CK) := dOp k.f
theorem de_c (k : CK) (hu : X.A.units + 65 < cLine) (ha : DE X cc a da) (hb : DE X cc b db) (hm : behindInMarks k.op b = false := by rfl) : DE X cc (.Compare a [k.op] [b] pos) (dCmp k da db) := de_cmp (k.ok hu) k.v hm ha hb
theorem dt_c (k : CK) (hu : X.A.units + 65 < cLine) (ha : DE X cc a da) (hb : DE X cc b db) (hm : behindInMarks k.op b = false := by rfl) : DT X cc (.Compare a [k.op] [b] pos) (dT (dCmp k da db)) := dt_cmp (k.ok hu) k.v hm ha hb
def dChain (f g : D → D → Option D) (da db dc : ENV → R D) : ENV → R D := fun ρ => (da ρ).bind fun x ρ1 => (db ρ1).bind fun y ρ2 => match f x y with
  | some (.bl true) => (dc ρ2).bind fun z ρ3 => R.of (g y z) ρ3
  | some (.bl false) => .ok (.bl false) ρ2
  | _ => .bot
variable {c : Expr} {dc : ENV → R D}
theorem chain_core {f g : D → D → Option D} {r r' : R2} (h1 : V2 X.K cc.C f r) (h2 : V2 X.K cc.C g r') : ∀ σ H Q, rE X.K cc (dChain f g da db dc) σ H Q → tChain r r' (rE X.K cc da) (rE X.K cc db) (rE X.K cc dc) σ H Q := by
  intro σ H Q ⟨B, ρ, G, R0, h⟩
  refine ⟨B, ρ, G, R0, h.bind fun d1 ρ1 G1 H1 x e1 R1 p1 q1 => ⟨B, ρ1, G1, R1, q1.bind fun d2 ρ2 G2 H2 y e2 R2 p2 q2 => ?_⟩⟩
  cases hf : f d1 d2 with
  | none => simp only [hf] at q2; exact q2.elim
  | some d =>
    cases d with
    | bl k =>
      refine h1 R2.gk (p1.mono e2.gg) p2 hf fun v G' H' gr p => ?_
      cases p
      refine ⟨k, rfl, ?_⟩
      have R3 := R2.grow gr
      cases k with
      | false =>
        simp only [hf] at q2
        exact iteF (Post.fin q2 R2 (Ext.refl _ _) gr (.bl false))
      | true =>
        simp only [hf] at q2
        refine iteT ⟨B, ρ2, G', R3, ?_⟩
        have q3 : Post X.K cc (Rp X.K cc.C) B G' σ Q ((dc ρ2).bind fun z ρ3 => R.of (g d2 z) ρ3) := by
          revert q2
          cases ((dc ρ2).bind fun z ρ3 => R.of (g d2 z) ρ3) with
          | ok a ρ => exact fun q v G' H' e R p => q v G' H' ((gr.ext R2.bk).trans e) R p
          | exc a ρ => exact fun q cl dd G' H' e R p => q cl dd G' H' ((gr.ext R2.bk).trans e) R p
          | bot => exact id
        refine q3.bind fun d3 ρ3 G3 H3 z e3 R3' p3 q3 => ?_
        cases hg : g d2 d3 with
        | none => rw [hg] at q3; exact q3.elim
        | some d =>
          rw [hg] at q3
          exact h2 R3'.gk (p2.mono (gr.gg.trans e3.gg)) p3 hg fun v G' H' g p => Post.fin q3 R3' (Ext.refl _ _) g p
    | _ => simp only [hf] at q2; exact q2.elim
theorem de_chain (k k' : CK) (hu : X.A.units + 65 < cLine) (ha : DE X cc a da) (hb : DE X cc b db) (hc : DE X cc c dc) (hm : lastMarks [k.op, k'.op] [b, c] = false := by with_unfolding_all rfl) : DE X cc (.Compare a [k.op, k'.op] [b, c] pos) (dChain k.f k'.f da db dc) :=
  PE.imp (pe_chain (k.ok hu) (k'.ok hu) ha hb hc hm) (chain_core k.v k'.v)
theorem dt_chain (k k' : CK) (hu : X.A.units + 65 < cLine) (ha : DE X cc a da) (hb : DE X cc b db) (hc : DE X cc c dc) (hm : lastMarks [k.op, k'.op] [b, c] = false := by with_unfolding_all rfl) : DT X cc (.Compare a [k.op, k'.op] [b, c] pos) (dT (dChain k.f k'.f da db dc)) :=
  PT.imp (pt_chain (k.ok hu) (k'.ok hu) ha hb hc hm) (test_core (chain_core k.v k'.v))

theorem RpL.atI {K : PySem.W.Frag} {C : Nat → Addr} {G : Hp} {v : List V} {d : List D} {i : Int} {x : D} (r : RpL K C G v d) (e : L2.atI d i = some x) : ∃ y, L2.atI v i = some y ∧ Rp K C G y x := by
  unfold L2.atI at e ⊢
  rw [r.length]
  cases h : ixN d.length i with
  | none => rw [h] at e; cases e
  | some j => rw [h] at e; exact r.get e
theorem sign_len (c : Nat) : (⟨#[c]⟩ : Str).length ≤ sizeLine := by rw [sizeLine_eq]; show 1 ≤ _; decide
def vIxI : D → D → Option D
  | .tup ds, .int i => atI ds i
  | .lst ds, .int i => atI ds i
  | .scr ds, .int i => atI ds i
  | .str z, .int i => (atI z.cps.toList i).map fun c => .str ⟨#[c]⟩
  | _, _ => none
theorem v2_ix {K : PySem.W.Frag} {C : Nat → Addr} : V2 K C vIxI (rIx K) := by
  intro G H x y dx dy d Q s px py e k
  cases py with
  | int i =>
    cases px with
    | tup h r =>
      obtain ⟨z, h1, h2⟩ := r.atI (show L2.atI _ i = some d from e)
      exact .inr (.inl ⟨_, _, i, z, rfl, rfl, same_seqT s h, h1, Grow.here s k h2⟩)
    | lst h r =>
      obtain ⟨z, h1, h2⟩ := r.atI (show L2.atI _ i = some d from e)
      exact .inl ⟨_, _, i, z, rfl, rfl, .inl (.inl (s _ _ h)), h1, Grow.here s k h2⟩
    | scr h r =>
      obtain ⟨z, h1, h2⟩ := r.atI (show L2.atI _ i = some d from e)
      exact .inl ⟨_, _, i, z, rfl, rfl, Same.seq s h, h1, Grow.here s k h2⟩
    | str z hz =>
      have e : (L2.atI z.cps.toList i).map (fun c => D.str ⟨#[c]⟩) = some d := e
      cases hc : L2.atI z.cps.toList i with
      | none => rw [hc] at e; cases e
      | some c =>
        rw [hc] at e; cases e
        exact .inr (.inr ⟨z, i, c, rfl, rfl, hz, hc, Grow.here s k (.str _ (sign_len c))⟩)
    | _ => cases e
  | _ => cases px <;> cases e
abbrev dIx := dOp vIxI
theorem de_ix (ha : DE X cc a da) (hb : DE X cc b db) (hs : PlainIx b := by intro _ _; rfl) : DE X cc (.Subscript a b pos) (dIx da db) := PE.imp (pe_ix ix_seq ha hb hs) (op_core v2_ix)
end
end Rf
set_option Elab.async false
set_option linter.all false
set_option maxRecDepth 100000
namespace Rf
open PySem L2
section
variable {X : Cx} {cc : Cc} {a b c e : Expr} {da db dc : ENV → R D} {pos : Pos} {es : List Expr} {dr : ENV → R (List D)}
def dNoPart : ENV → R (Option Int) := fun ρ => .ok none ρ
def dPart (da : ENV → R D) : ENV → R (Option Int) := fun ρ => (da ρ).bind fun x ρ1 => match x with
  | .int i => .ok (some i) ρ1
  | _ => .bot
def rO (K : PySem.W.Frag) (cc : Cc) (den : ENV → R (Option Int)) : TO := fun σ H Q => ∃ B ρ G, Rl K cc B ρ σ G H ∧ Post K cc (fun _ b c => b = c) B G σ Q (den ρ)
def DO (X : Cx) (cc : Cc) (e : Option Expr) (den : ENV → R (Option Int)) : Prop := PO X e (rO X.K cc den)
theorem PO.imp {e : Option Expr} {t t' : TO} (h : PO X e t) (k : ∀ σ H Q, t' σ H Q → t σ H Q) : PO X e t' := ⟨fun pins s σ H Q I q => h.run pins s σ H Q I (k _ _ _ q)⟩
theorem do_none : DO X cc none dNoPart := PO.imp po_none fun σ H Q ⟨B, ρ, G, R0, h⟩ => h none G H (Ext.refl _ _) R0 rfl
theorem do_some (ha : DE X cc a da) : DO X cc (some a) (dPart da) := by
  refine PO.imp (po_some ha) fun σ H Q ⟨B, ρ, G, R0, h⟩ => ⟨B, ρ, G, R0, Post.bind (V2 := fun _ b c => b = c) h fun d1 ρ1 G1 H1 x e1 R1 p1 h1 => ?_⟩
  cases p1 with
  | int i => exact ⟨i, rfl, h1 (some i) G1 H1 (Ext.refl _ _) R1 rfl⟩
  | _ => exact h1.elim
def cutD (xs : List D) (lo hi : Option Int) : List D := (xs.drop (HT.sIx xs.length 0 lo)).take (HT.sIx xs.length xs.length hi - HT.sIx xs.length 0 lo)
def vSl (x : D) (lo hi : Option Int) : Option D := match x with
  | .tup ds => some (.tup (cutD ds lo hi))
  | .lst ds => some (.lst (cutD ds lo hi))
  | .str z => some (.str (cutS z lo hi))
  | _ => none
theorem RpL.cut {K : PySem.W.Frag} {C : Nat → Addr} {G : Hp} {v : List V} {d : List D} (r : RpL K C G v d) (lo hi : Option Int) : RpL K C G (cutV v lo hi) (cutD d lo hi) := by
  unfold cutV cutD
  rw [r.length]
  exact (r.drop _).take _
theorem cutD_whole (ds : List D) (lo hi : Option Int) (h : HT.sIx ds.length 0 lo = 0 ∧ HT.sIx ds.length ds.length hi = ds.length) : cutD ds lo hi = ds := by
  unfold cutD
  rw [h.1, h.2]
  simp
def dSl (da : ENV → R D) (dl dh : ENV → R (Option Int)) : ENV → R D := fun ρ => (da ρ).bind fun x ρ1 => (dl ρ1).bind fun l ρ2 => (dh ρ2).bind fun h ρ3 => R.of (vSl x l h) ρ3
theorem de_sl {lo hi : Option Expr} {dl dh : ENV → R (Option Int)} {p2 : Pos} (ha : DE X cc a da) (hl : DO X cc lo dl) (hh : DO X cc hi dh) : DE X cc (.Subscript a (.Slice lo hi none p2) pos) (dSl da dl dh) := by
  refine PE.imp (pe_slice (sl_tupA.or (sl_list.or sl_str)) ha hl hh) fun σ H Q ⟨B, ρ, G, R0, h⟩ => ⟨B, ρ, G, R0, h.bind fun d1 ρ1 G1 H1 x e1 R1 p1 h1 => ⟨B, ρ1, G1, R1, Post.bind (V1 := fun _ b c => b = c) h1 fun l ρ2 G2 H2 l' e2 R2 p2 h2 =>
    ⟨B, ρ2, G2, R2, Post.bind (V1 := fun _ b c => b = c) h2 fun u ρ3 G3 H3 u' e3 R3 p3 h3 => ?_⟩⟩⟩
  subst p2 p3
  have p1 := p1.mono (e2.gg.trans e3.gg)
  cases p1 with
  | @tup a xs ds h r =>
    refine .inl ⟨a, xs, rfl, same_seqT R3.gk h, fun q => ?_, fun q p hp => ?_⟩
    · refine Post.fin h3 R3 (Ext.refl _ _) (Grow.refl R3.gk) ?_
      rw [cutD_whole ds _ _ (by rw [← r.length]; exact q)]
      exact .tup h r
    · have g := Grow.new (o := .tup (cutV xs l' u')) R3.gk hp
      exact Post.fin h3 R3 (Ext.refl _ _) g (.tup (.inl (.inl upd_same)) ((r.cut _ _).mono g.gg))
  | @lst a xs ds h r =>
    refine .inr (.inl ⟨a, xs, rfl, .inl (.inl (R3.gk _ _ h)), fun p hp => ?_⟩)
    have g := Grow.new (o := .lst (cutV xs l' u')) R3.gk hp
    exact Post.fin h3 R3 (Ext.refl _ _) g (.lst upd_same ((r.cut _ _).mono g.gg))
  | str z hz => exact .inr (.inr ⟨z, rfl, hz, Post.fin h3 R3 (Ext.refl _ _) (Grow.refl R3.gk) (.str _ (Nat.le_trans (cutS_length z _ _) hz))⟩)
  | _ => exact h3.elim

def dB (f : List D → Option D) (dr : ENV → R (List D)) : ENV → R D := fun ρ => (dr ρ).bind fun xs ρ1 => R.of (f xs) ρ1
def VB (K : PySem.W.Frag) (C : Nat → Addr) (f : List D → Option D) (r : List V → Hp → VK → Prop) : Prop :=
  ∀ {G H : Hp} {xs : List V} {ds : List D} {d : D} {Q : VK}, Same G H → RpL K C G xs ds → f ds = some d → (∀ v G' H', Grow G H G' H' → Rp K C G' v d → Q v H') → r xs H Q
theorem cb_core {r : List V → Hp → VK → Prop} {f : List D → Option D} (hv : VB X.K cc.C f r) : ∀ σ H Q, rE X.K cc (dB f dr) σ H Q → tCB r (rA X.K cc dr) σ H Q := by
  intro σ H Q ⟨B, ρ, G, R0, h⟩
  refine ⟨B, ρ, G, R0, h.bind fun d1 ρ1 G1 H1 x e1 R1 p1 h1 => ?_⟩
  cases hf : f d1 with
  | none => rw [hf] at h1; exact h1.elim
  | some d =>
    rw [hf] at h1
    exact hv R1.gk p1 hf fun v G' H' g p => Post.fin h1 R1 (Ext.refl _ _) g p
theorem de_B {id : String} {x : Str} {p : Pos} {r : List V → Hp → VK → Prop} {f : List D → Option D} (hc : CallR X (.builtin id) r) (hf : VB X.K cc.C f r) (hg : Gl X x) (hm : X.mg x = none) (hv : bootBuiltins x = some (.builtin id)) (ha : DA X cc (e :: es) dr)
    (hn : x ≠ "__name__" := by decide) (hdb : (x == ("__debug__" : Str)) = false := by decide) (he : starEach (e :: es) X.env = (false, eval e X.env) :: starEach es X.env := by rfl) (hpl : (backTo pos (starEach es X.env)).any (·.1) = false := by rfl) :
    DE X cc (.Call (.Name x p) (e :: es) [] pos) (dB f dr) := PE.imp (pe_callB hc hg hm hv ha hn hdb he hpl) (cb_core hf)
theorem de_T {T : String} {x : Str} {p : Pos} {r : List V → Hp → VK → Prop} {f : List D → Option D} (hc : CallR X (.type T) r) (hf : VB X.K cc.C f r) (hg : Gl X x) (hm : X.mg x = none) (hv : bootBuiltins x = some (.type T)) (ha : DA X cc (e :: es) dr)
    (hn : x ≠ "__name__" := by decide) (hdb : (x == ("__debug__" : Str)) = false := by decide) (he : starEach (e :: es) X.env = (false, eval e X.env) :: starEach es X.env := by rfl) (hpl : (backTo pos (starEach es X.env)).any (·.1) = false := by rfl) :
    DE X cc (.Call (.Name x p) (e :: es) [] pos) (dB f dr) := PE.imp (pe_callTy hc hg hm hv ha hn hdb he hpl) (cb_core hf)
variable {K : PySem.W.Frag} {C : Nat → Addr}
def fLen : List D → Option D
  | [.str z] => some (.int z.length)
  | [.tup ds] => some (.int ds.length)
  | [.lst ds] => some (.int ds.length)
  | [.scr ds] => some (.int ds.length)
  | _ => none
def rLen (K : PySem.W.Frag) : List V → Hp → VK → Prop := fun xs H Q => (∃ p ys, xs = [.ref p] ∧ (SqL K H p ys ∨ SqT K H p ys) ∧ Q (.int ys.length) H) ∨ ∃ z, xs = [.str z] ∧ z.length ≤ sizeLine ∧ Q (.int z.length) H
theorem vb_len : VB K C fLen (rLen K) := by
  intro G H xs ds d Q s r e k
  cases r with
  | nil => cases e
  | cons h t =>
    cases t with
    | cons _ _ => cases h <;> cases e
    | nil =>
      cases h with
      | str z hz => cases e; exact .inr ⟨z, rfl, hz, Grow.here s k (.int _)⟩
      | tup h r => cases e; exact .inl ⟨_, _, rfl, .inr (same_seqT s h), by rw [r.length]; exact Grow.here s k (.int _)⟩
      | lst h r => cases e; exact .inl ⟨_, _, rfl, .inl (.inl (.inl (s _ _ h))), by rw [r.length]; exact Grow.here s k (.int _)⟩
      | scr h r => cases e; exact .inl ⟨_, _, rfl, .inl (Same.seq s h), by rw [r.length]; exact Grow.here s k (.int _)⟩
      | _ => cases e
def fInt : List D → Option D
  | [.int i] => some (.int i)
  | [.bl b] => some (.int (if b then 1 else 0))
  | _ => none
theorem vb_int : VB K C fInt (fun xs H Q => (∃ i, xs = [.int i] ∧ Q (.int i) H) ∨ ∃ k, xs = [.bl k] ∧ Q (.int (if k then 1 else 0)) H) := by
  intro G H xs ds d Q s r e k
  cases r with
  | nil => cases e
  | cons h t =>
    cases t with
    | cons _ _ => cases h <;> cases e
    | nil =>
      cases h with
      | int i => cases e; exact .inl ⟨i, rfl, Grow.here s k (.int _)⟩
      | bl i => cases e; exact .inr ⟨i, rfl, Grow.here s k (.int _)⟩
      | _ => cases e
def fAbs : List D → Option D
  | [.int i] => some (.int (if i < 0 then -i else i))
  | _ => none
def fTuple : List D → Option D
  | [.lst ds] => some (.tup ds)
  | [.scr ds] => some (.tup ds)
  | [.tup ds] => some (.tup ds)
  | _ => none
def fList : List D → Option D
  | [.lst ds] => some (.lst ds)
  | [.scr ds] => some (.lst ds)
  | [.tup ds] => some (.lst ds)
  | _ => none
def bools : List D → Option (List Bool)
  | [] => some []
  | .bl b :: r => (bools r).map (b :: ·)
  | _ => none
theorem RpL.bools {G : Hp} : ∀ {vs : List V} {ds : List D} {bs : List Bool}, RpL K C G vs ds → Rf.bools ds = some bs → vs = bs.map V.bl
  | _, _, bs, .nil, e => by cases e; rfl
  | _, _, bs, .cons (d := d) h r, e => by
    cases h with
    | bl b =>
      unfold Rf.bools at e
      rename_i ds
      cases h2 : Rf.bools ds with
      | none => rw [h2] at e; cases e
      | some cs => rw [h2] at e; cases e; rw [r.bools h2]; rfl
    | _ => cases e
def fAll : List D → Option D
  | [.lst ds] => (bools ds).map fun bs => .bl (bs.all id)
  | _ => none
theorem vb_all : VB K C fAll (rAll K) := by
  intro G H xs ds d Q s r e k
  cases r with
  | nil => cases e
  | cons h t =>
    cases t with
    | cons _ _ => cases h <;> cases e
    | nil =>
      cases h with
      | @lst a xs ds h r =>
        have e : (bools ds).map (fun bs => D.bl (bs.all id)) = some d := e
        cases hb : bools ds with
        | none => rw [hb] at e; cases e
        | some bs => rw [hb] at e; cases e; exact ⟨a, bs, rfl, by rw [← r.bools hb]; exact .inl (.inl (s _ _ h)), Grow.here s k (.bl _)⟩
      | _ => cases e
def intsOf : List D → Option (List Int)
  | [] => some []
  | .int b :: r => (intsOf r).map (b :: ·)
  | _ => none
def maxI : Int → List Int → Int
  | m, [] => m
  | m, x :: r => maxI (if x > m then x else m) r
def minI : Int → List Int → Int
  | m, [] => m
  | m, x :: r => minI (if x < m then x else m) r
def maxOf : List Int → Option D
  | [] => none
  | m :: r => some (.int (maxI m r))
def minOf : List Int → Option D
  | [] => none
  | m :: r => some (.int (minI m r))
def fMax : List D → Option D
  | [.int i, .int j] => some (.int (if j > i then j else i))
  | [.lst ds] => (intsOf ds).bind maxOf
  | [.tup ds] => (intsOf ds).bind maxOf
  | _ => none
def fMin : List D → Option D
  | [.int i, .int j] => some (.int (if j < i then j else i))
  | [.lst ds] => (intsOf ds).bind minOf
  | [.tup ds] => (intsOf ds).bind minOf
  | _ => none
theorem cr_lenS : CallR X (.builtin "len") (rLen X.K) := by
  intro pins s σ H xs us Q I r h
  rcases h with ⟨p, ys, e, hs, q⟩ | ⟨z, e, hz, q⟩
  · exact call_len_seq pins s σ H xs us Q I r ⟨p, ys, e, hs, q⟩
  · exact call_len_str pins s σ H xs us Q I r ⟨z, e, hz, q⟩
def isTy (T : String) : D → Option Bool
  | .non => kitB "NoneType" T
  | .bl _ => kitB "bool" T
  | .int _ => kitB "int" T
  | .str _ => kitB "str" T
  | .tup _ => kitB "tuple" T
  | .lst _ => kitB "list" T
  | .scr _ => kitB "list" T
  | .dic _ => kitB "dict" T
  | .ins _ _ => none
theorem sqT_ty {K : PySem.W.Frag} {H : Hp} {a : Addr} {xs : List V} (h : SqT K H a xs) : TyX K H (.ref a) (.type "tuple") := by
  rcases h with (h | ⟨o, h⟩) | ⟨o, its, n, h, c, _⟩
  · exact .base (.tup h)
  · exact .fTuple h
  · exact .kTuple h c
theorem sqL_ty {K : PySem.W.Frag} {H : Hp} {a : Addr} {xs : List V} (h : SqL K H a xs) : TyX K H (.ref a) (.type "list") := by
  rcases h with (h | ⟨o, h⟩) | ⟨o, its, n, h, c, _⟩
  · exact .base (.lst h)
  · exact .base (.frz h)
  · exact .kList h c
theorem isTy_ok {T : String} {G H : Hp} {v : V} {d : D} {b : Bool} (s : Same G H) (p : Rp K C G v d) (e : isTy T d = some b) : ∃ t, TyX K H v t ∧ PySem.W.kitOne K t (.type T) = some b := by
  cases p with
  | non => exact ⟨_, .base .non, kit_ty e⟩
  | bl b => exact ⟨_, .base (.bl b), kit_ty e⟩
  | int b => exact ⟨_, .base (.int b), kit_ty e⟩
  | str b _ => exact ⟨_, .base (.str b), kit_ty e⟩
  | tup h r => exact ⟨_, sqT_ty (same_seqT s h), kit_ty e⟩
  | lst h r => exact ⟨_, .base (.lst (s _ _ h)), kit_ty e⟩
  | scr h r => exact ⟨_, sqL_ty (Same.seq s h), kit_ty e⟩
  | dic h r => exact ⟨_, .base (.dK (s _ _ h)), kit_ty e⟩
  | ins h r => cases e
def dIs (f : D → Option Bool) (da : ENV → R D) : ENV → R D := dUn (fun d => (f d).map D.bl) da
theorem de_isA {x y : Str} {p p2 : Pos} {f : D → Option Bool} {cv : V} {cu : Value} (hf : ∀ {G H : Hp} {v : V} {d : D} {b : Bool}, Same G H → Rp X.K cc.C G v d → f d = some b → ∃ t, TyX X.K H v t ∧ PySem.W.kitOne X.K t cu = some b)
    (hc : PE X (.Name y p2) (tC cv)) (hk : ClsV cv cu) (hg : Gl X x) (hm : X.mg x = none) (hv : bootBuiltins x = some (.builtin "isinstance")) (ha : DE X cc a da)
    (hn : x ≠ "__name__" := by decide) (hdb : (x == ("__debug__" : Str)) = false := by decide) (he : starEach [a, .Name y p2] X.env = (false, eval a X.env) :: starEach [.Name y p2] X.env := by rfl)
    (hpl : (backTo pos (starEach [.Name y p2] X.env)).any (·.1) = false := by rfl) (hs2 : starEach [.Name y p2] X.env = (false, eval (.Name y p2) X.env) :: starEach [] X.env := by rfl) : DE X cc (.Call (.Name x p) [a, .Name y p2] [] pos) (dIs f da) := by
  refine PE.imp (pe_callB call_isi hg hm hv (pa_cons ha (pa_cons hc pa_nil hs2) he) hn hdb he hpl) fun σ H Q ⟨B, ρ, G, R0, h⟩ => ⟨B, ρ, G, R0, h.bind fun d1 ρ1 G1 H1 v e1 R1 p1 h1 => ?_⟩
  cases hb : f d1 with
  | none => simp only [hb, Option.map_none] at h1; exact h1.elim
  | some b =>
    simp only [hb, Option.map_some] at h1
    obtain ⟨t, ht, hko⟩ := hf R1.gk p1 hb
    exact ⟨v, cv, t, cu, b, rfl, hk, ht, hko, Post.fin h1 R1 (Ext.refl _ _) (Grow.refl R1.gk) (.bl b)⟩
theorem de_isT {T : String} {x y : Str} {p p2 : Pos} (hg : Gl X x) (hm : X.mg x = none) (hv : bootBuiltins x = some (.builtin "isinstance")) (hgy : Gl X y) (hmy : X.mg y = none) (hvy : bootBuiltins y = some (.type T)) (ha : DE X cc a da)
    (hn : x ≠ "__name__" := by decide) (hdb : (x == ("__debug__" : Str)) = false := by decide) (hn2 : y ≠ "__name__" := by decide) (hdb2 : (y == ("__debug__" : Str)) = false := by decide) (he : starEach [a, .Name y p2] X.env = (false, eval a X.env) :: starEach [.Name y p2] X.env := by rfl)
    (hpl : (backTo pos (starEach [.Name y p2] X.env)).any (·.1) = false := by rfl) (hs2 : starEach [.Name y p2] X.env = (false, eval (.Name y p2) X.env) :: starEach [] X.env := by rfl) : DE X cc (.Call (.Name x p) [a, .Name y p2] [] pos) (dIs (isTy T) da) :=
  de_isA (cv := .ty T) (cu := .type T) (fun s p e => isTy_ok s p e) (pe_bltn hgy hmy hvy rfl hn2 hdb2) (.ty T) hg hm hv ha hn hdb he hpl hs2
end
end Rf
set_option Elab.async false
set_option linter.all false
set_option maxRecDepth 100000
namespace Rf
open PySem PySem.Spec L2
def PostF (K : PySem.W.Frag) (cc : Cc) (B G : Hp) (σ : St) (Q : V → Hp → Prop) (r : R M) : Prop := match r with
  | .ok m ρ' => ∀ p G' H', Ext B G G' → Rl K cc B ρ' σ G' H' → Own K cc.C B G' H' p m → (∀ (i : Nat) (m' : M), ρ'[i]? = some (some (.ow m')) → σ[i]? ≠ some (some (.ref p))) → Q (.ref p) H'
  | .exc e ρ' => ∀ cl dd G' H', Ext B G G' → Rl K cc B ρ' σ G' H' → ERp K cc.C G' e cl dd → cc.W cl dd σ H'
  | .bot => False
theorem PostF.bind {α β : Type} {K : PySem.W.Frag} {cc : Cc} {V1 : Hp → β → α → Prop} {B G : Hp} {σ : St} {Q : V → Hp → Prop} {Q' : β → Hp → Prop} {r : R α} {f : α → ENV → R M}
    (h : PostF K cc B G σ Q (r.bind f))
    (k : ∀ d ρ1 G1 H1 x, Ext B G G1 → Rl K cc B ρ1 σ G1 H1 → V1 G1 x d → PostF K cc B G1 σ Q (f d ρ1) → Q' x H1) : Post K cc V1 B G σ Q' r := by
  cases r with
  | ok d ρ1 =>
    intro v G1 H1 e1 R1 p1
    refine k d ρ1 G1 H1 v e1 R1 p1 ?_
    have h : PostF K cc B G σ Q (f d ρ1) := h
    revert h
    cases f d ρ1 with
    | ok c ρ2 => exact fun h v G' H' e R' p => h v G' H' (e1.trans e) R' p
    | exc c ρ2 => exact fun h cl dd G' H' e R' p => h cl dd G' H' (e1.trans e) R' p
    | bot => exact id
  | exc e ρ1 => exact h
  | bot => exact h
theorem Rl.notAt {K : PySem.W.Frag} {cc : Cc} {B : Hp} {ρ : ENV} {σ : St} {G H : Hp} {p : Addr} (r : Rl K cc B ρ σ G H) (h : H p = none) (i : Nat) (m : M) (e : ρ[i]? = some (some (.ow m))) : σ[i]? ≠ some (some (.ref p)) := fun z => by
  obtain ⟨q, hq, o⟩ := r.ow i m e
  rw [z] at hq; cases hq
  obtain ⟨x, hx, _⟩ := o.at_
  rw [h] at hx; cases hx
theorem PostF.fin {K : PySem.W.Frag} {cc : Cc} {B G : Hp} {σ : St} {Q : V → Hp → Prop} {m : M} {ρ1 : ENV} {G1 H1 : Hp} {p : Addr} {o : HO}
    (h : PostF K cc B G σ Q (.ok m ρ1)) (R1 : Rl K cc B ρ1 σ G1 H1) (e : Ext B G G1) (hp : H1 p = none) (hm : HoldsM K cc.C G1 o m) : Q (.ref p) (upd H1 p o) := by
  have g := Grow.newO (o := o) R1.gk hp
  exact h p G1 _ e (R1.grow g) ⟨R1.bk.free hp, R1.gk.free hp, o, upd_same, hm⟩ fun i m' q => R1.notAt hp i m' q
def rF (K : PySem.W.Frag) (cc : Cc) (den : ENV → R M) : TE := fun σ H Q => ∃ B ρ G, Rl K cc B ρ σ G H ∧ PostF K cc B G σ Q (den ρ)
def DF (X : Cx) (cc : Cc) (e : Expr) (den : ENV → R M) : Prop := PE X e (rF X.K cc den)
def frz (r : R M) : R D := r.bind fun m ρ => .ok m.toD ρ
section
variable {X : Cx} {cc : Cc} {a b c e : Expr} {da db dc : ENV → R D} {pos : Pos} {es : List Expr} {dr : ENV → R (List D)} {fa fb : ENV → R M}
theorem de_of (h : DF X cc e fa) : DE X cc e (fun ρ => frz (fa ρ)) := by
  refine PE.imp h fun σ H Q ⟨B, ρ, G, R0, h⟩ => ⟨B, ρ, G, R0, ?_⟩
  dsimp only [frz] at h
  cases hf : fa ρ with
  | ok m ρ1 =>
    rw [hf] at h
    intro p G1 H1 e1 R1 o nf
    obtain ⟨x, hx, hm⟩ := o.at_
    have sG : Same G1 (upd G1 p x) := same_upd o.ng
    refine h (.ref p) (upd G1 p x) H1 (e1.trans ⟨sG, fun a u q => ?_⟩) ⟨R1.bk, fun b u q => ?_, R1.ln, fun i d q => ?_, fun i m' q => ?_, R1.df, R1.pa, R1.kg.trans sG⟩ (HoldsM.rp upd_same (hm.mono sG))
    · by_cases z : a = p
      · subst z; exact .inr o.nb
      · rw [upd_ne z] at q; exact .inl q
    · by_cases z : b = p
      · subst z; rw [upd_same] at q; cases q; exact hx
      · rw [upd_ne z] at q; exact R1.gk b u q
    · obtain ⟨v, h1, h2⟩ := R1.sh i d q
      exact ⟨v, h1, h2.mono sG⟩
    · obtain ⟨q', h1, o'⟩ := R1.ow i m' q
      have ne : q' ≠ p := fun z => by subst z; exact nf i m' q h1
      obtain ⟨y, hy, hm'⟩ := o'.at_
      exact ⟨q', h1, o'.nb, by rw [upd_ne ne]; exact o'.ng, y, hy, hm'.mono sG⟩
  | exc x ρ1 => rw [hf] at h; exact h
  | bot => rw [hf] at h; exact h.elim
def ite_postF {K : PySem.W.Frag} {B G : Hp} {σ : St} {Q : V → Hp → Prop} {p : Prop} [Decidable p] {r : R M} (h : PostF K cc B G σ Q (if p then r else .bot)) : p ∧ PostF K cc B G σ Q r := by
  by_cases q : p
  · rw [if_pos q] at h; exact ⟨q, h⟩
  · rw [if_neg q] at h; exact h.elim
def fLst (dr : ENV → R (List D)) : ENV → R M := fun ρ => (dr ρ).bind fun xs ρ1 => if xs.length ≤ sizeLine then .ok (.lst xs) ρ1 else .bot
theorem df_list (h : DA X cc es dr) : DF X cc (.List es pos) (fLst dr) := by
  refine PE.imp (pe_lst h) fun σ H Q ⟨B, ρ, G, R0, h⟩ => ⟨B, ρ, G, R0, h.bind fun ds ρ1 G1 H1 xs e1 R1 p1 h1 => ?_⟩
  obtain ⟨hz, h1⟩ := ite_postF h1
  exact ⟨by rw [p1.length]; exact hz, fun p hp => h1.fin R1 (Ext.refl _ _) hp ⟨xs, rfl, p1⟩⟩
def fListF (dr : ENV → R D) : ENV → R M := fun ρ => (dr ρ).bind fun x ρ1 => match x with
  | .lst ds => .ok (.lst ds) ρ1
  | .scr ds => .ok (.lst ds) ρ1
  | .tup ds => .ok (.lst ds) ρ1
  | _ => .bot
end

def Oth (sl : List Nat) (σ σ' : St) : Prop := σ'.length = σ.length ∧ ∀ j, j ∉ sl → σ'[j]? = σ[j]?
def rG (K : PySem.W.Frag) (cc : Cc) (sl : List Nat) (gd : D → ENV → Option ENV) : TG := fun v σ H Q => ∃ B ρ G d ρ', Rl K cc B ρ σ G H ∧ Rp K cc.C G v d ∧ gd d ρ = some ρ' ∧ ∀ σ', Rl K cc B ρ' σ' G H → Oth sl σ σ' → Q σ' H
def rGs (K : PySem.W.Frag) (cc : Cc) (sl : List Nat) (gd : List D → ENV → Option ENV) : TGs := fun vs σ H Q => ∃ B ρ G ds ρ', Rl K cc B ρ σ G H ∧ RpL K cc.C G vs ds ∧ gd ds ρ = some ρ' ∧ ∀ σ', Rl K cc B ρ' σ' G H → Oth sl σ σ' → Q σ' H
def DG (X : Cx) (cc : Cc) (tg : Expr) (sl : List Nat) (gd : D → ENV → Option ENV) : Prop := PG X tg (rG X.K cc sl gd)
def DGs (X : Cx) (cc : Cc) (tgs : List Expr) (sl : List Nat) (gd : List D → ENV → Option ENV) : Prop := PGs X tgs (rGs X.K cc sl gd)
theorem PG.imp {X : Cx} {e : Expr} {t t' : TG} (h : PG X e t) (k : ∀ v σ H Q, t' v σ H Q → t v σ H Q) : PG X e t' := ⟨fun pins s σ H v u Q I r q => h.run pins s σ H v u Q I r (k _ _ _ _ q)⟩
theorem PGs.imp {X : Cx} {e : List Expr} {t t' : TGs} (h : PGs X e t) (k : ∀ v σ H Q, t' v σ H Q → t v σ H Q) : PGs X e t' := ⟨fun pins s σ H v u Q I r q => h.run pins s σ H v u Q I r (k _ _ _ _ q)⟩
def gSet (i : Nat) : D → ENV → Option ENV := fun d ρ => if i < ρ.length then some (ρ.set i (some (.sh d))) else none
theorem Rl.store {K : PySem.W.Frag} {cc : Cc} {B : Hp} {ρ : ENV} {σ : St} {G H : Hp} {i : Nat} {v : V} {d : D} (r : Rl K cc B ρ σ G H) (hi : i < ρ.length) (hp : i ∉ cc.pr) (p : Rp K cc.C G v d) : Rl K cc B (ρ.set i (some (.sh d))) (σ.set i (some v)) G H := by
  have hi' : i < σ.length := by rw [r.ln]; exact hi
  have old : ∀ (j : Nat) (m : M), (ρ.set i (some (.sh d)))[j]? = some (some (.ow m)) → j ≠ i ∧ ρ[j]? = some (some (.ow m)) := fun j m q => by
    by_cases h : j = i
    · subst h; rw [List.getElem?_set_self hi] at q; cases q
    · rw [List.getElem?_set_ne (Ne.symm h)] at q; exact ⟨h, q⟩
  refine ⟨r.bk, r.gk, by rw [List.length_set, List.length_set]; exact r.ln, fun j e q => ?_, fun j m q => ?_, fun j k m m' q q1 q2 q3 q4 => ?_, fun j hj => ?_, r.kg⟩
  · by_cases h : j = i
    · subst h
      rw [List.getElem?_set_self hi] at q; cases q
      exact ⟨v, by rw [List.getElem?_set_self hi'], p⟩
    · rw [List.getElem?_set_ne (Ne.symm h)] at q
      obtain ⟨v', h1, h2⟩ := r.sh j e q
      exact ⟨v', by rw [List.getElem?_set_ne (Ne.symm h)]; exact h1, h2⟩
  · obtain ⟨h, q⟩ := old j m q
    obtain ⟨p', h1, o⟩ := r.ow j m q
    exact ⟨p', by rw [List.getElem?_set_ne (Ne.symm h)]; exact h1, o⟩
  · obtain ⟨h, q1⟩ := old j m q1
    obtain ⟨h', q2⟩ := old k m' q2
    rw [List.getElem?_set_ne (Ne.symm h)] at q3
    rw [List.getElem?_set_ne (Ne.symm h')] at q4
    exact r.df j k m m' q q1 q2 q3 q4
  · have h : j ≠ i := fun z => by subst z; exact hp hj
    rw [List.getElem?_set_ne (Ne.symm h)]
    exact r.pa j hj
theorem Rl.storeO {K : PySem.W.Frag} {cc : Cc} {B : Hp} {ρ : ENV} {σ : St} {G H : Hp} {i : Nat} {p : Addr} {m : M} (r : Rl K cc B ρ σ G H) (hi : i < ρ.length) (hp : i ∉ cc.pr) (o : Own K cc.C B G H p m)
    (nf : ∀ (i : Nat) (m' : M), ρ[i]? = some (some (.ow m')) → σ[i]? ≠ some (some (.ref p))) : Rl K cc B (ρ.set i (some (.ow m))) (σ.set i (some (.ref p))) G H := by
  have hi' : i < σ.length := by rw [r.ln]; exact hi
  refine ⟨r.bk, r.gk, by rw [List.length_set, List.length_set]; exact r.ln, fun j e q => ?_, fun j m' q => ?_, fun j k m1 m2 q q1 q2 q3 q4 => ?_, fun j hj => ?_, r.kg⟩
  · by_cases h : j = i
    · subst h; rw [List.getElem?_set_self hi] at q; cases q
    · rw [List.getElem?_set_ne (Ne.symm h)] at q
      obtain ⟨v', h1, h2⟩ := r.sh j e q
      exact ⟨v', by rw [List.getElem?_set_ne (Ne.symm h)]; exact h1, h2⟩
  · by_cases h : j = i
    · subst h
      rw [List.getElem?_set_self hi] at q; cases q
      exact ⟨p, by rw [List.getElem?_set_self hi'], o⟩
    · rw [List.getElem?_set_ne (Ne.symm h)] at q
      obtain ⟨p', h1, o'⟩ := r.ow j m' q
      exact ⟨p', by rw [List.getElem?_set_ne (Ne.symm h)]; exact h1, o'⟩
  · by_cases h : j = i
    · by_cases h' : k = i
      · exact h.trans h'.symm
      · subst h
        rw [List.getElem?_set_self hi'] at q3; cases q3
        rw [List.getElem?_set_ne (Ne.symm h')] at q2 q4
        exact absurd q4 (nf k m2 q2)
    · rw [List.getElem?_set_ne (Ne.symm h)] at q1 q3
      by_cases h' : k = i
      · subst h'
        rw [List.getElem?_set_self hi'] at q4; cases q4
        exact absurd q3 (nf j m1 q1)
      · rw [List.getElem?_set_ne (Ne.symm h')] at q2 q4
        exact r.df j k m1 m2 q q1 q2 q3 q4
  · have h : j ≠ i := fun z => by subst z; exact hp hj
    rw [List.getElem?_set_ne (Ne.symm h)]
    exact r.pa j hj
section
variable {X : Cx} {cc : Cc} {pos : Pos}
theorem np {cc : Cc} {i : Nat} (h : cc.pr.contains i = false) : i ∉ cc.pr := fun z => by
  have := List.contains_iff_mem.mpr z
  rw [h] at this; cases this
theorem dg_name {i : Nat} {x : Str} (hN : X.N.Nodup) (hi : X.N[i]? = some x) (hx : Loc X.env.scope x) (hp : cc.pr.contains i = false) (hf : X.fn x = true ∨ X.env.scope.names.lookup x = some .local := by first | exact .inl rfl | exact .inr rfl | assumption) : DG X cc (.Name x pos) [i] (gSet i) := by
  refine PG.imp (pg_name hN hi hx hf) fun v σ H Q ⟨B, ρ, G, d, ρ', R0, p, e, k⟩ => ?_
  unfold gSet at e
  split at e
  · rename_i h; cases e; exact k _ (R0.store h (np hp) p) ⟨by rw [List.length_set], fun j hj => List.getElem?_set_ne (fun z => hj (by simp [z]))⟩
  · cases e
def gsNil : List D → ENV → Option ENV := fun ds ρ => match ds with
  | [] => some ρ
  | _ => none
def gsCons (g : D → ENV → Option ENV) (gs : List D → ENV → Option ENV) : List D → ENV → Option ENV := fun ds ρ => match ds with
  | d :: r => (g d ρ).bind fun ρ1 => gs r ρ1
  | _ => none
theorem dgs_nil : DGs X cc [] [] gsNil := PGs.imp pgs_nil fun v σ H Q ⟨B, ρ, G, d, ρ', R0, p, e, k⟩ => by
  cases p with
  | nil => cases e; exact ⟨rfl, k σ R0 ⟨rfl, fun _ _ => rfl⟩⟩
  | cons _ _ => cases e
theorem dgs_cons {e : Expr} {es : List Expr} {s1 s2 : List Nat} {g : D → ENV → Option ENV} {gs : List D → ENV → Option ENV} (h1 : DG X cc e s1 g) (h2 : DGs X cc es s2 gs)
    (hs : (assignEach (e :: es) X.env).map (·.2) = assign e X.env :: (assignEach es X.env).map (·.2) := by rfl) : DGs X cc (e :: es) (s1 ++ s2) (gsCons g gs) := PGs.imp (pgs_cons h1 h2 hs) fun v σ H Q ⟨B, ρ, G, d, ρ', R0, p, e, k⟩ => by
  cases p with
  | nil => cases e
  | @cons v d vs ds p r =>
    cases hg : g d ρ with
    | none => simp only [gsCons, hg, Option.bind_none] at e; cases e
    | some ρ1 =>
      simp only [gsCons, hg, Option.bind_some] at e
      exact ⟨_, _, rfl, B, ρ, G, d, ρ1, R0, p, hg, fun σ' R1 o1 => ⟨B, ρ1, G, ds, ρ', R1, r, e, fun σ'' R2 o2 => k σ'' R2 ⟨o2.1.trans o1.1, fun j hj => (o2.2 j fun z => hj (List.mem_append_right _ z)).trans (o1.2 j fun z => hj (List.mem_append_left _ z))⟩⟩⟩
def gSeq (n : Nat) (gs : List D → ENV → Option ENV) : D → ENV → Option ENV := fun d ρ => match d with
  | .tup ds => if ds.length = n then gs ds ρ else none
  | .lst ds => if ds.length = n then gs ds ρ else none
  | _ => none
def tSq (K : PySem.W.Frag) (n : Nat) (t : TGs) : TG := fun v σ H Q => ∃ a xs, v = .ref a ∧ (SqT K H a xs ∨ SqL K H a xs) ∧ xs.length = n ∧ t xs σ H Q
theorem pg_sq {es : List Expr} {k : Nat} {t : TGs} {n : Nat} (hc : X.calm = true) (h : PGs X es t)
    (hn : (assignEach es X.env).length = n := by rfl) (hst : (assignEach es X.env).findIdx? (·.1) = none := by rfl) : PG X (.Tuple es k pos) (tSq X.K n t) := by
  refine ⟨fun pins s σ H v u Q I r ⟨a, xs, e1, hq, hl, hw⟩ => ?_⟩
  rcases hq with hq | hq
  · exact (pg_tup hc h hn hst).run pins s σ H v u Q I r ⟨a, xs, e1, hq, hl, hw⟩
  · exact (pg_lst hc h hn hst).run pins s σ H v u Q I r ⟨a, xs, e1, hq, hl, hw⟩
theorem dg_seq {es : List Expr} {k n : Nat} {sl : List Nat} {gs : List D → ENV → Option ENV} (hc : X.calm = true) (h : DGs X cc es sl gs) (hn : (assignEach es X.env).length = n := by rfl) (hst : (assignEach es X.env).findIdx? (·.1) = none := by rfl) : DG X cc (.Tuple es k pos) sl (gSeq n gs) := by
  refine PG.imp (pg_sq hc h hn hst) fun v σ H Q ⟨B, ρ, G, d, ρ', R0, p, e, k⟩ => ?_
  cases p with
  | tup h r =>
    dsimp only [gSeq] at e
    split at e
    · rename_i hl; exact ⟨_, _, rfl, .inl (same_seqT R0.gk h), by rw [r.length]; exact hl, B, ρ, G, _, ρ', R0, r, e, k⟩
    · cases e
  | lst h r =>
    dsimp only [gSeq] at e
    split at e
    · rename_i hl; exact ⟨_, _, rfl, .inr (.inl (.inl (R0.gk _ _ h))), by rw [r.length]; exact hl, B, ρ, G, _, ρ', R0, r, e, k⟩
    · cases e
  | _ => cases e
end

structure Wk (K : PySem.W.Frag) (C : Nat → Addr) (G : Hp) (J : It) (ds : List D) : Prop where
  ex : ∃ (g : Hp → Prop) (Y : Nat → Hp → V → Hp → Prop), Walk J ds.length g Y ∧ (∀ G2 H2, Same G G2 → Same G2 H2 → g H2) ∧
    ∀ (i : Nat) G2 H2 x H3, i < ds.length → Same G G2 → Same G2 H2 → Y i H2 x H3 → ∃ d G3, ds[i]? = some d ∧ Grow G2 H2 G3 H3 ∧ Rp K C G3 x d
def rI (K : PySem.W.Frag) (cc : Cc) (den : ENV → R (List D)) : TI := fun σ H Q => ∃ B ρ G, Rl K cc B ρ σ G H ∧ Post K cc (fun G' J ds => Wk K cc.C G' J ds) B G σ Q (den ρ)
def DI (X : Cx) (cc : Cc) (tg iter : Expr) (den : ENV → R (List D)) : Prop := PI X tg iter (rI X.K cc den)
theorem PI.imp {X : Cx} {tg e : Expr} {t t' : TI} (h : PI X tg e t) (k : ∀ σ H Q, t' σ H Q → t σ H Q) : PI X tg e t' := ⟨fun pins s σ H Q I q => h.run pins s σ H Q I (k _ _ _ q)⟩
def signs (x : Str) : List D := x.cps.toList.map fun c => .str ⟨#[c]⟩
def items : D → Option (List D)
  | .str x => some (signs x)
  | .lst ds => some ds
  | .scr ds => some ds
  | .tup ds => some ds
  | _ => none
def dItems (da : ENV → R D) : ENV → R (List D) := fun ρ => (da ρ).bind fun x ρ1 => R.of (items x) ρ1
def iSq (K : PySem.W.Frag) (tl : TE) : TI := fun σ H R => tl σ H fun x H1 => (∃ a, x = .ref a ∧ (((∃ xs, SqL K H1 a xs) ∧ R (Itl K a) H1) ∨ ((∃ xs, SqT K H1 a xs) ∧ R (Itt K a) H1))) ∨ ∃ z, x = .str z ∧ R (Its z) H1
section
variable {X : Cx} {cc : Cc} {tg a b e : Expr} {da db : ENV → R D} {pos : Pos}
theorem pi_sq {l : Expr} {tl : TE} (hl : PE X l tl) : PI X tg l (iSq X.K tl) := by
  refine ⟨fun pins s σ H R I h => ?_⟩
  refine thn (hl.run pins s σ H _ I h) fun v s1 ⟨x, H1, I1, r1, q1⟩ => ?_
  rcases q1 with ⟨a, e, q⟩ | ⟨z, e, q⟩
  rotate_left
  · subst e
    obtain ⟨t, rfl⟩ := r1
    by_cases ha : z.cps.all (· < 128) = true
    · exact wpAny_pyIter_ascii ha (pi_one (tk := s1.toks) I1 _ (turn_str _ z t "str_ascii_iterator" (.inl rfl)) ⟨_, Heap.get?_push_size _ rfl, rfl, rfl⟩ q)
    · exact wpAny_pyIter_wide (by simpa using ha) (pi_one (tk := s1.toks) I1 _ (turn_str _ z t "str_iterator" (.inr rfl)) ⟨_, Heap.get?_push_size _ rfl, rfl, rfl⟩ q)
  subst e
  cases r1
  rcases q with ⟨⟨xs, hq⟩, q⟩ | ⟨⟨xs, hq⟩, q⟩
  · obtain ⟨its, rv, p, hz⟩ := I1.list hq
    refine wpAny_pyIter_list p.isList ?_
    refine ⟨s1.heap.objs.size, [s1.heap.objs.size], _, _, H1, rfl, I1.kept (t' := s1.toks) fun b o e => Heap.get?_push_of_some _ e, turn_list a _, ⟨_, Heap.get?_push_size _ rfl, rfl, rfl⟩, fun b hb => ?_, q⟩
    have e : b = s1.heap.objs.size := by simpa using hb
    subst e
    exact I1.fpOk (Nat.le_refl _) (I1.hok.fresh (Nat.le_refl _))
  · obtain ⟨its, rv, p, hz⟩ := I1.tuple hq
    refine wpAny_pyIter_tuple (show s1.heap.IsTuple a its.toArray from p) ?_
    refine ⟨s1.heap.objs.size, [s1.heap.objs.size], _, _, H1, rfl, I1.kept (t' := s1.toks) fun b o e => Heap.get?_push_of_some _ e, turn_tuple a _, ⟨_, Heap.get?_push_size _ rfl, rfl, rfl⟩, fun b hb => ?_, q⟩
    have e : b = s1.heap.objs.size := by simpa using hb
    subst e
    exact I1.fpOk (Nat.le_refl _) (I1.hok.fresh (Nat.le_refl _))
theorem wk_list {K : PySem.W.Frag} {C : Nat → Addr} {G : Hp} {a : Addr} {xs : List V} {ds : List D} (h : SqL K G a xs) (r : RpL K C G xs ds) : Wk K C G (Itl K a) ds := by
  refine ⟨_, _, by rw [← r.length]; exact walk_list (xs := xs), fun G2 H2 s s2 => Same.seq s2 (Same.seq s h), fun i G2 H2 x H3 hi s s2 y => ?_⟩
  obtain ⟨rfl, y⟩ := y
  obtain ⟨d, hd, p⟩ := r.getV y
  exact ⟨d, G2, hd, Grow.refl s2, p.mono s⟩
theorem wk_tup {K : PySem.W.Frag} {C : Nat → Addr} {G : Hp} {a : Addr} {xs : List V} {ds : List D} (h : SqT K G a xs) (r : RpL K C G xs ds) : Wk K C G (Itt K a) ds := by
  refine ⟨_, _, by rw [← r.length]; exact walk_tup (xs := xs), fun G2 H2 s s2 => same_seqT s2 (same_seqT s h), fun i G2 H2 x H3 hi s s2 y => ?_⟩
  obtain ⟨rfl, y⟩ := y
  obtain ⟨d, hd, p⟩ := r.getV y
  exact ⟨d, G2, hd, Grow.refl s2, p.mono s⟩
theorem wk_str {K : PySem.W.Frag} {C : Nat → Addr} {G : Hp} {z : Str} : Wk K C G (Its z) (signs z) := by
  have hl : (signs z).length = z.cps.size := by simp [signs]
  refine ⟨_, _, by rw [hl]; exact walk_str, fun _ _ _ _ => trivial, fun i G2 H2 x H3 hi s s2 y => ?_⟩
  obtain ⟨rfl, c, hc, rfl⟩ := y
  exact ⟨.str ⟨#[c]⟩, G2, by simp [signs, hc], Grow.refl s2, .str _ (by show 1 ≤ sizeLine; rw [sizeLine_eq]; omega)⟩
theorem di_seq (ha : DE X cc a da) : DI X cc tg a (dItems da) := by
  refine PI.imp (pi_sq ha) fun σ H Q ⟨B, ρ, G, R0, h⟩ => ⟨B, ρ, G, R0, Post.bind (V2 := fun G' J ds => Wk X.K cc.C G' J ds) h fun d1 ρ1 G1 H1 x e1 R1 p1 h1 => ?_⟩
  cases p1 with
  | lst h r => exact .inl ⟨_, rfl, .inl ⟨⟨_, .inl (.inl (R1.gk _ _ h))⟩, h1 _ G1 H1 (Ext.refl _ _) R1 (wk_list (.inl (.inl h)) r)⟩⟩
  | scr h r => exact .inl ⟨_, rfl, .inl ⟨⟨_, Same.seq R1.gk h⟩, h1 _ G1 H1 (Ext.refl _ _) R1 (wk_list h r)⟩⟩
  | tup h r => exact .inl ⟨_, rfl, .inr ⟨⟨_, same_seqT R1.gk h⟩, h1 _ G1 H1 (Ext.refl _ _) R1 (wk_tup h r)⟩⟩
  | str z hz => exact .inr ⟨z, rfl, h1 _ G1 H1 (Ext.refl _ _) R1 wk_str⟩
  | _ => exact h1.elim
def rng (lo hi : Int) : List D := (List.range (hi - lo).toNat).map fun i => .int (lo + (i : Nat))
def rngOk (i : Int) : Bool := decide (-(2 ^ 62) ≤ i) && decide (i < 2 ^ 62)
def dRng1 (da : ENV → R D) : ENV → R (List D) := fun ρ => (da ρ).bind fun x ρ1 => match x with
  | .int j => if rngOk j = true then .ok (rng 0 j) ρ1 else .bot
  | _ => .bot
def dRng2 (da db : ENV → R D) : ENV → R (List D) := fun ρ => (da ρ).bind fun x ρ1 => (db ρ1).bind fun y ρ2 => match x, y with
  | .int i, .int j => if rngOk i = true ∧ rngOk j = true then .ok (rng i j) ρ2 else .bot
  | _, _ => .bot
theorem wk_range {K : PySem.W.Frag} {C : Nat → Addr} {G : Hp} (lo hi : Int) : Wk K C G (Itr lo (hi - lo).toNat) (rng lo hi) := by
  have hl : (rng lo hi).length = (hi - lo).toNat := by unfold rng; rw [List.length_map, List.length_range]
  refine ⟨_, _, by rw [hl]; exact walk_range, fun _ _ _ _ => trivial, fun i G2 H2 x H3 hi' s s2 y => ?_⟩
  obtain ⟨rfl, rfl⟩ := y
  rw [hl] at hi'
  exact ⟨.int (lo + (i : Nat)), G2, by unfold rng; rw [List.getElem?_map, List.getElem?_range hi']; rfl, Grow.refl s2, .int _⟩
theorem rngOk_of {i : Int} (h : rngOk i = true) : -(2 ^ 62) ≤ i ∧ i < 2 ^ 62 := by
  unfold rngOk at h
  simp only [Bool.and_eq_true, decide_eq_true_eq] at h
  exact h
theorem di_rng1 {p : Pos} (hg : Gl X "range") (hm : X.mg "range" = none) (ha : DE X cc a da) (hs : starEach [a] X.env = [(false, eval a X.env)] := by rfl) (hs2 : starEach [a] X.env = (false, eval a X.env) :: starEach [] X.env := by rfl) : DI X cc tg (.Call (.Name "range" p) [a] [] pos) (dRng1 da) := by
  refine PI.imp (pi_range1 hg hm (pa_cons ha pa_nil hs2) hs) fun σ H Q ⟨B, ρ, G, R0, h⟩ => ⟨B, ρ, G, R0, Post.bind (V2 := fun G' J ds => Wk X.K cc.C G' J ds) h fun d1 ρ1 G1 H1 x e1 R1 p1 h1 => ?_⟩
  cases p1 with
  | int j =>
    obtain ⟨hz, h1⟩ := ite_post h1
    obtain ⟨z1, z2⟩ := rngOk_of hz
    have w := wk_range (K := X.K) (C := cc.C) (G := G1) 0 j
    rw [Int.sub_zero] at w
    exact ⟨j, rfl, z1, z2, h1 _ G1 H1 (Ext.refl _ _) R1 w⟩
  | _ => exact h1.elim
theorem di_rng2 {p : Pos} (hg : Gl X "range") (hm : X.mg "range" = none) (ha : DE X cc a da) (hb : DE X cc b db) (hs : starEach [a, b] X.env = [(false, eval a X.env), (false, eval b X.env)] := by rfl) (hs2 : starEach [b] X.env = [(false, eval b X.env)] := by rfl)
    (hs3 : starEach [a, b] X.env = (false, eval a X.env) :: starEach [b] X.env := by rfl) (hs4 : starEach [b] X.env = (false, eval b X.env) :: starEach [] X.env := by rfl) : DI X cc tg (.Call (.Name "range" p) [a, b] [] pos) (dRng2 da db) := by
  refine PI.imp (pi_range2 hg hm (pa_cons ha (pa_cons hb pa_nil hs4) hs3) hs hs2) fun σ H Q ⟨B, ρ, G, R0, h⟩ => ⟨B, ρ, G, R0, Post.bind (V2 := fun G' J ds => Wk X.K cc.C G' J ds) h fun d1 ρ1 G1 H1 x e1 R1 p1 h1 => ⟨B, ρ1, G1, R1, Post.bind (V2 := fun G' J ds => Wk X.K cc.C G' J ds) h1 fun d2 ρ2 G2 H2 y e2 R2 p2 h2 => ?_⟩⟩
  cases p1 with
  | int i =>
    cases p2 with
    | int j =>
      obtain ⟨⟨hz, hz'⟩, h2⟩ := ite_post h2
      obtain ⟨z1, z2⟩ := rngOk_of hz
      obtain ⟨z3, z4⟩ := rngOk_of hz'
      exact ⟨i, j, rfl, ⟨z1, z2, z3, z4⟩, h2 _ G2 H2 (Ext.refl _ _) R2 (wk_range i j)⟩
    | _ => exact h2.elim
  | _ => cases d2 <;> exact h2.elim
end
end Rf
set_option Elab.async false
set_option linter.all false
set_option maxRecDepth 100000
namespace Rf
open PySem PySem.Spec L2
def wipeE (ρ : ENV) : List Nat → ENV
  | [] => ρ
  | v :: vs => (wipeE ρ vs).set v none
def back (ρ : ENV) : List Nat → ENV → ENV
  | [], ρ' => ρ'
  | v :: vs, ρ' => (back ρ vs ρ').set v (match ρ[v]? with | some (some (.sh d)) => some (.sh d) | _ => none)
def noOwn (ρ : ENV) (vs : List Nat) : Bool := vs.all fun v => match ρ[v]? with | some (some (.ow _)) => false | _ => true
def compL (g : D → ENV → Option ENV) (tt : ENV → R Bool) (te : ENV → R D) (vs : List Nat) : List D → List D → ENV → R (List D)
  | [], acc, ρ => .ok acc ρ
  | d :: ds, acc, ρ => match g d (wipeE ρ vs) with
    | none => .bot
    | some ρ1 => match tt ρ1 with
      | .ok true ρ2 => match te ρ2 with
        | .ok y ρ3 => if acc.length < sizeLine then compL g tt te vs ds (acc ++ [y]) ρ3 else .bot
        | _ => .bot
      | .ok false ρ2 => compL g tt te vs ds acc ρ2
      | _ => .bot
def fLc (di : ENV → R (List D)) (g : D → ENV → Option ENV) (tt : ENV → R Bool) (te : ENV → R D) (vs : List Nat) : ENV → R M := fun ρ => (di ρ).bind fun ds ρ1 => match noOwn ρ1 vs, compL g tt te vs ds [] ρ1 with
  | true, .ok acc ρ2 => .ok (.lst acc) (back ρ1 vs ρ2)
  | _, _ => .bot
theorem wipeE_length (ρ : ENV) : ∀ vs : List Nat, (wipeE ρ vs).length = ρ.length
  | [] => rfl
  | v :: vs => by unfold wipeE; rw [List.length_set, wipeE_length ρ vs]
theorem back_length (ρ ρ' : ENV) : ∀ vs : List Nat, (back ρ vs ρ').length = ρ'.length
  | [] => rfl
  | v :: vs => by unfold back; rw [List.length_set, back_length ρ ρ' vs]
theorem wipeE_some {ρ : ENV} {i : Nat} {x : DV} : ∀ {vs : List Nat}, (wipeE ρ vs)[i]? = some (some x) → ρ[i]? = some (some x) ∧ i ∉ vs
  | [], h => ⟨h, by simp⟩
  | v :: vs, h => by
    unfold wipeE at h
    by_cases hi : v = i
    · subst hi
      by_cases hv : v < (wipeE ρ vs).length
      · rw [List.getElem?_set_self hv] at h; cases h
      · rw [List.getElem?_eq_none (by simpa using hv)] at h; cases h
    · rw [List.getElem?_set_ne hi] at h
      obtain ⟨h1, h2⟩ := wipeE_some h
      exact ⟨h1, by simp only [List.mem_cons, not_or]; exact ⟨fun e => hi e.symm, h2⟩⟩
theorem wipe_keep {σ : St} {i : Nat} : ∀ {vs : List Nat}, i ∉ vs → (wipe σ vs)[i]? = σ[i]?
  | [], _ => rfl
  | v :: vs, h => by
    unfold wipe
    rw [List.getElem?_set_ne (fun e => h (by rw [e]; exact List.mem_cons_self)), wipe_keep fun z => h (List.mem_cons_of_mem _ z)]
theorem back_some {ρ ρ' : ENV} {i : Nat} {x : DV} : ∀ {vs : List Nat}, (back ρ vs ρ')[i]? = some (some x) → (ρ'[i]? = some (some x) ∧ i ∉ vs) ∨ ((∃ d, x = .sh d) ∧ ρ[i]? = some (some x))
  | [], h => .inl ⟨h, by simp⟩
  | v :: vs, h => by
    unfold back at h
    by_cases hi : v = i
    · subst hi
      by_cases hv : v < (back ρ vs ρ').length
      · rw [List.getElem?_set_self hv] at h
        have h := Option.some.inj h
        split at h
        · rename_i d e; cases h; exact .inr ⟨⟨d, rfl⟩, e⟩
        · cases h
      · rw [List.getElem?_eq_none (by simpa using hv)] at h; cases h
    · rw [List.getElem?_set_ne hi] at h
      rcases back_some h with ⟨h1, h2⟩ | h
      · exact .inl ⟨h1, by simp only [List.mem_cons, not_or]; exact ⟨fun e => hi e.symm, h2⟩⟩
      · exact .inr h
def Cc.inner (cc : Cc) : Cc := { cc with W := fun _ _ _ _ => False, pr := [] }
theorem Rl.wiped {K : PySem.W.Frag} {cc : Cc} {B : Hp} {ρ : ENV} {σ : St} {G H : Hp} (r : Rl K cc B ρ σ G H) (vs : List Nat) : Rl K cc.inner B (wipeE ρ vs) (wipe σ vs) G H := by
  refine ⟨r.bk, r.gk, by rw [wipe_length, wipeE_length]; exact r.ln, fun i d e => ?_, fun i m e => ?_, fun i j m m' p e1 e2 e3 e4 => ?_, fun i h => absurd h (by simp [Cc.inner]), r.kg⟩
  · obtain ⟨h1, h2⟩ := wipeE_some e
    rw [wipe_keep h2]
    exact r.sh i d h1
  · obtain ⟨h1, h2⟩ := wipeE_some e
    rw [wipe_keep h2]
    exact r.ow i m h1
  · obtain ⟨h1, h2⟩ := wipeE_some e1
    obtain ⟨h3, h4⟩ := wipeE_some e2
    rw [wipe_keep h2] at e3
    rw [wipe_keep h4] at e4
    exact r.df i j m m' p h1 h3 e3 e4
theorem Rl.hold {K : PySem.W.Frag} {cc : Cc} {B : Hp} {ρ : ENV} {σ : St} {G H : Hp} {D : Addr} {o : HO} (r : Rl K cc B ρ σ G H) (h : H D = some o) (hn : ∀ (i : Nat) (m : M), ρ[i]? = some (some (.ow m)) → σ[i]? ≠ some (some (.ref D))) : Rl K cc (upd B D o) ρ σ G H := by
  refine ⟨fun b u e => ?_, r.gk, r.ln, r.sh, fun i m e => ?_, r.df, r.pa, r.kg⟩
  · by_cases q : b = D
    · subst q; rw [upd_same] at e; cases e; exact h
    · rw [upd_ne q] at e; exact r.bk b u e
  · obtain ⟨p, h1, o'⟩ := r.ow i m e
    have ne : p ≠ D := fun z => by subst z; exact hn i m e h1
    exact ⟨p, h1, by rw [upd_ne ne]; exact o'.nb, o'.ng, o'.at_⟩
theorem Ext.unhold {B G G' : Hp} {D : Addr} {o : HO} (e : Ext (upd B D o) G G') : Ext B G G' := ⟨e.gg, fun a u h => by
  rcases e.nb a u h with h | h
  · exact .inl h
  · by_cases q : a = D
    · subst q; rw [upd_same] at h; cases h
    · rw [upd_ne q] at h; exact .inr h⟩
theorem Rl.rewrite {K : PySem.W.Frag} {cc : Cc} {B : Hp} {ρ : ENV} {σ : St} {G H : Hp} {D : Addr} {o o' : HO} (r : Rl K cc (upd B D o) ρ σ G H) (hg : G D = none) : Rl K cc (upd B D o') ρ σ G (upd H D o') := by
  refine ⟨fun b u e => ?_, fun b u e => ?_, r.ln, r.sh, fun i m e => ?_, r.df, r.pa, r.kg⟩
  · by_cases q : b = D
    · subst q; rw [upd_same] at e ⊢; exact e
    · rw [upd_ne q] at e ⊢; exact r.bk b u (by rw [upd_ne q]; exact e)
  · have q : b ≠ D := fun z => by subst z; rw [hg] at e; cases e
    rw [upd_ne q]; exact r.gk b u e
  · obtain ⟨p, h1, o⟩ := r.ow i m e
    have q : p ≠ D := fun z => by
      subst z
      have := o.nb
      rw [upd_same] at this; cases this
    obtain ⟨x, hx, hm⟩ := o.at_
    exact ⟨p, h1, by have := o.nb; rw [upd_ne q] at this ⊢; exact this, o.ng, x, by rw [upd_ne q]; exact hx, hm⟩
theorem Rl.unhold {K : PySem.W.Frag} {cc : Cc} {B : Hp} {ρ : ENV} {σ : St} {G H : Hp} {D : Addr} {o : HO} (r : Rl K cc (upd B D o) ρ σ G H) (hb : B D = none) : Rl K cc B ρ σ G H ∧ ∀ (i : Nat) (m : M), ρ[i]? = some (some (.ow m)) → σ[i]? ≠ some (some (.ref D)) := by
  have ne : ∀ (i : Nat) (m : M), ρ[i]? = some (some (.ow m)) → ∀ p, σ[i]? = some (some (.ref p)) → p ≠ D ∧ Own K cc.C (upd B D o) G H p m := fun i m e p hp => by
    obtain ⟨p', h1, o'⟩ := r.ow i m e
    rw [hp] at h1; cases h1
    refine ⟨fun z => ?_, o'⟩
    subst z
    have := o'.nb
    rw [upd_same] at this; cases this
  refine ⟨⟨fun b u e => r.bk b u ?_, r.gk, r.ln, r.sh, fun i m e => ?_, r.df, r.pa, r.kg⟩, fun i m e z => (ne i m e D z).1 rfl⟩
  · have q : b ≠ D := fun z => by subst z; rw [hb] at e; cases e
    rw [upd_ne q]; exact e
  · obtain ⟨p, h1, _⟩ := r.ow i m e
    obtain ⟨h2, o'⟩ := ne i m e p h1
    exact ⟨p, h1, by have := o'.nb; rw [upd_ne h2] at this; exact this, o'.ng, o'.at_⟩
section
variable {X : Cx} {cc : Cc}
def DTs (X : Cx) (cc : Cc) (ifs : List Expr) (den : ENV → R Bool) : Prop := PTs X ifs (rT X.K cc den)
theorem PTs.imp {ifs : List Expr} {t t' : TT} (h : PTs X ifs t) (k : ∀ σ H Q, t' σ H Q → t σ H Q) : PTs X ifs t' := ⟨fun pins s σ H Q I q => h.run pins s σ H Q I (k _ _ _ q)⟩
def dYes : ENV → R Bool := fun ρ => .ok true ρ
theorem dts_nil : DTs X cc [] dYes := PTs.imp pts_nil fun σ H Q ⟨B, ρ, G, R0, h⟩ => h true G H (Ext.refl _ _) R0 rfl
theorem dts_one {c : Expr} {t : ENV → R Bool} (h : DT X cc c t) : DTs X cc [c] t := pts_one h
theorem wipeE_keep {ρ : ENV} {i : Nat} : ∀ {vs : List Nat}, i ∉ vs → (wipeE ρ vs)[i]? = ρ[i]?
  | [], _ => rfl
  | v :: vs, h => by
    unfold wipeE
    rw [List.getElem?_set_ne (fun e => h (by rw [e]; exact List.mem_cons_self)), wipeE_keep fun z => h (List.mem_cons_of_mem _ z)]
theorem wipe_none {σ : St} {i : Nat} : ∀ {vs : List Nat}, i ∈ vs → i < σ.length → (wipe σ vs)[i]? = some none
  | [], h, _ => by cases h
  | v :: vs, h, hl => by
    unfold wipe
    by_cases e : v = i
    · subst e; rw [List.getElem?_set_self (by rw [wipe_length]; exact hl)]
    · rw [List.getElem?_set_ne e]
      rcases List.mem_cons.mp h with z | z
      · exact absurd z.symm e
      · exact wipe_none z hl
theorem wipe_oth {σ σ2 : St} {sl vs : List Nat} (o : Oth sl (wipe σ vs) σ2) (hs : ∀ i ∈ sl, i ∈ vs) : wipe σ2 vs = wipe σ vs := by
  have hl : σ2.length = σ.length := by rw [o.1, wipe_length]
  refine List.ext_getElem? fun i => ?_
  by_cases h : i ∈ vs
  · by_cases hi : i < σ.length
    · rw [wipe_none h (by rw [hl]; exact hi), wipe_none h hi]
    · rw [List.getElem?_eq_none (by rw [wipe_length]; omega), List.getElem?_eq_none (by rw [wipe_length]; omega)]
  · rw [wipe_keep h, o.2 i fun z => h (hs i z)]
theorem Rl.backed {K : PySem.W.Frag} {B : Hp} {ρ1 ρi : ENV} {σ : St} {G1 H1 Gi H : Hp} {vs : List Nat} (R1 : Rl K cc B ρ1 σ G1 H1) (R : Rl K cc.inner B (wipeE ρi vs) (wipe σ vs) Gi H) (s : Same G1 Gi) : Rl K cc B (back ρ1 vs ρi) σ Gi H := by
  have one : ∀ (i : Nat) (m : M), (back ρ1 vs ρi)[i]? = some (some (.ow m)) → (wipeE ρi vs)[i]? = some (some (.ow m)) ∧ (wipe σ vs)[i]? = σ[i]? := fun i m e => by
    rcases back_some e with ⟨h1, h2⟩ | ⟨⟨d, h⟩, _⟩
    · exact ⟨by rw [wipeE_keep h2]; exact h1, wipe_keep h2⟩
    · cases h
  refine ⟨R.bk, R.gk, ?_, fun i d e => ?_, fun i m e => ?_, fun i j m m' p e1 e2 e3 e4 => ?_, R1.pa, R.kg⟩
  · have h := R.ln
    rw [wipe_length, wipeE_length] at h
    rw [back_length]; exact h
  · rcases back_some e with ⟨h1, h2⟩ | ⟨_, h⟩
    · obtain ⟨v, q1, q2⟩ := R.sh i d (by rw [wipeE_keep h2]; exact h1)
      exact ⟨v, by rw [wipe_keep h2] at q1; exact q1, q2⟩
    · obtain ⟨v, q1, q2⟩ := R1.sh i d h
      exact ⟨v, q1, q2.mono s⟩
  · obtain ⟨h1, h2⟩ := one i m e
    obtain ⟨p, q1, q2⟩ := R.ow i m h1
    exact ⟨p, by rw [h2] at q1; exact q1, q2⟩
  · obtain ⟨h1, h2⟩ := one i m e1
    obtain ⟨h3, h4⟩ := one j m' e2
    exact R.df i j m m' p h1 h3 (by rw [h2]; exact e3) (by rw [h4]; exact e4)
theorem lc_ok {di : ENV → R (List D)} {g : D → ENV → Option ENV} {tt : ENV → R Bool} {te : ENV → R D} {vs sl : List Nat} (hsl : ∀ i ∈ sl, i ∈ vs) :
    ∀ σ H Q, rF X.K cc (fLc di g tt te vs) σ H Q → tLc (rI X.K cc di) (rG X.K cc.inner sl g) (rT X.K cc.inner tt) (rE X.K cc.inner te) vs σ H Q := by
  intro σ H Q ⟨B, ρ, G, R0, h⟩
  refine ⟨B, ρ, G, R0, h.bind fun ds ρ1 G1 H1 J e1 R1 w h1 => ?_⟩
  intro Da hD
  obtain ⟨gd, Y, wlk, hgd, hY⟩ := w.ex
  split at h1
  rotate_left
  · exact h1.elim
  rename_i acc0 ρ2 hno hcomp
  have bD : B Da = none := R1.bk.free hD
  have gD : G1 Da = none := R1.gk.free hD
  refine lc_it wlk (fun i H => ∃ ρi Gi acc av, Ext B G1 Gi ∧ Gi Da = none ∧ RpL X.K cc.C Gi av acc ∧ Rl X.K cc.inner (upd B Da (.lst av)) (wipeE ρi vs) (wipe σ vs) Gi H ∧
    compL g tt te vs (ds.drop i) acc ρi = .ok acc0 ρ2) ?_ ?_ ?_ ?_
  · have R1' := (R1.grow (Grow.newO (o := .lst []) R1.gk hD)).hold upd_same (R1.notAt hD)
    exact ⟨ρ1, G1, [], [], Ext.refl _ _, gD, .nil, R1'.wiped vs, hcomp⟩
  · rintro i H _ ⟨ρi, Gi, acc, av, ex, gn, r, R, hc⟩
    exact hgd Gi H ex.gg R.gk
  · rintro i x H H' hi ⟨ρi, Gi, acc, av, ex, gn, r, R, hc⟩ y
    obtain ⟨d, G3, hd, g3, p3⟩ := hY i Gi H x H' hi ex.gg R.gk y
    have hdrop : ds.drop i = d :: ds.drop (i + 1) := by
      obtain ⟨h1, h2⟩ := List.getElem?_eq_some_iff.mp hd
      rw [← h2]; exact List.drop_eq_getElem_cons h1
    rw [hdrop] at hc
    unfold compL at hc
    cases hgd' : g d (wipeE ρi vs) with
    | none => rw [hgd'] at hc; cases hc
    | some ρ1' =>
      rw [hgd'] at hc
      dsimp only at hc
      have R' := R.grow g3
      have x3 : Ext (upd B Da (.lst av)) Gi G3 := g3.ext R.bk
      refine ⟨_, _, G3, d, ρ1', R', p3, hgd', fun σ2 R2 o2 => ?_⟩
      have hwp : wipe σ2 vs = wipe σ vs := wipe_oth o2 hsl
      refine ⟨hwp, _, ρ1', G3, R2, ?_⟩
      have fin : ∀ {G5 : Hp}, Ext (upd B Da (.lst av)) Gi G5 → G5 Da = none := fun {G5} e => by
        cases q : G5 Da with
        | none => rfl
        | some u =>
          rcases e.nb Da u q with h | h
          · rw [gn] at h; cases h
          · rw [upd_same] at h; cases h
      cases ht : tt ρ1' with
      | exc _ _ => rw [ht] at hc; cases hc
      | bot => rw [ht] at hc; cases hc
      | ok b ρ2' =>
        rw [ht] at hc
        intro b' G4 H4 e4 R4 eb
        subst eb
        cases b' with
        | false =>
          dsimp only at hc
          refine iteF ⟨ρ2', G4, acc, av, ex.trans (x3.trans e4).unhold, fin (x3.trans e4), r.mono (x3.trans e4).gg, ?_, hc⟩
          have := R4.wiped vs
          rw [hwp] at this
          exact this
        | true =>
          dsimp only at hc
          refine iteT ⟨_, ρ2', G4, R4, ?_⟩
          cases hte : te ρ2' with
          | exc _ _ => rw [hte] at hc; cases hc
          | bot => rw [hte] at hc; cases hc
          | ok yd ρ3 =>
            rw [hte] at hc
            dsimp only at hc
            split at hc
            rotate_left
            · cases hc
            rename_i hz
            intro yv G5 H5 e5 R5 p5
            have x5 := (x3.trans e4).trans e5
            refine ⟨av, R5.bk _ _ upd_same, by rw [r.length]; exact hz, ρ3, G5, acc ++ [yd], av ++ [yv], ex.trans x5.unhold, fin x5, (r.mono x5.gg).append (.cons p5 .nil), ?_, hc⟩
            have := (R5.rewrite (o' := .lst (av ++ [yv])) (fin x5)).wiped vs
            rw [hwp] at this
            exact this
  · rintro H ⟨ρi, Gi, acc, av, ex, gn, r, R, hc⟩
    rw [List.drop_length] at hc
    unfold compL at hc
    cases hc
    obtain ⟨R', hn⟩ := R.unhold bD
    have RB := Rl.backed R1 R' ex.gg
    refine h1 Da Gi H ex RB ⟨bD, gn, _, R.bk _ _ upd_same, av, rfl, r⟩ fun i m e z => ?_
    rcases back_some e with ⟨q1, q2⟩ | ⟨⟨d, q⟩, _⟩
    · exact hn i m (by rw [wipeE_keep q2]; exact q1) (by rw [wipe_keep q2]; exact z)
    · cases q
theorem df_lc {elt tg iter : Expr} {ifs : List Expr} {scope : Scope} {own : List (Str × Nat)} {pos : Pos} {di : ENV → R (List D)} {g : D → ENV → Option ENV} {tt : ENV → R Bool} {te : ENV → R D} {sl : List Nat} (hc : X.calm = true) (hN : X.N.Nodup) (hi : DI X cc tg iter di)
    (ok : BlkOk X.N X.env.scope scope own) (hsl : ∀ i ∈ sl, i ∈ own.map (·.2))
    (hg : ∀ (s : Shared) (H : Hp) (C : Addr) (cl : List (Str × Addr)) (fp : List Addr), DG (X.blk s H scope (compEnvC scope cl C X.env) fp) cc.inner tg sl g)
    (ht : ∀ (s : Shared) (H : Hp) (C : Addr) (cl : List (Str × Addr)) (fp : List Addr), DTs (X.blk s H scope (compEnvC scope cl C X.env) fp) cc.inner ifs tt)
    (he : ∀ (s : Shared) (H : Hp) (C : Addr) (cl : List (Str × Addr)) (fp : List Addr), DE (X.blk s H scope (compEnvC scope cl C X.env) fp) cc.inner elt te) (hs : ∀ x, foldedSetIterable iter X.env x = pure x := by intro _; rfl) :
    DF X cc (.ListComp elt [⟨tg, iter, ifs, 0⟩] scope pos) (fLc di g tt te (own.map (·.2))) :=
  PE.imp (pe_lc (g := rG X.K cc.inner sl g) (tt := rT X.K cc.inner tt) (te := rE X.K cc.inner te) hc hN hi ok hg ht he hs) (lc_ok hsl)
end
end Rf
set_option Elab.async false
set_option linter.all false
set_option maxRecDepth 100000
namespace Rf
open PySem PySem.Spec L2
inductive Fl where
  | nx | bk | ct | ret (v : DV)
def NotAt (ρ : ENV) (σ : St) (p : Addr) : Prop := ∀ (i : Nat) (m' : M), ρ[i]? = some (some (.ow m')) → σ[i]? ≠ some (some (.ref p))
def PostS (K : PySem.W.Frag) (cc : Cc) (B G : Hp) (Dn : Ends) (r : R Fl) : Prop := match r with
  | .ok .nx ρ' => ∀ σ' G' H', Ext B G G' → Rl K cc B ρ' σ' G' H' → Dn.nx σ' H'
  | .ok .bk ρ' => ∀ σ' G' H', Ext B G G' → Rl K cc B ρ' σ' G' H' → Dn.bk σ' H'
  | .ok .ct ρ' => ∀ σ' G' H', Ext B G G' → Rl K cc B ρ' σ' G' H' → Dn.ct σ' H'
  | .ok (.ret (.sh d)) ρ' => ∀ v σ' G' H', Ext B G G' → Rl K cc B ρ' σ' G' H' → Rp K cc.C G' v d → Dn.rt v H'
  | .ok (.ret (.ow m)) ρ' => ∀ p σ' G' H', Ext B G G' → Rl K cc B ρ' σ' G' H' → Own K cc.C B G' H' p m → NotAt ρ' σ' p → Dn.rt (.ref p) H'
  | .exc e ρ' => ∀ cl dd σ' G' H', Ext B G G' → Rl K cc B ρ' σ' G' H' → ERp K cc.C G' e cl dd → cc.W cl dd σ' H'
  | .bot => False
theorem PostS.ext {K : PySem.W.Frag} {cc : Cc} {B G G1 : Hp} {Dn : Ends} {r : R Fl} (h : PostS K cc B G Dn r) (x : Ext B G G1) : PostS K cc B G1 Dn r := by
  cases r with
  | ok f ρ =>
    cases f with
    | nx => exact fun σ' G' H' e => h σ' G' H' (x.trans e)
    | bk => exact fun σ' G' H' e => h σ' G' H' (x.trans e)
    | ct => exact fun σ' G' H' e => h σ' G' H' (x.trans e)
    | ret v =>
      cases v with
      | sh d => exact fun v σ' G' H' e => h v σ' G' H' (x.trans e)
      | ow m => exact fun v σ' G' H' e => h v σ' G' H' (x.trans e)
  | exc e ρ => exact fun cl dd σ' G' H' e => h cl dd σ' G' H' (x.trans e)
  | bot => exact h
theorem PostS.bind {α β : Type} {K : PySem.W.Frag} {cc : Cc} {V1 : Hp → β → α → Prop} {B G : Hp} {Dn : Ends} {σ : St} {Q' : β → Hp → Prop} {r : R α} {f : α → ENV → R Fl}
    (h : PostS K cc B G Dn (r.bind f))
    (k : ∀ d ρ1 G1 H1 x, Ext B G G1 → Rl K cc B ρ1 σ G1 H1 → V1 G1 x d → PostS K cc B G1 Dn (f d ρ1) → Q' x H1) : Post K cc V1 B G σ Q' r := by
  cases r with
  | ok d ρ1 =>
    intro v G1 H1 e1 R1 p1
    exact k d ρ1 G1 H1 v e1 R1 p1 (PostS.ext (show PostS K cc B G Dn (f d ρ1) from h) e1)
  | exc e ρ1 => exact fun cl dd G' H' e1 R' x => h cl dd σ G' H' e1 R' x
  | bot => exact h
theorem PostS.bindF {K : PySem.W.Frag} {cc : Cc} {B G : Hp} {Dn : Ends} {σ : St} {Q' : V → Hp → Prop} {r : R M} {f : M → ENV → R Fl}
    (h : PostS K cc B G Dn (r.bind f))
    (k : ∀ m ρ1 G1 H1 p, Ext B G G1 → Rl K cc B ρ1 σ G1 H1 → Own K cc.C B G1 H1 p m → NotAt ρ1 σ p → PostS K cc B G1 Dn (f m ρ1) → Q' (.ref p) H1) : PostF K cc B G σ Q' r := by
  cases r with
  | ok d ρ1 =>
    intro p G1 H1 e1 R1 o n
    exact k d ρ1 G1 H1 p e1 R1 o n (PostS.ext (show PostS K cc B G Dn (f d ρ1) from h) e1)
  | exc e ρ1 => exact fun cl dd G' H' e1 R' x => h cl dd σ G' H' e1 R' x
  | bot => exact h
def rS (K : PySem.W.Frag) (cc : Cc) (den : ENV → R Fl) : TS := fun Dn σ H => ∃ B ρ G, Rl K cc B ρ σ G H ∧ PostS K cc B G Dn (den ρ)
def DS (X : Cx) (cc : Cc) (st : Stmt) (den : ENV → R Fl) : Prop := PS X st (rS X.K cc den)
def DSs (X : Cx) (cc : Cc) (st : List Stmt) (den : ENV → R Fl) : Prop := PSs X st (rS X.K cc den)
theorem PostS.here {K : PySem.W.Frag} {cc : Cc} {B G H : Hp} {Dn : Ends} {ρ : ENV} {σ : St} (h : PostS K cc B G Dn (.ok .nx ρ)) (R0 : Rl K cc B ρ σ G H) : Dn.nx σ H := h σ G H (Ext.refl _ _) R0
def sNil : ENV → R Fl := fun ρ => .ok .nx ρ
def sSeq (a b : ENV → R Fl) : ENV → R Fl := fun ρ => match a ρ with
  | .ok .nx ρ1 => b ρ1
  | r => r
section
variable {X : Cx} {cc : Cc} {e o c tg : Expr} {da db : ENV → R D} {pos : Pos} {st : Stmt} {sts : List Stmt} {sa sb : ENV → R Fl} {fa : ENV → R M}
theorem dss_nil : DSs X cc [] sNil := PSs.imp pss_nil fun Dn σ H ⟨B, ρ, G, R0, h⟩ => h.here R0
theorem dss_one (h : DS X cc st sa) : DSs X cc [st] sa := pss_one h
theorem seq_core {K : PySem.W.Frag} {Dn : Ends} {B G : Hp} {ρ : ENV} (h : PostS K cc B G Dn (sSeq sa sb ρ)) : PostS K cc B G { Dn with nx := rS K cc sb Dn } (sa ρ) := by
  unfold sSeq at h
  cases hs : sa ρ with
  | ok f ρ1 =>
    rw [hs] at h
    cases f with
    | nx => exact fun σ' G' H' e R' => ⟨B, ρ1, G', R', PostS.ext h e⟩
    | bk => exact h
    | ct => exact h
    | ret v => cases v with
      | sh d => exact h
      | ow m => exact h
  | exc e ρ1 => rw [hs] at h; exact h
  | bot => rw [hs] at h; exact h
theorem dss_cons (h1 : DS X cc st sa) (h2 : DSs X cc sts sb) : DSs X cc (st :: sts) (sSeq sa sb) := PSs.imp (pss_cons h1 h2) fun Dn σ H ⟨B, ρ, G, R0, h⟩ => ⟨B, ρ, G, R0, seq_core h⟩
def sExpr (da : ENV → R D) : ENV → R Fl := fun ρ => (da ρ).bind fun _ ρ1 => .ok .nx ρ1
theorem ds_expr (ha : DE X cc e da) (hs : swapsWith e none pos.line X.env = pure false := by rfl) : DS X cc (.Expr e pos) (sExpr da) :=
  PS.imp (ps_expr ha hs) fun Dn σ H ⟨B, ρ, G, R0, h⟩ => ⟨B, ρ, G, R0, h.bind fun d ρ1 G1 H1 x e1 R1 p1 h1 => h1.here R1⟩
def sRet (da : ENV → R D) : ENV → R Fl := fun ρ => (da ρ).bind fun d ρ1 => .ok (.ret (.sh d)) ρ1
theorem ds_ret (ha : DE X cc e da) : DS X cc (.Return (some e) pos) (sRet da) :=
  PS.imp (ps_ret ha) fun Dn σ H ⟨B, ρ, G, R0, h⟩ => ⟨B, ρ, G, R0, h.bind fun d ρ1 G1 H1 x e1 R1 p1 h1 => h1 x σ G1 H1 (Ext.refl _ _) R1 p1⟩
def sRetF (fa : ENV → R M) : ENV → R Fl := fun ρ => (fa ρ).bind fun d ρ1 => .ok (.ret (.ow d)) ρ1
theorem ds_retF (ha : DF X cc e fa) : DS X cc (.Return (some e) pos) (sRetF fa) :=
  PS.imp (ps_ret ha) fun Dn σ H ⟨B, ρ, G, R0, h⟩ => ⟨B, ρ, G, R0, h.bindF fun d ρ1 G1 H1 p e1 R1 o n h1 => h1 p σ G1 H1 (Ext.refl _ _) R1 o n⟩
theorem Rl.drop {K : PySem.W.Frag} {B : Hp} {ρ : ENV} {σ : St} {G H : Hp} (r : Rl K cc B ρ σ G H) (i : Nat) : Rl K cc B (ρ.set i none) σ G H := by
  have old : ∀ {j : Nat} {x : DV}, (ρ.set i none)[j]? = some (some x) → ρ[j]? = some (some x) ∧ j ≠ i := fun {j x} e => by
    by_cases h : j = i
    · subst h
      by_cases hj : j < ρ.length
      · rw [List.getElem?_set_self hj] at e; cases e
      · rw [List.getElem?_eq_none (by rw [List.length_set]; omega)] at e; cases e
    · rw [List.getElem?_set_ne (Ne.symm h)] at e; exact ⟨e, h⟩
  exact ⟨r.bk, r.gk, by rw [List.length_set]; exact r.ln, fun j d e => r.sh j d (old e).1, fun j m e => r.ow j m (old e).1, fun j k m m' p e1 e2 e3 e4 => r.df j k m m' p (old e1).1 (old e2).1 e3 e4, r.pa, r.kg⟩
def sIf (c : ENV → R Bool) (a b : ENV → R Fl) : ENV → R Fl := fun ρ => (c ρ).bind fun x ρ1 => if x = true then a ρ1 else b ρ1
theorem ds_if {tc : ENV → R Bool} {s2 : List Stmt} (hc : DT X cc c tc) (ha : DSs X cc sts sa) (hb : DSs X cc s2 sb) : DS X cc (.If c sts s2 pos) (sIf tc sa sb) := by
  refine PS.imp (ps_if hc ha hb) fun Dn σ H ⟨B, ρ, G, R0, h⟩ => ⟨B, ρ, G, R0, h.bind fun d ρ1 G1 H1 x e1 R1 p1 h1 => ?_⟩
  subst p1
  cases x with
  | true => exact iteT ⟨B, ρ1, G1, R1, h1⟩
  | false => exact iteF ⟨B, ρ1, G1, R1, h1⟩

def sAsg (da : ENV → R D) (g : D → ENV → Option ENV) : ENV → R Fl := fun ρ => (da ρ).bind fun d ρ1 => match g d ρ1 with
  | some ρ2 => .ok .nx ρ2
  | none => .bot
variable {g : D → ENV → Option ENV} {sl : List Nat}
theorem asg_core {K : PySem.W.Frag} {tgt : TG} (k : ∀ v σ H Q, rG K cc sl g v σ H Q → tgt v σ H Q) : ∀ Dn σ H, rS K cc (sAsg da g) Dn σ H → tAsg (rE K cc da) tgt Dn σ H := by
  intro Dn σ H ⟨B, ρ, G, R0, h⟩
  refine ⟨B, ρ, G, R0, h.bind fun d ρ1 G1 H1 x e1 R1 p1 h1 => k _ _ _ _ ?_⟩
  cases hg : g d ρ1 with
  | none => simp only [hg] at h1; exact h1.elim
  | some ρ2 => simp only [hg] at h1; exact ⟨B, ρ1, G1, d, ρ2, R1, p1, hg, fun σ' R2 _ => h1.here R2⟩
theorem gset_core {K : PySem.W.Frag} {i : Nat} (hp : i ∉ cc.pr) : ∀ v σ H Q, rG K cc [i] (gSet i) v σ H Q → gName i v σ H Q := fun v σ H Q ⟨B, ρ, G, d, ρ', R0, p, e, k⟩ => by
  unfold gSet at e
  split at e
  · rename_i h; cases e; exact k _ (R0.store h hp p) ⟨by rw [List.length_set], fun j hj => List.getElem?_set_ne (fun z => hj (by simp [z]))⟩
  · cases e
theorem ds_set {i : Nat} {x : Str} {p2 : Pos} (hN : X.N.Nodup) (ha : DE X cc e da) (hi : X.N[i]? = some x := by rfl) (hx : Loc X.env.scope x := by first | exact Or.inl rfl | exact Or.inr rfl) (hp : cc.pr.contains i = false := by rfl) (hs : swapsWith e (some (.Name x p2)) pos.line X.env = pure false := by rfl)
    (hf : X.fn x = true ∨ X.env.scope.names.lookup x = some .local := by first | exact .inl rfl | exact .inr rfl | assumption) : DS X cc (.Assign [.Name x p2] e pos) (sAsg da (gSet i)) := PS.imp (ps_set hN hi hx ha hs hf) (asg_core (gset_core (np hp)))
def sOwn (fa : ENV → R M) (i : Nat) : ENV → R Fl := fun ρ => (fa ρ).bind fun m ρ1 => if i < ρ1.length then .ok .nx (ρ1.set i (some (.ow m))) else .bot
theorem ite_postS {K : PySem.W.Frag} {B G : Hp} {Dn : Ends} {p : Prop} [Decidable p] {r : R Fl} (h : PostS K cc B G Dn (if p then r else .bot)) : p ∧ PostS K cc B G Dn r := by
  by_cases q : p
  · rw [if_pos q] at h; exact ⟨q, h⟩
  · rw [if_neg q] at h; exact h.elim
theorem own_core {K : PySem.W.Frag} {i : Nat} (hp : i ∉ cc.pr) : ∀ Dn σ H, rS K cc (sOwn fa i) Dn σ H → tAsg (rF K cc fa) (gName i) Dn σ H := by
  intro Dn σ H ⟨B, ρ, G, R0, h⟩
  refine ⟨B, ρ, G, R0, h.bindF fun m ρ1 G1 H1 p e1 R1 o n h1 => ?_⟩
  obtain ⟨hi, h1⟩ := ite_postS h1
  exact h1.here (R1.storeO hi hp o n)
theorem ds_own {i : Nat} {x : Str} {p2 : Pos} (hN : X.N.Nodup) (ha : DF X cc e fa) (hi : X.N[i]? = some x := by rfl) (hx : Loc X.env.scope x := by first | exact Or.inl rfl | exact Or.inr rfl) (hp : cc.pr.contains i = false := by rfl) (hs : swapsWith e (some (.Name x p2)) pos.line X.env = pure false := by rfl)
    (hf : X.fn x = true ∨ X.env.scope.names.lookup x = some .local := by first | exact .inl rfl | exact .inr rfl | assumption) : DS X cc (.Assign [.Name x p2] e pos) (sOwn fa i) := PS.imp (ps_set hN hi hx ha hs hf) (own_core (np hp))
def sPar (i j : Nat) (da db : ENV → R D) : ENV → R Fl := fun ρ => (da ρ).bind fun x ρ1 => (db ρ1).bind fun y ρ2 => if i < ρ2.length ∧ j < ρ2.length then .ok .nx ((ρ2.set i (some (.sh x))).set j (some (.sh y))) else .bot
theorem Rl.mutate {K : PySem.W.Frag} {B : Hp} {ρ : ENV} {σ : St} {G H : Hp} {i : Nat} {p : Addr} {m m' : M} {o : HO} (r : Rl K cc B ρ σ G H) (e : ρ[i]? = some (some (.ow m))) (hp : σ[i]? = some (some (.ref p))) (hm : HoldsM K cc.C G o m') : Rl K cc B (ρ.set i (some (.ow m'))) σ G (upd H p o) := by
  obtain ⟨p', h1, ow⟩ := r.ow i m e
  rw [hp] at h1; cases h1
  have il : i < ρ.length := (List.getElem?_eq_some_iff.mp e).1
  have old : ∀ (j : Nat) (x : M), (ρ.set i (some (.ow m')))[j]? = some (some (.ow x)) → ∃ y, ρ[j]? = some (some (.ow y)) := fun j x q => by
    by_cases h : j = i
    · subst h; exact ⟨m, e⟩
    · rw [List.getElem?_set_ne (Ne.symm h)] at q; exact ⟨x, q⟩
  refine ⟨fun b u q => ?_, fun b u q => ?_, by rw [List.length_set]; exact r.ln, fun j d q => ?_, fun j x q => ?_, fun j k m1 m2 q q1 q2 q3 q4 => ?_, r.pa, r.kg⟩
  · have ne : b ≠ p := fun z => by subst z; rw [ow.nb] at q; cases q
    rw [upd_ne ne]; exact r.bk b u q
  · have ne : b ≠ p := fun z => by subst z; rw [ow.ng] at q; cases q
    rw [upd_ne ne]; exact r.gk b u q
  · by_cases h : j = i
    · subst h; rw [List.getElem?_set_self il] at q; cases q
    · rw [List.getElem?_set_ne (Ne.symm h)] at q; exact r.sh j d q
  · by_cases h : j = i
    · subst h
      rw [List.getElem?_set_self il] at q; cases q
      exact ⟨p, hp, ow.nb, ow.ng, o, upd_same, hm⟩
    · rw [List.getElem?_set_ne (Ne.symm h)] at q
      obtain ⟨p', h1, o'⟩ := r.ow j x q
      have ne : p' ≠ p := fun z => by subst z; exact h (r.df j i x m p' q e h1 hp)
      obtain ⟨y, hy, hm'⟩ := o'.at_
      exact ⟨p', h1, o'.nb, o'.ng, y, by rw [upd_ne ne]; exact hy, hm'⟩
  · obtain ⟨y1, q1⟩ := old j m1 q1
    obtain ⟨y2, q2⟩ := old k m2 q2
    exact r.df j k y1 y2 q q1 q2 q3 q4
theorem lst_ty {K : PySem.W.Frag} {H : Hp} {p : Addr} {xs : List V} (h : H p = some (.lst xs)) : tyV K "list" (.ref p) H := Or.inl ⟨rfl, _, Or.inl (Or.inl h)⟩
theorem Rl.lstAt {K : PySem.W.Frag} {B : Hp} {ρ : ENV} {σ : St} {G H : Hp} {i : Nat} {ds : List D} (r : Rl K cc B ρ σ G H) (e : ρ[i]? = some (some (.ow (.lst ds)))) : ∃ p xs, σ[i]? = some (some (.ref p)) ∧ H p = some (.lst xs) ∧ RpL K cc.C G xs ds := by
  obtain ⟨p, hp, o⟩ := r.ow i _ e
  obtain ⟨x, hx, xs, rfl, rr⟩ := o.at_
  exact ⟨p, xs, hp, hx, rr⟩
def sApp (i : Nat) (da : ENV → R D) : ENV → R Fl := fun ρ => match ρ[i]? with
  | some (some (.ow (.lst _))) => (da ρ).bind fun d ρ1 => match ρ1[i]? with
    | some (some (.ow (.lst ds))) => if ds.length < sizeLine then .ok .nx (ρ1.set i (some (.ow (.lst (ds ++ [d]))))) else .bot
    | _ => .bot
  | _ => .bot
theorem ds_app (i : Nat) {x : Str} {p2 p3 p4 : Pos} (ha : DE X cc e da) (hN : X.N[i]? = some x := by rfl) (hv : Vis X.env.scope x := by first | exact Or.inl rfl | exact Or.inr (Or.inl rfl) | exact Or.inr (Or.inr rfl)) (hd : (x == ("__debug__" : Str)) = false := by decide)
    (hcd : (x == ("__classdict__" : Str)) = false := by decide) (hs : swapsWith (.Call (.Attribute (.Name x p2) "append" p3) [e] [] p4) none pos.line X.env = pure false := by rfl)
    (hfew : ((backTo p4 (starEach (e :: []) X.env)).all (fun x => !x.1) && (backToKw p4 (keywordEach [] X.env)).all (fun x => x.1.isSome)
      && decide ((e :: []).length + ([] : List Keyword).length + (if ([] : List Keyword).isEmpty then 0 else 1) < 30)) = true := by rfl) (hline : (p3.endLine == p4.line) = true := by rfl)
    (he : starEach [e] X.env = (false, eval e X.env) :: starEach [] X.env := by rfl) (hpl : (backTo p4 (starEach [] X.env)).any (·.1) = false := by rfl) (hb : attributeBase (.Name x p2) "append" X.env (eval (.Name x p2) X.env) = eval (.Name x p2) X.env := by rfl) : DS X cc (.Expr (.Call (.Attribute (.Name x p2) "append" p3) [e] [] p4) pos) (sApp i da) := by
  refine PS.imp (ps_expr (pe_bm PySem.F.plainAttrs_list PySem.F.slot_list_append PySem.F.type_list_append mt_append (pe_var hN hv hd hcd) (pa_cons ha pa_nil he) hb hfew hline he hpl) hs) fun Dn σ H ⟨B, ρ, G, R0, h⟩ => ?_
  unfold sApp at h
  split at h
  rotate_left
  · exact h.elim
  rename_i ds0 e0
  obtain ⟨p, xs, hp, hx, _⟩ := R0.lstAt e0
  refine ⟨_, hp, lst_ty hx, B, ρ, G, R0, h.bind fun d ρ1 G1 H1 y e1 R1 p1 h1 => ?_⟩
  split at h1
  rotate_left
  · exact h1.elim
  rename_i ds e2
  obtain ⟨hz, h1⟩ := ite_postS h1
  obtain ⟨p', xs', hp', hx', rr⟩ := R1.lstAt e2
  rw [hp] at hp'; cases hp'
  exact ⟨p, xs', y, rfl, rfl, hx', by rw [rr.length]; exact hz, h1.here (R1.mutate e2 hp ⟨_, rfl, rr.append (.cons p1 .nil)⟩)⟩
def sSub (i : Nat) (da di : ENV → R D) : ENV → R Fl := fun ρ => (da ρ).bind fun d ρ1 => match ρ1[i]? with
  | some (some (.ow (.lst _))) => (di ρ1).bind fun k ρ2 => match k, ρ2[i]? with
    | .int k, some (some (.ow (.lst ds))) => match ixN ds.length k with
      | some j => .ok .nx (ρ2.set i (some (.ow (.lst (ds.set j d)))))
      | none => .bot
    | _, _ => .bot
  | _ => .bot
theorem ds_sub (i : Nat) {x : Str} {p2 p3 : Pos} {k : Expr} {di : ENV → R D} (ha : DE X cc e da) (hk : DE X cc k di) (hN : X.N[i]? = some x := by rfl) (hv : Vis X.env.scope x := by first | exact Or.inl rfl | exact Or.inr (Or.inl rfl) | exact Or.inr (Or.inr rfl)) (hd : (x == ("__debug__" : Str)) = false := by decide)
    (hcd : (x == ("__classdict__" : Str)) = false := by decide)
    (hasg : ∀ v, assign (.Subscript (.Name x p2) k p3) X.env v = (do
      let ov ← holding [v] (eval (.Name x p2) X.env)
      let iv ← holding [v, ov] (eval k X.env)
      standAt p3
      holding [v, ov, iv] (setItem ov iv v)
      release [v, ov, iv] []) := by intro _; rfl)
    (hs : swapsWithSole [.Subscript (.Name x p2) k p3] e pos.line X.env = pure false := by rfl) (hw : swappedStores [.Subscript (.Name x p2) k p3] e X.env = pure none := by rfl)
    (h1 : (assignEach [.Subscript (.Name x p2) k p3] X.env).map (·.2) = [assign (.Subscript (.Name x p2) k p3) X.env] := by rfl) : DS X cc (.Assign [.Subscript (.Name x p2) k p3] e pos) (sSub i da di) := by
  refine PS.imp (ps_asg ha (pg_sub (pe_var hN hv hd hcd) hk set_list hasg) hs hw h1) fun Dn σ H ⟨B, ρ, G, R0, h⟩ => ⟨B, ρ, G, R0, h.bind fun d ρ1 G1 H1 y e1 R1 p1 h1 => ?_⟩
  split at h1
  rotate_left
  · exact h1.elim
  rename_i ds0 e0
  obtain ⟨p, xs, hp, hx, _⟩ := R1.lstAt e0
  refine ⟨_, hp, B, ρ1, G1, R1, h1.bind fun kd ρ2 G2 H2 kv e2 R2 p2 h2 => ?_⟩
  split at h2
  rotate_left
  · exact h2.elim
  rename_i k' ds e3
  cases p2 with
  | int k' =>
    obtain ⟨p', xs', hp', hx', rr⟩ := R2.lstAt e3
    rw [hp] at hp'; cases hp'
    cases hj : ixN ds.length k' with
    | none => simp only [hj] at h2; exact h2.elim
    | some j =>
      simp only [hj] at h2
      exact ⟨p, xs', k', j, rfl, rfl, hx', by rw [rr.length]; exact hj, h2.here (R2.mutate e3 hp ⟨_, rfl, rr.set (p1.mono e2.gg) j⟩)⟩
def forL (g : D → ENV → Option ENV) (body : ENV → R Fl) : List D → ENV → R Fl
  | [], ρ => .ok .nx ρ
  | d :: ds, ρ => match g d ρ with
    | none => .bot
    | some ρ1 => match body ρ1 with
      | .ok .nx ρ2 => forL g body ds ρ2
      | .ok .ct ρ2 => forL g body ds ρ2
      | .ok .bk ρ2 => .ok .nx ρ2
      | .ok (.ret v) ρ2 => .ok (.ret v) ρ2
      | .exc e ρ2 => .exc e ρ2
      | .bot => .bot
def sFor (di : ENV → R (List D)) (g : D → ENV → Option ENV) (body : ENV → R Fl) : ENV → R Fl := fun ρ => (di ρ).bind fun ds ρ1 => forL g body ds ρ1
theorem ds_for {iter : Expr} {body : List Stmt} {di : ENV → R (List D)} {sb : ENV → R Fl} (hp : PassesOwn (model X.prog X.w) X.A X.env X.xe) (hc : X.calm = true) (hi : DI X cc tg iter di) (hg : DG X cc tg sl g) (hb : DSs X cc body sb)
    (hs : ∀ x, foldedSetIterable iter X.env x = pure x := by intro _; rfl) : DS X cc (.For tg iter body [] pos) (sFor di g sb) := by
  refine PS.imp (ps_for (g := rG X.K cc sl g) (tb := rS X.K cc sb) hp hc hi hg hb hs) fun Dn σ H ⟨B, ρ, G, R0, h⟩ => ⟨B, ρ, G, R0, h.bind fun ds ρ1 G1 H1 J e1 R1 w h1 => ?_⟩
  obtain ⟨gd, Y, wlk, hgd, hY⟩ := w.ex
  refine for_it wlk (fun i σ H => ∃ ρi Gi, Ext B G1 Gi ∧ Rl X.K cc B ρi σ Gi H ∧ PostS X.K cc B Gi Dn (forL g sb (ds.drop i) ρi)) ⟨ρ1, G1, Ext.refl _ _, R1, h1⟩ (fun i σ H _ ⟨ρi, Gi, ex, R, _⟩ => hgd Gi H ex.gg R.gk) ?_ ?_
  · rintro i x σ H H' hi ⟨ρi, Gi, ex, R, hq⟩ y
    obtain ⟨d, G3, hd, g3, p3⟩ := hY i Gi H x H' hi ex.gg R.gk y
    have hdrop : ds.drop i = d :: ds.drop (i + 1) := by
      obtain ⟨h1, h2⟩ := List.getElem?_eq_some_iff.mp hd
      rw [← h2]; exact List.drop_eq_getElem_cons h1
    rw [hdrop] at hq
    unfold forL at hq
    have R' := R.grow g3
    have x3 := g3.ext R.bk
    cases hgd' : g d ρi with
    | none => simp only [hgd'] at hq; exact hq.elim
    | some ρ1' =>
      simp only [hgd'] at hq
      refine ⟨B, ρi, G3, d, ρ1', R', p3, hgd', fun σ2 R2 _ => ⟨B, ρ1', G3, R2, ?_⟩⟩
      have hq := hq.ext x3
      cases hb : sb ρ1' with
      | ok f ρ2 =>
        rw [hb] at hq
        cases f with
        | nx => exact fun σ' G' H' e R4 => ⟨ρ2, G', ex.trans (x3.trans e), R4, PostS.ext hq e⟩
        | ct => exact fun σ' G' H' e R4 => ⟨ρ2, G', ex.trans (x3.trans e), R4, PostS.ext hq e⟩
        | bk => exact hq
        | ret v => cases v with
          | sh d => exact hq
          | ow m => exact hq
      | exc e ρ2 => rw [hb] at hq; exact hq
      | bot => rw [hb] at hq; exact hq
  · rintro σ H ⟨ρi, Gi, ex, R, hq⟩
    rw [List.drop_length] at hq
    exact PostS.here hq R
def whileF (c : ENV → R Bool) (body : ENV → R Fl) : Nat → ENV → R Fl
  | 0, _ => .bot
  | n + 1, ρ => (c ρ).bind fun b ρ1 => if b = true then match body ρ1 with
      | .ok .nx ρ2 => whileF c body n ρ2
      | .ok .ct ρ2 => whileF c body n ρ2
      | .ok .bk ρ2 => .ok .nx ρ2
      | r => r
    else .ok .nx ρ1
def sWhile (n : ENV → Nat) (c : ENV → R Bool) (body : ENV → R Fl) : ENV → R Fl := fun ρ => whileF c body (n ρ) ρ
end
end Rf
set_option Elab.async false
set_option linter.all false
set_option maxRecDepth 100000
namespace Rf
open PySem PySem.Spec L2
inductive FO where
  | ok (v : DV) (ms : List M) | exc (e : EX) (ms : List M) | bot
inductive AR (K : PySem.W.Frag) (C : Nat → Addr) (B G H : Hp) : List V → List DV → Prop
  | nil : AR K C B G H [] []
  | sh {v : V} {d : D} {vs : List V} {ds : List DV} (h : Rp K C G v d) (r : AR K C B G H vs ds) : AR K C B G H (v :: vs) (.sh d :: ds)
  | ow {p : Addr} {m : M} {vs : List V} {ds : List DV} (h : Own K C B G H p m) (r : AR K C B G H vs ds) : AR K C B G H (.ref p :: vs) (.ow m :: ds)
inductive Outs (K : PySem.W.Frag) (C : Nat → Addr) (B G H : Hp) : List V → List DV → List M → Prop
  | nil : Outs K C B G H [] [] []
  | sh {v : V} {d : D} {vs : List V} {ds : List DV} {ms : List M} (r : Outs K C B G H vs ds ms) : Outs K C B G H (v :: vs) (.sh d :: ds) ms
  | ow {p : Addr} {m m' : M} {vs : List V} {ds : List DV} {ms : List M} (h : Own K C B G H p m') (r : Outs K C B G H vs ds ms) : Outs K C B G H (.ref p :: vs) (.ow m :: ds) (m' :: ms)
def Apart (vs : List V) (ds : List DV) : Prop := ∀ (i j : Nat) (m m' : M) (p : Addr), ds[i]? = some (.ow m) → ds[j]? = some (.ow m') → vs[i]? = some (.ref p) → vs[j]? = some (.ref p) → i = j
def NotOf (vs : List V) (ds : List DV) (p : Addr) : Prop := ∀ (i : Nat) (m : M), ds[i]? = some (.ow m) → vs[i]? ≠ some (.ref p)
def ValR (K : PySem.W.Frag) (C : Nat → Addr) (B G H : Hp) (vs : List V) (ds : List DV) (x : V) : DV → Prop
  | .sh d => Rp K C G x d
  | .ow m => ∃ p, x = .ref p ∧ Own K C B G H p m ∧ NotOf vs ds p
def spF (K : PySem.W.Frag) (C : Nat → Addr) (n : Nat) (F : List DV → FO) : Sp := fun vs H Q E => ∃ ds B G, vs.length = n ∧ Same B H ∧ Same G H ∧ AR K C B G H vs ds ∧ Apart vs ds ∧
  match F ds with
  | .ok v ms => ∀ x G' H', Ext B G G' → Same B H' → Same G' H' → Outs K C B G' H' vs ds ms → ValR K C B G' H' vs ds x v → Q x H'
  | .exc e ms => ∀ cl dd G' H', Ext B G G' → Same B H' → Same G' H' → Outs K C B G' H' vs ds ms → ERp K C G' e cl dd → E cl dd H'
  | .bot => False
theorem AR.length {K : PySem.W.Frag} {C : Nat → Addr} {B G H : Hp} : ∀ {vs : List V} {ds : List DV}, AR K C B G H vs ds → vs.length = ds.length
  | _, _, .nil => rfl
  | _, _, .sh _ r => congrArg (· + 1) r.length
  | _, _, .ow _ r => congrArg (· + 1) r.length
theorem AR.getSh {K : PySem.W.Frag} {C : Nat → Addr} {B G H : Hp} : ∀ {vs : List V} {ds : List DV} {i : Nat} {d : D}, AR K C B G H vs ds → ds[i]? = some (.sh d) → ∃ v, vs[i]? = some v ∧ Rp K C G v d
  | _, _, i, d, .nil, e => by simp at e
  | _, _, 0, d, .sh h _, e => by simp at e; subst e; exact ⟨_, rfl, h⟩
  | _, _, 0, d, .ow h _, e => by simp at e
  | _, _, i + 1, d, .sh _ r, e => by obtain ⟨v, h1, h2⟩ := AR.getSh (i := i) (d := d) r (by simpa using e); exact ⟨v, by simpa using h1, h2⟩
  | _, _, i + 1, d, .ow _ r, e => by obtain ⟨v, h1, h2⟩ := AR.getSh (i := i) (d := d) r (by simpa using e); exact ⟨v, by simpa using h1, h2⟩
theorem AR.getOw {K : PySem.W.Frag} {C : Nat → Addr} {B G H : Hp} : ∀ {vs : List V} {ds : List DV} {i : Nat} {m : M}, AR K C B G H vs ds → ds[i]? = some (.ow m) → ∃ p, vs[i]? = some (.ref p) ∧ Own K C B G H p m
  | _, _, i, d, .nil, e => by simp at e
  | _, _, 0, d, .sh h _, e => by simp at e
  | _, _, 0, d, .ow h _, e => by simp at e; subst e; exact ⟨_, rfl, h⟩
  | _, _, i + 1, d, .sh _ r, e => by obtain ⟨v, h1, h2⟩ := AR.getOw (i := i) (m := d) r (by simpa using e); exact ⟨v, by simpa using h1, h2⟩
  | _, _, i + 1, d, .ow _ r, e => by obtain ⟨v, h1, h2⟩ := AR.getOw (i := i) (m := d) r (by simpa using e); exact ⟨v, by simpa using h1, h2⟩
def owPos : Nat → List DV → List Nat
  | _, [] => []
  | k, .sh _ :: r => owPos (k + 1) r
  | k, .ow _ :: r => k :: owPos (k + 1) r
theorem owPos_at : ∀ (ds : List DV) (k i : Nat), i ∈ owPos k ds → ∃ j m, i = k + j ∧ ds[j]? = some (.ow m)
  | [], _, _, h => by cases h
  | .sh d :: r, k, i, h => by
    obtain ⟨j, m, e, q⟩ := owPos_at r (k + 1) i h
    exact ⟨j + 1, m, by omega, by simpa using q⟩
  | .ow m :: r, k, i, h => by
    rcases List.mem_cons.mp h with h | h
    · exact ⟨0, m, by omega, rfl⟩
    · obtain ⟨j, m', e, q⟩ := owPos_at r (k + 1) i h
      exact ⟨j + 1, m', by omega, by simpa using q⟩
def outsE : Nat → List DV → ENV → Option (List M)
  | _, [], _ => some []
  | k, .sh _ :: r, ρ => outsE (k + 1) r ρ
  | k, .ow _ :: r, ρ => match ρ[k]? with
    | some (some (.ow m)) => (outsE (k + 1) r ρ).map (m :: ·)
    | _ => none
def startE (n : Nat) (ds : List DV) : ENV := ds.map some ++ List.replicate (n - ds.length) none
def runF (pr : List Nat) (n : Nat) (den : ENV → R Fl) : List DV → FO := fun ds => if owPos 0 ds = pr then match den (startE n ds) with
  | .ok (.ret v) ρ => match outsE 0 ds ρ with | some ms => .ok v ms | none => .bot
  | .ok .nx ρ => match outsE 0 ds ρ with | some ms => .ok (.sh .non) ms | none => .bot
  | .exc e ρ => match outsE 0 ds ρ with | some ms => .exc e ms | none => .bot
  | _ => .bot
  else .bot
def adOf (vs : List V) (i : Nat) : Addr := match vs[i]? with
  | some (.ref p) => p
  | _ => 0
section
variable {P : Program} {w : World} {K : PySem.W.Frag} {mg : Str → Option Value} {base : Heap} {C : Nat → Addr}
theorem startE_get {n : Nat} {ds : List DV} {i : Nat} {x : DV} (h : (startE n ds)[i]? = some (some x)) : ds[i]? = some x := by
  unfold startE at h
  by_cases hi : i < ds.length
  · rw [List.getElem?_append_left (by rw [List.length_map]; exact hi), List.getElem?_map] at h
    cases e : ds[i]? with
    | none => rw [e] at h; cases h
    | some y => rw [e] at h; cases h; rfl
  · rw [List.getElem?_append_right (by rw [List.length_map]; omega)] at h
    obtain ⟨h1, h2⟩ := List.getElem?_eq_some_iff.mp h
    rw [List.getElem_replicate] at h2; cases h2
theorem start_get {N : List Str} {vs : List V} {i : Nat} {v : V} (h : vs[i]? = some v) : (L2.start N vs)[i]? = some (some v) := by
  unfold L2.start
  have hi := (List.getElem?_eq_some_iff.mp h).1
  rw [List.getElem?_append_left (by rw [List.length_map]; exact hi), List.getElem?_map, h]; rfl
theorem outs_of {cc : Cc} {B G' H' G0 H0 : Hp} {ρ : ENV} {σ : St} (R : Rl K cc B ρ σ G' H') : ∀ {vs : List V} {ds : List DV} {k : Nat} {ms : List M}, AR K cc.C B G0 H0 vs ds → (∀ j p, vs[j]? = some (.ref p) → (∃ m, ds[j]? = some (.ow m)) → σ[k + j]? = some (some (.ref p))) →
    outsE k ds ρ = some ms → Outs K cc.C B G' H' vs ds ms
  | _, _, k, ms, .nil, _, e => by cases e; exact .nil
  | _, _, k, ms, .sh h r, hσ, e => .sh (outs_of R (k := k + 1) r (fun j p h1 ⟨m, h2⟩ => by have := hσ (j + 1) p (by simpa using h1) ⟨m, by simpa using h2⟩; rw [show k + (j + 1) = k + 1 + j by omega] at this; exact this) e)
  | _, _, k, ms, .ow (p := p) (m := m0) h r, hσ, e => by
    unfold outsE at e
    split at e
    · rename_i m hm
      cases ho : outsE (k + 1) _ ρ with
      | none => rw [ho] at e; cases e
      | some ms' =>
        rw [ho] at e; cases e
        have hp := hσ 0 p rfl ⟨m0, rfl⟩
        obtain ⟨p', h1, o⟩ := R.ow k m hm
        rw [Nat.add_zero, h1] at hp
        cases hp
        exact .ow o (outs_of R (k := k + 1) r (fun j p h1 ⟨m, h2⟩ => by have := hσ (j + 1) p (by simpa using h1) ⟨m, by simpa using h2⟩; rw [show k + (j + 1) = k + 1 + j by omega] at this; exact this) ho)
    · cases e
theorem fn_core {qual : Str} {body : List Stmt} {sc : Scope} {f : Addr} {fd : FuncData} {N ps : List Str} {k : Nat}
    (rule : ∀ sp : Sp, (∀ vs H Q E, sp vs H Q E → vs.length = ps.length) → (∀ (cdv : Value) (A : Around) (outer : List Env) (s : Shared) (H : Hp) (vs : List V) (Q : VK) (E : XK), Room k (A.deeper (PyProof.Rows.envOfC qual sc s.heap.objs.size f cdv)) → sp vs H Q E →
      ∃ t, PSs (cxOf (L2.CX P w) P w K mg base N qual sc f cdv A outer s H E) body t ∧ t { nx := fun _ H' => Q .non H', rt := Q } (L2.start N vs) H) → FnOk P w K mg base (L2.CX P w) (k + 1) f fd ps sp)
    (pr : List Nat) {den : ENV → R Fl} (hlen : ps.length ≤ N.length)
    (hb : ∀ (cdv : Value) (A : Around) (outer : List Env) (s : Shared) (H : Hp) (E : XK) (ad : Nat → Addr), Room k (A.deeper (PyProof.Rows.envOfC qual sc s.heap.objs.size f cdv)) →
      DSs (cxOf (L2.CX P w) P w K mg base N qual sc f cdv A outer s H E) ⟨C, fun cl d _ H => E cl d H, pr, ad, fun _ => none⟩ body den) : FnOk P w K mg base (L2.CX P w) (k + 1) f fd ps (spF K C ps.length (runF pr N.length den)) := by
  refine rule _ (fun vs H Q E h => ?_) (fun cdv A outer s H vs Q E hr h => ?_)
  · obtain ⟨ds, B, G, e, _⟩ := h
    exact e
  · obtain ⟨ds, B, G, hn, sB, sG, ar, ap, hF⟩ := h
    have hpos : owPos 0 ds = pr := by
      unfold runF at hF
      by_cases q : owPos 0 ds = pr
      · exact q
      · rw [if_neg q] at hF; exact hF.elim
    have hl := ar.length
    have R0 : Rl K ⟨C, fun cl d _ H => E cl d H, pr, adOf vs, fun _ => none⟩ B (startE N.length ds) (L2.start N vs) G H := by
      refine ⟨sB, sG, ?_, fun i d e => ?_, fun i m e => ?_, fun i j m m' p e1 e2 e3 e4 => ?_, fun i hi => ?_, fun _ _ e => nomatch e⟩
      · unfold L2.start startE
        rw [List.length_append, List.length_append, List.length_map, List.length_map, List.length_replicate, List.length_replicate, hl]
      · obtain ⟨v, h1, h2⟩ := ar.getSh (startE_get e)
        exact ⟨v, start_get h1, h2⟩
      · obtain ⟨p, h1, h2⟩ := ar.getOw (startE_get e)
        exact ⟨p, start_get h1, h2⟩
      · have g1 := startE_get e1
        have g2 := startE_get e2
        obtain ⟨p1, h1, _⟩ := ar.getOw g1
        obtain ⟨p2, h2, _⟩ := ar.getOw g2
        rw [start_get h1] at e3
        rw [start_get h2] at e4
        cases e3; cases e4
        exact ap i j m m' _ g1 g2 h1 h2
      · have hi : i ∈ pr := hi
        rw [← hpos] at hi
        obtain ⟨j, m, e, q⟩ := owPos_at ds 0 i hi
        rw [Nat.zero_add] at e
        subst e
        obtain ⟨p, h1, _⟩ := ar.getOw q
        rw [start_get h1]
        show _ = some (some (V.ref (adOf vs i)))
        unfold adOf
        rw [h1]
    refine ⟨_, hb cdv A outer s H E (adOf vs) hr, B, startE N.length ds, G, R0, ?_⟩
    unfold runF at hF
    rw [if_pos hpos] at hF
    have pos : ∀ {j : Nat} {m : M}, ds[j]? = some (.ow m) → j ∈ pr := by
      have go : ∀ (ds : List DV) (k j : Nat) (m : M), ds[j]? = some (.ow m) → k + j ∈ owPos k ds := by
        intro ds
        induction ds with
        | nil => intro k j m h; simp at h
        | cons a r ih =>
          intro k j m h
          cases j with
          | zero => simp at h; subst h; simp [owPos]
          | succ j =>
            have := ih (k + 1) j m (by simpa using h)
            rw [show k + 1 + j = k + (j + 1) by omega] at this
            cases a with
            | sh d => exact this
            | ow m' => exact List.mem_cons_of_mem _ this
      intro j m h
      have := go ds 0 j m h
      rw [hpos, Nat.zero_add] at this
      exact this
    have hσ : ∀ {σ' : St} {ρ : ENV} {G' H' : Hp}, Rl K ⟨C, fun cl d _ H => E cl d H, pr, adOf vs, fun _ => none⟩ B ρ σ' G' H' → ∀ (j : Nat) (p : Addr), vs[j]? = some (.ref p) → (∃ m, ds[j]? = some (.ow m)) → σ'[0 + j]? = some (some (.ref p)) := by
      intro σ' ρ G' H' R j p h1 ⟨m, h2⟩
      have := R.pa j (pos h2)
      rw [Nat.zero_add, this]
      show some (some (V.ref (adOf vs j))) = _
      unfold adOf
      rw [h1]
    have fin : ∀ {v : DV} {ρ : ENV}, (match (match outsE 0 ds ρ with | some ms => FO.ok v ms | none => .bot) with
        | .ok v ms => ∀ x G' H', Ext B G G' → Same B H' → Same G' H' → Outs K C B G' H' vs ds ms → ValR K C B G' H' vs ds x v → Q x H'
        | .exc e ms => ∀ cl dd G' H', Ext B G G' → Same B H' → Same G' H' → Outs K C B G' H' vs ds ms → ERp K C G' e cl dd → E cl dd H'
        | .bot => False) → ∀ x σ' G' H', Ext B G G' → Rl K ⟨C, fun cl d _ H => E cl d H, pr, adOf vs, fun _ => none⟩ B ρ σ' G' H' → ValR K C B G' H' vs ds x v → Q x H' := by
      intro v ρ h x σ' G' H' ex R hv
      cases ho : outsE 0 ds ρ with
      | none => rw [ho] at h; exact h.elim
      | some ms => rw [ho] at h; exact h x G' H' ex R.bk R.gk (outs_of R ar (hσ R) ho) hv
    cases hd : den (startE N.length ds) with
    | ok fl ρ =>
      rw [hd] at hF
      cases fl with
      | nx => exact fun σ' G' H' ex R => fin hF .non σ' G' H' ex R .non
      | bk => exact hF.elim
      | ct => exact hF.elim
      | ret v =>
        cases v with
        | sh d => exact fun v σ' G' H' ex R p => fin hF v σ' G' H' ex R p
        | ow m =>
          refine fun p σ' G' H' ex R o n => ?_
          have hF' := hF
          dsimp only at hF'
          cases ho : outsE 0 ds ρ with
          | none => simp only [ho] at hF'
          | some ms =>
            have os := outs_of R ar (hσ R) ho
            refine fin hF (.ref p) σ' G' H' ex R ⟨p, rfl, o, fun i m' e z => ?_⟩
            -- the argument at i is owned at the end
            have own : ∀ {vs : List V} {ds : List DV} {k i : Nat} {ms : List M} {m' : M}, outsE k ds ρ = some ms → ds[i]? = some (.ow m') → ∃ m'', ρ[k + i]? = some (some (.ow m'')) := by
              intro vs ds
              induction ds with
              | nil => intro k i ms m' _ h; simp at h
              | cons a r ih =>
                intro k i ms m' h1 h2
                cases a with
                | sh d =>
                  cases i with
                  | zero => simp at h2
                  | succ i =>
                    obtain ⟨m'', q⟩ := ih (k := k + 1) (i := i) (m' := m') h1 (by simpa using h2)
                    exact ⟨m'', by rw [show k + (i + 1) = k + 1 + i by omega]; exact q⟩
                | ow m0 =>
                  unfold outsE at h1
                  split at h1
                  · rename_i m1 hm
                    cases i with
                    | zero => exact ⟨m1, hm⟩
                    | succ i =>
                      cases ho : outsE (k + 1) r ρ with
                      | none => rw [ho] at h1; cases h1
                      | some ms' =>
                        obtain ⟨m'', q⟩ := ih (k := k + 1) (i := i) (m' := m') ho (by simpa using h2)
                        exact ⟨m'', by rw [show k + (i + 1) = k + 1 + i by omega]; exact q⟩
                  · cases h1
            obtain ⟨m'', q⟩ := own (vs := vs) ho e
            have h3 := hσ R i p z ⟨m', e⟩
            exact n _ m'' q h3
    | exc e ρ =>
      rw [hd] at hF
      refine fun cl dd σ' G' H' ex R er => ?_
      dsimp only at hF
      cases ho : outsE 0 ds ρ with
      | none => simp only [ho] at hF
      | some ms =>
        simp only [ho] at hF
        exact hF cl dd G' H' ex R.bk R.gk (outs_of R ar (hσ R) ho) er
    | bot => rw [hd] at hF; exact hF.elim
theorem fn_ok {x qual : Str} {st : Stmt} {f : Addr} {fd : FuncData} {N ps : List Str} {k : Nat} (F : Fun K x qual st f fd) (S : FnScope N ps (defScope st)) (pr : List Nat) {den : ENV → R Fl} (hlen : ps.length ≤ N.length)
    (hb : ∀ (cdv : Value) (A : Around) (outer : List Env) (s : Shared) (H : Hp) (E : XK) (ad : Nat → Addr), Room k (A.deeper (PyProof.Rows.envOfC qual (defScope st) s.heap.objs.size f cdv)) →
      DSs (cxOf (L2.CX P w) P w K mg base N qual (defScope st) f cdv A outer s H E) ⟨C, fun cl d _ H => E cl d H, pr, ad, fun _ => none⟩ (defBody st) den) : FnOk P w K mg base (L2.CX P w) (k + 1) f fd ps (spF K C ps.length (runF pr N.length den)) :=
  fn_core (fun _ l h => F.okX S l h) pr hlen hb
end
end Rf
set_option Elab.async false
set_option linter.all false
set_option maxRecDepth 100000
namespace Rf
open PySem PySem.Spec L2
abbrev Ag := Sum D Nat
inductive AgR (K : PySem.W.Frag) (C : Nat → Addr) (σ : St) (G : Hp) : List V → List Ag → Prop
  | nil : AgR K C σ G [] []
  | sh {v : V} {d : D} {vs : List V} {as : List Ag} (h : Rp K C G v d) (r : AgR K C σ G vs as) : AgR K C σ G (v :: vs) (.inl d :: as)
  | io {p : Addr} {i : Nat} {vs : List V} {as : List Ag} (h : σ[i]? = some (some (.ref p))) (r : AgR K C σ G vs as) : AgR K C σ G (.ref p :: vs) (.inr i :: as)
theorem AgR.mono {K : PySem.W.Frag} {C : Nat → Addr} {σ : St} {G G' : Hp} (s : Same G G') : ∀ {vs : List V} {as : List Ag}, AgR K C σ G vs as → AgR K C σ G' vs as
  | _, _, .nil => .nil
  | _, _, .sh h r => .sh (h.mono s) (r.mono s)
  | _, _, .io h r => .io h (r.mono s)
def rAg (K : PySem.W.Frag) (cc : Cc) (den : ENV → R (List Ag)) : TA := fun σ H Q => ∃ B ρ G, Rl K cc B ρ σ G H ∧ Post K cc (fun G' vs as => AgR K cc.C σ G' vs as) B G σ Q (den ρ)
def DAg (X : Cx) (cc : Cc) (e : List Expr) (den : ENV → R (List Ag)) : Prop := PA X e (rAg X.K cc den)
def aNil : ENV → R (List Ag) := fun ρ => .ok [] ρ
def aVal (da : ENV → R D) (dr : ENV → R (List Ag)) : ENV → R (List Ag) := fun ρ => (da ρ).bind fun x ρ1 => (dr ρ1).bind fun xs ρ2 => .ok (.inl x :: xs) ρ2
def aIo (i : Nat) (dr : ENV → R (List Ag)) : ENV → R (List Ag) := fun ρ => match ρ[i]? with
  | some (some (.ow _)) => (dr ρ).bind fun xs ρ2 => .ok (.inr i :: xs) ρ2
  | _ => .bot
section
variable {X : Cx} {cc : Cc} {e : Expr} {es : List Expr} {da : ENV → R D} {dr : ENV → R (List Ag)} {pos p : Pos}
theorem dag_nil : DAg X cc [] aNil := PA.imp pa_nil fun σ H Q ⟨B, ρ, G, R0, h⟩ => h [] G H (Ext.refl _ _) R0 .nil
theorem dag_val (ha : DE X cc e da) (hr : DAg X cc es dr) (hs : starEach (e :: es) X.env = (false, eval e X.env) :: starEach es X.env := by rfl) : DAg X cc (e :: es) (aVal da dr) := by
  refine PA.imp (pa_cons ha hr hs) fun σ H Q ⟨B, ρ, G, R0, h⟩ => ⟨B, ρ, G, R0, Post.bind (V2 := fun G' vs as => AgR X.K cc.C σ G' vs as) h fun d1 ρ1 G1 H1 x e1 R1 p1 h1 => ⟨B, ρ1, G1, R1, Post.bind (V2 := fun G' vs as => AgR X.K cc.C σ G' vs as) h1 fun d2 ρ2 G2 H2 y e2 R2 p2 h2 => ?_⟩⟩
  exact h2 (x :: y) G2 H2 (Ext.refl _ _) R2 (.sh (p1.mono e2.gg) p2)
theorem dag_io (i : Nat) {x : Str} {p2 : Pos} (hr : DAg X cc es dr) (hN : X.N[i]? = some x := by rfl) (hv : Vis X.env.scope x := by first | exact Or.inl rfl | exact Or.inr (Or.inl rfl) | exact Or.inr (Or.inr rfl)) (hd : (x == ("__debug__" : Str)) = false := by decide)
    (hcd : (x == ("__classdict__" : Str)) = false := by decide) (hs : starEach (.Name x p2 :: es) X.env = (false, eval (.Name x p2) X.env) :: starEach es X.env := by rfl) : DAg X cc (.Name x p2 :: es) (aIo i dr) := by
  refine PA.imp (pa_cons (pe_var hN hv hd hcd) hr hs) fun σ H Q ⟨B, ρ, G, R0, h⟩ => ?_
  unfold aIo at h
  split at h
  rotate_left
  · exact h.elim
  rename_i m e
  obtain ⟨q, hq, _⟩ := R0.ow i m e
  refine ⟨_, hq, B, ρ, G, R0, Post.bind (V2 := fun G' vs as => AgR X.K cc.C σ G' vs as) h fun d2 ρ2 G2 H2 y e2 R2 p2 h2 => ?_⟩
  exact h2 (.ref q :: y) G2 H2 (Ext.refl _ _) R2 (.io hq p2)
def reso (ρ : ENV) : List Ag → Option (List DV)
  | [] => some []
  | .inl d :: r => (reso ρ r).map (.sh d :: ·)
  | .inr i :: r => match ρ[i]? with
    | some (some (.ow m)) => (reso ρ r).map (.ow m :: ·)
    | _ => none
def slots : List Ag → List Nat
  | [] => []
  | .inl _ :: r => slots r
  | .inr i :: r => i :: slots r
def putB : List Ag → List M → ENV → Option ENV
  | [], [], ρ => some ρ
  | .inl _ :: r, ms, ρ => putB r ms ρ
  | .inr i :: r, m :: ms, ρ => putB r ms (ρ.set i (some (.ow m)))
  | _, _, _ => none
def nodupB : List Nat → Bool
  | [] => true
  | i :: r => !r.contains i && nodupB r
def stepR (F : List DV → FO) (as : List Ag) (ρ : ENV) : R DV := match (if nodupB (slots as) = true then reso ρ as else none) with
  | some ds => match F ds with
    | .ok v ms => match putB as ms ρ with | some ρ2 => .ok v ρ2 | none => .bot
    | .exc e ms => match putB as ms ρ with | some ρ2 => .exc e ρ2 | none => .bot
    | .bot => .bot
  | none => .bot
def PostV (K : PySem.W.Frag) (cc : Cc) (B G : Hp) (σ : St) (Q : V → Hp → Prop) (r : R DV) : Prop := match r with
  | .ok (.sh d) ρ' => ∀ x G' H', Ext B G G' → Rl K cc B ρ' σ G' H' → Rp K cc.C G' x d → Q x H'
  | .ok (.ow m) ρ' => ∀ p G' H', Ext B G G' → Rl K cc B ρ' σ G' H' → Own K cc.C B G' H' p m → NotAt ρ' σ p → Q (.ref p) H'
  | .exc e ρ' => ∀ cl dd G' H', Ext B G G' → Rl K cc B ρ' σ G' H' → ERp K cc.C G' e cl dd → cc.W cl dd σ H'
  | .bot => False
def onSh : DV → ENV → R D
  | .sh d, ρ => .ok d ρ
  | .ow _, _ => .bot
def onOw : DV → ENV → R M
  | .sh _, _ => .bot
  | .ow m, ρ => .ok m ρ
theorem PostV.sh {K : PySem.W.Frag} {cc : Cc} {B G : Hp} {σ : St} {Q : V → Hp → Prop} {r : R DV} (h : Post K cc (Rp K cc.C) B G σ Q (r.bind onSh)) : PostV K cc B G σ Q r := by
  cases r with
  | ok v ρ => cases v with
    | sh d => exact h
    | ow m => exact h.elim
  | exc e ρ => exact h
  | bot => exact h
theorem PostV.ow {K : PySem.W.Frag} {cc : Cc} {B G : Hp} {σ : St} {Q : V → Hp → Prop} {r : R DV} (h : PostF K cc B G σ Q (r.bind onOw)) : PostV K cc B G σ Q r := by
  cases r with
  | ok v ρ => cases v with
    | sh d => exact h.elim
    | ow m => exact h
  | exc e ρ => exact h
  | bot => exact h
def addrAt (σ : St) (i : Nat) : Option Addr := match σ[i]? with
  | some (some (V.ref p)) => some p
  | _ => none
def addrs (σ : St) (as : List Ag) : List Addr := (slots as).filterMap (addrAt σ)
theorem mem_addrs {σ : St} {as : List Ag} {p : Addr} : p ∈ addrs σ as ↔ ∃ i, i ∈ slots as ∧ σ[i]? = some (some (.ref p)) := by
  unfold addrs
  rw [List.mem_filterMap]
  constructor
  · rintro ⟨i, hi, e⟩
    refine ⟨i, hi, ?_⟩
    unfold addrAt at e
    split at e
    · cases e; assumption
    · cases e
  · rintro ⟨i, hi, e⟩
    exact ⟨i, hi, by unfold addrAt; rw [e]⟩
def keepB (H : Hp) (σ : St) (as : List Ag) : Hp := fun b => if b ∈ addrs σ as then none else H b
section
variable {K : PySem.W.Frag} {B G H G' H' : Hp} {ρ ρ2 : ENV} {σ : St}
theorem keepB_same : Same (keepB H σ as) H := fun b u e => by
  unfold keepB at e
  split at e
  · cases e
  · exact e
theorem keepB_in {p : Addr} (h : p ∈ addrs σ as) : keepB H σ as p = none := by unfold keepB; rw [if_pos h]
theorem keepB_out {p : Addr} (h : p ∉ addrs σ as) : keepB H σ as p = H p := by unfold keepB; rw [if_neg h]
theorem ar_of (R : Rl K cc B ρ σ G H) (B' : Hp) {vs : List V} {as : List Ag} (r : AgR K cc.C σ G vs as) : ∀ {ds : List DV}, (∀ p, (∃ i, i ∈ slots as ∧ σ[i]? = some (some (V.ref p))) → B' p = none) → reso ρ as = some ds → AR K cc.C B' G H vs ds := by
  induction r with
  | nil => intro ds _ e; cases e; exact .nil
  | @sh v d vs as h r ih =>
    intro ds hb e
    unfold reso at e
    cases hr : reso ρ as with
    | none => rw [hr] at e; cases e
    | some ds' => rw [hr] at e; cases e; exact AR.sh h (ih hb hr)
  | @io p i vs as h r ih =>
    intro ds hb e
    unfold reso at e
    split at e
    · rename_i m hm
      cases hr : reso ρ as with
      | none => rw [hr] at e; cases e
      | some ds' =>
        rw [hr] at e; cases e
        obtain ⟨p', h1, o⟩ := R.ow i m hm
        rw [h] at h1; cases h1
        exact AR.ow ⟨hb p ⟨i, List.mem_cons_self, h⟩, o.ng, o.at_⟩ (ih (fun p ⟨j, hj, q⟩ => hb p ⟨j, List.mem_cons_of_mem _ hj, q⟩) hr)
    · cases e
theorem slot_of {vs : List V} {as : List Ag} {ds : List DV} (r : AgR K cc.C σ G vs as) (e : reso ρ as = some ds) : ∀ {j : Nat} {m : M}, ds[j]? = some (.ow m) → ∃ i p, as[j]? = some (.inr i) ∧ i ∈ slots as ∧ ρ[i]? = some (some (.ow m)) ∧ vs[j]? = some (.ref p) ∧ σ[i]? = some (some (.ref p)) := by
  induction r generalizing ds with
  | nil => intro j m h; cases e; simp at h
  | @sh v d vs as h r ih =>
    intro j m hj
    unfold reso at e
    cases hr : reso ρ as with
    | none => rw [hr] at e; cases e
    | some ds' =>
      rw [hr] at e; cases e
      cases j with
      | zero => simp at hj
      | succ j =>
        obtain ⟨i, p, h1, h2, h3, h4, h5⟩ := ih hr (j := j) (m := m) (by simpa using hj)
        exact ⟨i, p, by simpa using h1, h2, h3, by simpa using h4, h5⟩
  | @io p i vs as h r ih =>
    intro j m hj
    unfold reso at e
    split at e
    · rename_i m0 hm
      cases hr : reso ρ as with
      | none => rw [hr] at e; cases e
      | some ds' =>
        rw [hr] at e; cases e
        cases j with
        | zero => simp at hj; subst hj; exact ⟨i, p, rfl, List.mem_cons_self, hm, rfl, h⟩
        | succ j =>
          obtain ⟨i', p', h1, h2, h3, h4, h5⟩ := ih hr (j := j) (m := m) (by simpa using hj)
          exact ⟨i', p', by simpa using h1, List.mem_cons_of_mem _ h2, h3, by simpa using h4, h5⟩
    · cases e
theorem slots_at : ∀ {as : List Ag} {j j' i : Nat}, nodupB (slots as) = true → as[j]? = some (.inr i) → as[j']? = some (.inr i) → j = j'
  | [], j, j', i, _, h, _ => by simp at h
  | .inl d :: r, j, j', i, hn, h, h' => by
    cases j with
    | zero => simp at h
    | succ j => cases j' with
      | zero => simp at h'
      | succ j' => rw [slots_at (as := r) (j := j) (j' := j') (i := i) hn (by simpa using h) (by simpa using h')]
  | .inr k :: r, j, j', i, hn, h, h' => by
    have hn' : (!(slots r).contains k && nodupB (slots r)) = true := hn
    rw [Bool.and_eq_true, Bool.not_eq_true'] at hn'
    have nk : ∀ j : Nat, r[j]? = some (.inr k) → False := fun j h => by
      have : ∀ (r : List Ag) (j : Nat), r[j]? = some (.inr k) → k ∈ slots r := by
        intro r
        induction r with
        | nil => intro j h; simp at h
        | cons a r ih =>
          intro j h
          cases j with
          | zero => simp at h; subst h; exact List.mem_cons_self
          | succ j =>
            have := ih j (by simpa using h)
            cases a with
            | inl d => exact this
            | inr i => exact List.mem_cons_of_mem _ this
      have := this r j h
      have := hn'.1
      simp at this
      exact this ‹_›
    cases j with
    | zero =>
      simp at h; subst h
      cases j' with
      | zero => rfl
      | succ j' => exact (nk j' (by simpa using h')).elim
    | succ j => cases j' with
      | zero => simp at h'; subst h'; exact (nk j (by simpa using h)).elim
      | succ j' => rw [slots_at (as := r) (j := j) (j' := j') (i := i) hn'.2 (by simpa using h) (by simpa using h')]
theorem put_ok {vs : List V} {as : List Ag} (r : AgR K cc.C σ G vs as) : ∀ {ds : List DV} {ms : List M} {ρ ρ2 ρs : ENV}, reso ρs as = some ds → Outs K cc.C B G' H' vs ds ms → putB as ms ρ = some ρ2 → nodupB (slots as) = true →
    ρ2.length = ρ.length ∧ (∀ i, i ∉ slots as → ρ2[i]? = ρ[i]?) ∧ ∀ i, i ∈ slots as → i < ρ.length → ∃ m p, ρ2[i]? = some (some (DV.ow m)) ∧ σ[i]? = some (some (V.ref p)) ∧ Own K cc.C B G' H' p m := by
  induction r with
  | nil =>
    intro ds ms ρ ρ2 ρs e o h hn
    cases e
    cases o
    cases h
    exact ⟨rfl, fun _ _ => rfl, fun i hi => by cases hi⟩
  | @sh v d vs as h r ih =>
    intro ds ms ρ ρ2 ρs e o hp hn
    unfold reso at e
    cases hr : reso ρs as with
    | none => rw [hr] at e; cases e
    | some ds' =>
      rw [hr] at e; cases e
      cases o with
      | sh o => exact ih hr o hp hn
  | @io p i vs as h r ih =>
    intro ds ms ρ ρ2 ρs e o hp hn
    have hn' : (!(slots as).contains i && nodupB (slots as)) = true := hn
    rw [Bool.and_eq_true, Bool.not_eq_true'] at hn'
    have ni : i ∉ slots as := fun z => by
      have := hn'.1
      simp at this
      exact this z
    unfold reso at e
    split at e
    · rename_i m0 hm
      cases hr : reso ρs as with
      | none => rw [hr] at e; cases e
      | some ds' =>
        rw [hr] at e; cases e
        cases o with
        | ow ho o =>
          rename_i m' ms'
          obtain ⟨h1, h2, h3⟩ := ih hr o (show putB as ms' (ρ.set i (some (.ow m'))) = some ρ2 from hp) hn'.2
          rw [List.length_set] at h1
          refine ⟨h1, fun j hj => ?_, fun j hj hl => ?_⟩
          · have h4 : j ≠ i := fun z => hj (by rw [z]; exact List.mem_cons_self)
            rw [h2 j fun z => hj (List.mem_cons_of_mem _ z), List.getElem?_set_ne (Ne.symm h4)]
          · by_cases q : j = i
            · subst q
              exact ⟨m', p, by rw [h2 j ni, List.getElem?_set_self hl], h, ho⟩
            · rcases List.mem_cons.mp hj with z | z
              · exact absurd z q
              · exact h3 j z (by rw [List.length_set]; exact hl)
    · cases e
theorem Rl.called (R : Rl K cc B ρ σ G H) {vs : List V} {as : List Ag} {ds : List DV} {ms : List M} (ag : AgR K cc.C σ G vs as) (he : reso ρ as = some ds) (hn : nodupB (slots as) = true) (hp : putB as ms ρ = some ρ2) (ho : ∀ i ∈ slots as, ∃ m, ρ[i]? = some (some (.ow m)))
    (ex : Ext (keepB H σ as) G G') (kp : Same (keepB H σ as) H') (gk : Same G' H') (os : Outs K cc.C (keepB H σ as) G' H' vs ds ms) : Ext B G G' ∧ Rl K cc B ρ2 σ G' H' := by
  have own : ∀ p, p ∈ addrs σ as → B p = none ∧ G p = none := fun p hp => by
    obtain ⟨i, hi, e⟩ := mem_addrs.mp hp
    obtain ⟨m, hm⟩ := ho i hi
    obtain ⟨p', h1, o⟩ := R.ow i m hm
    rw [e] at h1; cases h1
    exact ⟨o.nb, o.ng⟩
  have kb : ∀ b, keepB H σ as b = none → B b = none := fun b h => by
    by_cases q : b ∈ addrs σ as
    · exact (own b q).1
    · rw [keepB_out q] at h; exact R.bk.free h
  obtain ⟨h1, h2, h3⟩ := put_ok ag he os hp hn
  have old : ∀ {i : Nat} {m : M}, ρ2[i]? = some (some (.ow m)) → (i ∈ slots as ∧ ∃ m0, ρ[i]? = some (some (.ow m0))) ∨ (i ∉ slots as ∧ ρ[i]? = some (some (.ow m))) := fun {i m} e => by
    by_cases q : i ∈ slots as
    · exact .inl ⟨q, ho i q⟩
    · exact .inr ⟨q, by rw [← h2 i q]; exact e⟩
  refine ⟨⟨ex.gg, fun a u e => ?_⟩, ⟨fun b u e => ?_, gk, by rw [h1]; exact R.ln, fun i d e => ?_, fun i m e => ?_, fun i j m m' p e1 e2 e3 e4 => ?_, R.pa, R.kg.trans ex.gg⟩⟩
  · rcases ex.nb a u e with h | h
    · exact .inl h
    · exact .inr (kb a h)
  · refine kp b u ?_
    have q : b ∉ addrs σ as := fun z => by rw [(own b z).1] at e; cases e
    rw [keepB_out q]; exact R.bk b u e
  · by_cases q : i ∈ slots as
    · obtain ⟨m, hm⟩ := ho i q
      obtain ⟨m', p, h4, _⟩ := h3 i q (List.getElem?_eq_some_iff.mp hm).1
      rw [h4] at e; cases e
    · rw [h2 i q] at e
      obtain ⟨v, h4, h5⟩ := R.sh i d e
      exact ⟨v, h4, h5.mono ex.gg⟩
  · by_cases q : i ∈ slots as
    · obtain ⟨m0, hm⟩ := ho i q
      obtain ⟨m', p, h4, h5, h6⟩ := h3 i q (List.getElem?_eq_some_iff.mp hm).1
      rw [h4] at e; cases e
      exact ⟨p, h5, (own p (mem_addrs.mpr ⟨i, q, h5⟩)).1, h6.ng, h6.at_⟩
    · rw [h2 i q] at e
      obtain ⟨p, h4, o⟩ := R.ow i m e
      have np : p ∉ addrs σ as := fun z => by
        obtain ⟨j, hj, ej⟩ := mem_addrs.mp z
        obtain ⟨m0, hm⟩ := ho j hj
        exact q (by rw [R.df i j m m0 p e hm h4 ej]; exact hj)
      obtain ⟨x, hx, hm⟩ := o.at_
      refine ⟨p, h4, o.nb, ?_, x, kp p x (by rw [keepB_out np]; exact hx), hm.mono ex.gg⟩
      cases hg : G' p with
      | none => rfl
      | some u =>
        rcases ex.nb p u hg with h | h
        · rw [o.ng] at h; cases h
        · rw [keepB_out np, hx] at h; cases h
  · have g : ∀ {i : Nat} {m : M}, ρ2[i]? = some (some (.ow m)) → ∃ m0, ρ[i]? = some (some (.ow m0)) := fun {i m} e => by
      rcases old e with ⟨_, h⟩ | ⟨_, h⟩
      · exact h
      · exact ⟨m, h⟩
    obtain ⟨m1, q1⟩ := g e1
    obtain ⟨m2, q2⟩ := g e2
    exact R.df i j m1 m2 p q1 q2 e3 e4
theorem reso_own : ∀ {as : List Ag} {ds : List DV}, reso ρ as = some ds → ∀ i ∈ slots as, ∃ m, ρ[i]? = some (some (.ow m))
  | [], _, _, i, h => by cases h
  | .inl d :: r, ds, e, i, h => by
    unfold reso at e
    cases hr : reso ρ r with
    | none => rw [hr] at e; cases e
    | some ds' => exact reso_own hr i h
  | .inr k :: r, ds, e, i, h => by
    unfold reso at e
    split at e
    · rename_i m hm
      rcases List.mem_cons.mp h with z | z
      · subst z; exact ⟨m, hm⟩
      · cases hr : reso ρ r with
        | none => rw [hr] at e; cases e
        | some ds' => exact reso_own hr i z
    · cases e
theorem call_core (F : List DV → FO) {n : Nat} {Q : V → Hp → Prop} {vs : List V} {as : List Ag} (R : Rl K cc B ρ σ G H) (ag : AgR K cc.C σ G vs as) (hl : vs.length = n)
    (h : PostV K cc B G σ Q (stepR F as ρ)) : spF K cc.C n F vs H Q (WE cc.W σ) := by
  unfold stepR at h
  by_cases hn : nodupB (slots as) = true
  rotate_left
  · rw [if_neg hn] at h; exact h.elim
  rw [if_pos hn] at h
  cases he : reso ρ as with
  | none => rw [he] at h; exact h.elim
  | some ds => ?_
  rw [he] at h
  dsimp only at h
  have ho := reso_own he
  have knb : ∀ p, (∃ i, i ∈ slots as ∧ σ[i]? = some (some (.ref p))) → keepB H σ as p = none := fun p hp => keepB_in (mem_addrs.mpr hp)
  refine ⟨ds, keepB H σ as, G, hl, keepB_same, R.gk, ar_of R _ ag knb he, fun i j m m' p e1 e2 e3 e4 => ?_, ?_⟩
  · obtain ⟨i1, p1, a1, s1, r1, v1, g1⟩ := slot_of ag he e1
    obtain ⟨i2, p2, a2, s2, r2, v2, g2⟩ := slot_of ag he e2
    rw [v1] at e3; cases e3
    rw [v2] at e4; cases e4
    have := R.df i1 i2 m m' _ r1 r2 g1 g2
    subst this
    exact slots_at hn a1 a2
  · cases hF : F ds with
    | bot => rw [hF] at h; exact h
    | exc e ms =>
      rw [hF] at h
      dsimp only at h
      refine fun cl dd G' H' ex kp gk os er => ?_
      cases hp : putB as ms ρ with
      | none => rw [hp] at h; exact h.elim
      | some ρ2 =>
        rw [hp] at h
        obtain ⟨ex', R'⟩ := R.called ag he hn hp ho ex kp gk os
        exact h cl dd G' H' ex' R' er
    | ok v ms =>
      rw [hF] at h
      dsimp only at h
      refine fun x G' H' ex kp gk os hv => ?_
      cases hp : putB as ms ρ with
      | none => rw [hp] at h; exact h.elim
      | some ρ2 =>
        rw [hp] at h
        obtain ⟨ex', R'⟩ := R.called ag he hn hp ho ex kp gk os
        cases v with
        | sh d => exact h x G' H' ex' R' hv
        | ow m =>
          obtain ⟨p, rfl, o, nf⟩ := hv
          have nb := o.nb
          -- p is no slot's object
          have notArg : p ∉ addrs σ as := fun z => by
            obtain ⟨i, hi, e⟩ := mem_addrs.mp z
            have find : ∀ {vs : List V} {as : List Ag} {ds : List DV}, AgR K cc.C σ G vs as → reso ρ as = some ds → i ∈ slots as → ∃ (j : Nat) (m : M), ds[j]? = some (DV.ow m) ∧ vs[j]? = some (V.ref p) := by
              intro vs as ds r
              induction r generalizing ds with
              | nil => intro _ h; cases h
              | @sh v d vs as h r ih =>
                intro e2 h2
                unfold reso at e2
                cases hr : reso ρ as with
                | none => rw [hr] at e2; cases e2
                | some ds' =>
                  rw [hr] at e2; cases e2
                  obtain ⟨j, m, q1, q2⟩ := ih hr h2
                  exact ⟨j + 1, m, by simpa using q1, by simpa using q2⟩
              | @io p' i' vs as h r ih =>
                intro e2 h2
                unfold reso at e2
                split at e2
                · rename_i m0 hm
                  cases hr : reso ρ as with
                  | none => rw [hr] at e2; cases e2
                  | some ds' =>
                    rw [hr] at e2; cases e2
                    rcases List.mem_cons.mp h2 with z | z
                    · subst z
                      rw [e] at h; cases h
                      exact ⟨0, m0, rfl, rfl⟩
                    · obtain ⟨j, m, q1, q2⟩ := ih hr z
                      exact ⟨j + 1, m, by simpa using q1, by simpa using q2⟩
                · cases e2
            obtain ⟨j, m, q1, q2⟩ := find ag he hi
            exact nf j m q1 q2
          rw [keepB_out notArg] at nb
          refine h p G' H' ex' R' ⟨R.bk.free nb, o.ng, o.at_⟩ fun i m' e z => ?_
          obtain ⟨p', h1, o'⟩ := R'.ow i m' e
          rw [z] at h1; cases h1
          -- the slot i was owned ahead of the call, and its object stood there
          have : ∃ m0, ρ[i]? = some (some (.ow m0)) := by
            by_cases q : i ∈ slots as
            · exact ho i q
            · obtain ⟨_, h2, _⟩ := put_ok ag he os hp hn
              exact ⟨m', by rw [← h2 i q]; exact e⟩
          obtain ⟨m0, hm0⟩ := this
          obtain ⟨p2, h3, o2⟩ := R.ow i m0 hm0
          rw [z] at h3; cases h3
          obtain ⟨y, hy, _⟩ := o2.at_
          rw [nb] at hy; cases hy
end
structure Callee (X : Cx) (cc : Cc) (x : Str) (n : Nat) (F : List DV → FO) : Prop where
  ex : ∃ (f : Addr) (fd : FuncData) (ps : List Str) (k : Nat), ps.length = n ∧ FnOk X.prog X.w X.K X.mg X.base (L2.CX X.prog X.w) k f fd ps (spF X.K cc.C n F) ∧ Room k X.A ∧ X.mg x = some (.ref f) ∧ PySem.W.keepIn X.K (.ref f) = true ∧ Binds X.K fd ps []
def dCall (F : List DV → FO) (dr : ENV → R (List Ag)) : ENV → R D := fun ρ => ((dr ρ).bind (stepR F)).bind onSh
def fCall (F : List DV → FO) (dr : ENV → R (List Ag)) : ENV → R M := fun ρ => ((dr ρ).bind (stepR F)).bind onOw
theorem AgR.length {K : PySem.W.Frag} {C : Nat → Addr} {σ : St} {G : Hp} : ∀ {vs : List V} {as : List Ag}, AgR K C σ G vs as → vs.length = as.length
  | _, _, .nil => rfl
  | _, _, .sh _ r => congrArg (· + 1) r.length
  | _, _, .io _ r => congrArg (· + 1) r.length
def Many (n : Nat) (dr : ENV → R (List Ag)) : Prop := ∀ ρ as ρ1, dr ρ = .ok as ρ1 → as.length = n
theorem many_nil : Many 0 aNil := fun ρ as ρ1 e => by cases e; rfl
theorem many_val {n : Nat} (h : Many n dr) : Many (n + 1) (aVal da dr) := fun ρ as ρ1 e => by
  dsimp only [aVal] at e
  cases hd : da ρ with
  | ok d ρ2 =>
    rw [hd] at e
    dsimp only [R.bind] at e
    cases hr : dr ρ2 with
    | ok as' ρ3 => rw [hr] at e; cases e; exact congrArg (· + 1) (h _ _ _ hr)
    | exc _ _ => rw [hr] at e; cases e
    | bot => rw [hr] at e; cases e
  | exc _ _ => rw [hd] at e; cases e
  | bot => rw [hd] at e; cases e
theorem many_io {n i : Nat} (h : Many n dr) : Many (n + 1) (aIo i dr) := fun ρ as ρ1 e => by
  dsimp only [aIo] at e
  split at e
  · cases hr : dr ρ with
    | ok as' ρ3 => rw [hr] at e; cases e; exact congrArg (· + 1) (h _ _ _ hr)
    | exc _ _ => rw [hr] at e; cases e
    | bot => rw [hr] at e; cases e
  · cases e
variable {x : Str} {F : List DV → FO} {n : Nat}
theorem PostV.ext {K : PySem.W.Frag} {cc : Cc} {B G G1 : Hp} {σ : St} {Q : V → Hp → Prop} {r : R DV} (h : PostV K cc B G σ Q r) (x : Ext B G G1) : PostV K cc B G1 σ Q r := by
  cases r with
  | ok v ρ => cases v with
    | sh d => exact fun v G' H' e => h v G' H' (x.trans e)
    | ow m => exact fun v G' H' e => h v G' H' (x.trans e)
  | exc e ρ => exact fun cl dd G' H' e => h cl dd G' H' (x.trans e)
  | bot => exact h
theorem call_read {σ : St} {H : Hp} {Q : V → Hp → Prop} (hn : Many n dr) {B G : Hp} {ρ : ENV} (R0 : Rl X.K cc B ρ σ G H) (h : PostV X.K cc B G σ Q ((dr ρ).bind (stepR F))) : tCallS (spF X.K cc.C n F) (WE cc.W) (rAg X.K cc dr) σ H Q := by
  refine ⟨B, ρ, G, R0, ?_⟩
  cases hd : dr ρ with
  | exc e ρ1 => rw [hd] at h; exact h
  | bot => rw [hd] at h; exact h
  | ok as ρ1 =>
    rw [hd] at h
    intro vs G1 H1 e1 R1 ag
    exact call_core F R1 ag (ag.length.trans (hn ρ as ρ1 hd)) (PostV.ext h e1)
theorem pe_callR {e : Expr} {es : List Expr} (c : Callee X cc x n F) (tk : Takes X cc.W) (ha : DAg X cc (e :: es) dr) (hg : Gl X x)
    (hdb : (x == ("__debug__" : Str)) = false := by decide) (he : starEach (e :: es) X.env = (false, eval e X.env) :: starEach es X.env := by rfl) (hpl : (backTo pos (starEach es X.env)).any (·.1) = false := by rfl) :
    PE X (.Call (.Name x p) (e :: es) [] pos) (tCallS (spF X.K cc.C n F) (WE cc.W) (rAg X.K cc dr)) := by
  obtain ⟨f, fd, ps, k, hps, G, hr, hm, hk, hb⟩ := c.ex
  exact pe_callS G hr hg hm hk hb (fun σ => passAt tk σ) ha hdb he hpl
theorem de_call {e : Expr} {es : List Expr} (c : Callee X cc x n F) (tk : Takes X cc.W) (ha : DAg X cc (e :: es) dr) (hn : Many n dr) (hg : Gl X x := by rfl)
    (hdb : (x == ("__debug__" : Str)) = false := by decide) (he : starEach (e :: es) X.env = (false, eval e X.env) :: starEach es X.env := by rfl) (hpl : (backTo pos (starEach es X.env)).any (·.1) = false := by rfl) :
    DE X cc (.Call (.Name x p) (e :: es) [] pos) (dCall F dr) := PE.imp (pe_callR c tk ha hg hdb he hpl) fun σ H Q ⟨B, ρ, G, R0, h⟩ => call_read hn R0 (PostV.sh h)
theorem df_call {e : Expr} {es : List Expr} (c : Callee X cc x n F) (tk : Takes X cc.W) (ha : DAg X cc (e :: es) dr) (hn : Many n dr) (hg : Gl X x := by rfl)
    (hdb : (x == ("__debug__" : Str)) = false := by decide) (he : starEach (e :: es) X.env = (false, eval e X.env) :: starEach es X.env := by rfl) (hpl : (backTo pos (starEach es X.env)).any (·.1) = false := by rfl) :
    DF X cc (.Call (.Name x p) (e :: es) [] pos) (fCall F dr) := PE.imp (pe_callR c tk ha hg hdb he hpl) fun σ H Q ⟨B, ρ, G, R0, h⟩ => call_read hn R0 (PostV.ow h)
end
end Rf
set_option Elab.async false
set_option linter.all false
set_option maxRecDepth 100000
namespace Rf
open PySem PySem.Spec L2
section
variable {X : Cx} {cc : Cc} {pos p : Pos}
theorem pmk_own0 {C : Addr} {bmB : List Value} {B newId initId : String} {x : Str} (F : ExcBaseFacts B newId initId bmB) (q : PySem.W.excIn X.K C bmB newId = true) (gC : X.mg x = some (.ref C)) (kC : PySem.W.keepIn X.K (.ref C) = true) (r : Raises X (.ref C)) (hg : Gl X x)
    (hdb : (x == ("__debug__" : Str)) = false := by decide) : PMk X (.Call (.Name x p) [] [] pos) (fun _ H Q => Q (.ref C) none H) := by
  intro pins s σ H Q I h
  refine wpAny_Call_Name_kw (ld_glob I hg gC ?_ hdb)
  refine PySem.W.callWith_K0 I.kIn kC ?_
  obtain ⟨bm, N, nm, qn, bs, hdct, sn, sub, ab, col, dd, k0, k1, k2, k3, k5, mN, hC, hN, hni, T⟩ := exc_obj I.kIn q
  refine wpAny_call_exc_subT F T hC hN hni (fun h' e hm => ?_) (by show 0 ≤ sizeLine; exact Nat.zero_le _)
  exact mk_of I hm r h (I.hok.gone hm.new)
def sRaise (e : EX) : ENV → R Fl := fun ρ => .exc e ρ
theorem ds_raise0 {c : Nat} {e : Expr} (hc : X.calm = true) (tk : Takes X cc.W) (hm : PMk X e (fun _ H Q => Q (.ref (cc.C c)) none H)) : DS X cc (.Raise (some e) none pos) (sRaise ⟨c, []⟩) :=
  PS.imp (ps_raise hc tk hm) fun Dn σ H ⟨B, ρ, G, R0, h⟩ => h (.ref (cc.C c)) none σ G H (Ext.refl _ _) R0 ⟨rfl, .inl ⟨rfl, rfl⟩⟩
theorem Rl.toW {K : PySem.W.Frag} {B : Hp} {ρ : ENV} {σ : St} {G H : Hp} (r : Rl K cc B ρ σ G H) (W : WX) : Rl K { cc with W := W } B ρ σ G H := ⟨r.bk, r.gk, r.ln, r.sh, r.ow, r.df, r.pa, r.kg⟩
theorem Rl.ofW {K : PySem.W.Frag} {B : Hp} {ρ : ENV} {σ : St} {G H : Hp} {W : WX} (r : Rl K { cc with W := W } B ρ σ G H) : Rl K cc B ρ σ G H := ⟨r.bk, r.gk, r.ln, r.sh, r.ow, r.df, r.pa, r.kg⟩
abbrev Cc.quiet (cc : Cc) : Cc := { cc with W := fun _ _ _ _ => False }
theorem PostS.toW {K : PySem.W.Frag} {B G : Hp} {Dn : Ends} {r : R Fl} {W : WX} (h : PostS K cc B G Dn r) (hx : ∀ e ρ, r = .exc e ρ → ∀ cl dd σ' G' H', Ext B G G' → Rl K cc B ρ σ' G' H' → ERp K cc.C G' e cl dd → W cl dd σ' H') : PostS K { cc with W := W } B G Dn r := by
  cases r with
  | ok f ρ =>
    cases f with
    | nx => exact fun σ' G' H' e R => h σ' G' H' e R.ofW
    | bk => exact fun σ' G' H' e R => h σ' G' H' e R.ofW
    | ct => exact fun σ' G' H' e R => h σ' G' H' e R.ofW
    | ret v => cases v with
      | sh d => exact fun v σ' G' H' e R => h v σ' G' H' e R.ofW
      | ow m => exact fun v σ' G' H' e R => h v σ' G' H' e R.ofW
  | exc e ρ => exact fun cl dd σ' G' H' ex R => hx e ρ rfl cl dd σ' G' H' ex R.ofW
  | bot => exact h
def sTry (sub : Nat → Nat → Option Bool) (sb : ENV → R Fl) (c : Nat) (ss : ENV → R Fl) : ENV → R Fl := fun ρ => match sb ρ with
  | .exc e ρ1 => match sub e.c c with
    | some true => match ss ρ1 with
      | .exc _ _ => .bot
      | r => r
    | some false => .exc e ρ1
    | none => .bot
  | r => r
variable {sub : Nat → Nat → Option Bool}
theorem ds_try {x : Str} {c : Nat} {body suite : List Stmt} {b0 : Stmt} {np pos' : Pos} {sb ss : ENV → R Fl} (hs : X.stack = X.env :: X.outer) (hf : X.env.frame = some X.env.locals) (hc : Names X x (.ref (cc.C c))) (tk : Takes X cc.W)
    (hsub : ∀ i j b, sub i j = some b → PySem.W.exmOne X.K (.ref (cc.C i)) (.ref (cc.C j)) = some b)
    (hb : ∀ (W : WX) (pn : List (Addr × Obj)) (xe : Value → Shared → Prop), Takes (X.tr pn xe) W → PassesOwn (model X.prog X.w) X.A X.env xe → DSs (X.tr pn xe) { cc with W := W } body sb)
    (hsu : ∀ (a : Addr) (oe : Obj) (pn : List (Addr × Obj)), DSs (X.suite a ((a, oe) :: pn)) cc.quiet (b0 :: suite) ss) :
    DS X cc (.Try body [.ExceptHandler (some (.Name x np)) none (b0 :: suite) pos'] [] [] pos) (sTry sub sb c ss) := by
  refine PS.imp (ps_try_only (tb := fun W => rS X.K { cc with W := W } sb) (ts := fun a cls d => rS X.K cc.quiet ss) hs hf hc tk (fun W pn xe tk' po => hb W pn xe tk' po) (fun a oe cls d pn _ _ => hsu a oe pn)) fun Dn σ H ⟨B, ρ, G, R0, h⟩ => ⟨B, ρ, G, R0.toW _, ?_⟩
  unfold sTry at h
  cases hr : sb ρ with
  | bot => rw [hr] at h; exact h
  | ok f ρ1 =>
    rw [hr] at h
    exact PostS.toW h fun e ρ q => by cases q
  | exc e ρ1 =>
    rw [hr] at h
    dsimp only at h
    refine fun cl dd σ' G' H' ex R er => ?_
    cases hq : sub e.c c with
    | none => rw [hq] at h; exact h.elim
    | some b =>
      rw [hq] at h
      have hm := hsub _ _ _ hq
      obtain ⟨rfl, _⟩ := id er
      refine ⟨b, hm, fun hb a _ => ?_, fun hb => ?_⟩
      · subst hb
        dsimp only at h
        refine ⟨B, ρ1, G', R.ofW.toW _, ?_⟩
        have h := PostS.ext h ex
        cases hss : ss ρ1 with
        | bot => rw [hss] at h; exact h
        | exc _ _ => rw [hss] at h; exact h.elim
        | ok f ρ2 => rw [hss] at h; exact PostS.toW h fun e ρ q => by cases q
      · subst hb
        exact h _ _ _ _ _ ex R.ofW er
end
end Rf
set_option Elab.async false
set_option linter.all false
set_option maxRecDepth 100000
namespace Rf
open PySem PySem.Spec L2
section
variable {X : Cx} {cc : Cc} {e : Expr} {da db : ENV → R D} {pos p2 : Pos}
def dIxO (i : Nat) (dk : ENV → R D) : ENV → R D := fun ρ => match ρ[i]? with
  | some (some (.ow (.lst _))) => (dk ρ).bind fun k ρ1 => match k, ρ1[i]? with
    | .int k, some (some (.ow (.lst ds))) => R.of (atI ds k) ρ1
    | _, _ => .bot
  | _ => .bot
theorem de_ixO (i : Nat) {x : Str} {k : Expr} (hk : DE X cc k da) (hN : X.N[i]? = some x := by rfl) (hv : Vis X.env.scope x := by first | exact Or.inl rfl | exact Or.inr (Or.inl rfl) | exact Or.inr (Or.inr rfl)) (hd : (x == ("__debug__" : Str)) = false := by decide)
    (hcd : (x == ("__classdict__" : Str)) = false := by decide) (hs : PlainIx k := by intro _ _; rfl) : DE X cc (.Subscript (.Name x p2) k pos) (dIxO i da) := by
  refine PE.imp (pe_ix ix_list (pe_var hN hv hd hcd) hk hs) fun σ H Q ⟨B, ρ, G, R0, h⟩ => ?_
  unfold dIxO at h
  split at h
  rotate_left
  · exact h.elim
  rename_i ds0 e0
  obtain ⟨p, xs, hp, hx, _⟩ := R0.lstAt e0
  refine ⟨_, hp, B, ρ, G, R0, h.bind fun kd ρ1 G1 H1 kv e1 R1 p1 h1 => ?_⟩
  split at h1
  rotate_left
  · exact h1.elim
  rename_i k' ds e3
  cases p1 with
  | int k' =>
    obtain ⟨p', xs', hp', hx', rr⟩ := R1.lstAt e3
    rw [hp] at hp'; cases hp'
    cases ha : atI ds k' with
    | none => rw [ha] at h1; exact h1.elim
    | some d =>
      rw [ha] at h1
      obtain ⟨y, hy, py⟩ := rr.atI ha
      exact ⟨p, xs', k', y, rfl, rfl, .inl (.inl hx'), hy, h1 y G1 H1 (Ext.refl _ _) R1 py⟩
def dInO (neg : Bool) (da : ENV → R D) (i : Nat) : ENV → R D := fun ρ => (da ρ).bind fun x ρ1 => match ρ1[i]? with
  | some (some (.ow (.lst ds))) => R.of (vIn neg x (.lst ds)) ρ1
  | _ => .bot
theorem inO_core {neg : Bool} {i : Nat} : ∀ σ H Q, rE X.K cc (dInO neg da i) σ H Q → tOp (rInA X.K neg) (rE X.K cc da) (tVar i) σ H Q := by
  intro σ H Q ⟨B, ρ, G, R0, h⟩
  refine ⟨B, ρ, G, R0, h.bind fun d1 ρ1 G1 H1 x e1 R1 p1 h1 => ?_⟩
  split at h1
  rotate_left
  · exact h1.elim
  rename_i ds e
  obtain ⟨p, xs, hp, hx, rr⟩ := R1.lstAt e
  refine ⟨_, hp, ?_⟩
  dsimp only [vIn] at h1
  split at h1
  · rename_i hh
    exact .inl ⟨_, .list (toPyL ds), _, p1.dp R1.gk (SeqAt.canLay_of_shaped hh.1), .lst (.inl (.inl hx)) (rr.dp R1.gk hh.2), .inl rfl, hh.1, hh.2, h1 _ G1 H1 (Ext.refl _ _) R1 (.bl _)⟩
  · exact h1.elim
theorem dt_inO (neg : Bool) (i : Nat) {x : Str} {a : Expr} (hu : X.A.units + 65 < cLine) (ha : DE X cc a da) (hN : X.N[i]? = some x := by rfl) (hv : Vis X.env.scope x := by first | exact Or.inl rfl | exact Or.inr (Or.inl rfl) | exact Or.inr (Or.inr rfl)) (hd : (x == ("__debug__" : Str)) = false := by decide)
    (hcd : (x == ("__classdict__" : Str)) = false := by decide) : DT X cc (.Compare a [if neg then .NotIn else .In] [.Name x p2] pos) (dT (dInO neg da i)) := by
  cases neg with
  | false => exact PT.imp (pt_cmpR (op_inA hu) ha (pe_var hN hv hd hcd) rfl) (test_core inO_core)
  | true => exact PT.imp (pt_cmpR (op_notInA hu) ha (pe_var hN hv hd hcd) rfl) (test_core inO_core)
structure GC (K : PySem.W.Frag) (mg : Str → Option Value) (C : Nat → Addr) (x : Str) (d : D) : Prop where
  ex : ∃ u v, mg x = some u ∧ RelV v u ∧ ∀ G, Rp K C G v d
theorem de_glob {x : Str} {d : D} (g : GC X.K X.mg cc.C x d) (hg : Gl X x := by rfl) (hd : (x == ("__debug__" : Str)) = false := by decide) : DE X cc (.Name x pos) (dC d) := by
  obtain ⟨u, v, h1, h2, h3⟩ := g.ex
  exact de_k (pe_glob hg h1 h2 hd) h3
end
structure Df (K : PySem.W.Frag) (mg : Str → Option Value) (x : Str) (st : Stmt) (ps : List Str) : Prop where
  ex : ∃ f fd, Fun K x x st f fd ∧ mg x = some (.ref f) ∧ ∀ us : List Value, us.length = ps.length → bindArgs fd ⟨us, []⟩ = pure (ps.zip us)
theorem df_mk {K : PySem.W.Frag} {h : Heap} {mg : Str → Option Value} {x : Str} {st : Stmt} {ps : List Str} {f : Addr} {oc : Value} {od an : Option Addr} {osl : Array (Option Value)} {kV doc pm cdv ct : Value} (X : K.In h) (G : h.Ns mainGlobals mg)
    (a : PySem.W.nsIn K mainGlobals x = some (some (.ref f))) (l : K.lookup f = some ⟨oc, od, .func (PySem.W.fnOf x x (defArgs st) (defBody st) (defScope st) .none kV doc pm an cdv ct), osl⟩)
    (c : PySem.W.codeIn K cdv x = true) (k : PySem.W.keepIn K (.ref f) = true) (hb : ∀ (kV doc pm : Value) (an : Option Addr) (cdv ct : Value) (us : List Value), us.length = ps.length → bindArgs (PySem.W.fnOf x x (defArgs st) (defBody st) (defScope st) .none kV doc pm an cdv ct) ⟨us, []⟩ = pure (ps.zip us)) : Df K mg x st ps := by
  have F := fun_mk (st := st) l c k
  exact ⟨f, _, F, PySem.W.mg_of X G a, fun us hl => hb _ _ _ _ _ _ us hl⟩
structure Fk (P : Program) (w : World) (K : PySem.W.Frag) (mg : Str → Option Value) (base : Heap) (C : Nat → Addr) (x : Str) (n k : Nat) (F : List DV → FO) : Prop where
  ex : ∃ f fd ps, ps.length = n ∧ FnOk P w K mg base (L2.CX P w) k f fd ps (spF K C n F) ∧ mg x = some (.ref f) ∧ PySem.W.keepIn K (.ref f) = true ∧ Binds K fd ps []
theorem Fk.mono {P : Program} {w : World} {K : PySem.W.Frag} {mg : Str → Option Value} {base : Heap} {C : Nat → Addr} {x : Str} {n k k' : Nat} {F : List DV → FO} (h : Fk P w K mg base C x n k F) (hk : k ≤ k') : Fk P w K mg base C x n k' F := by
  obtain ⟨f, fd, ps, h1, h2, h3⟩ := h.ex
  exact ⟨f, fd, ps, h1, h2.mono hk, h3⟩
theorem Fk.callee {X : Cx} {cc : Cc} {x : Str} {n k : Nat} {F : List DV → FO} (h : Fk X.prog X.w X.K X.mg X.base cc.C x n k F) (hr : Room k X.A) : Callee X cc x n F := by
  obtain ⟨f, fd, ps, h1, h2, h3, h4, h5⟩ := h.ex
  exact ⟨f, fd, ps, k, h1, h2, hr, h3, h4, h5⟩
section
variable {P : Program} {w : World} {K : PySem.W.Frag} {mg : Str → Option Value} {base : Heap} {C : Nat → Addr}
theorem fk_of {x : Str} {st : Stmt} {N ps : List Str} {k : Nat} (d : Df K mg x st ps) (S : FnScope N ps (defScope st)) (pr : List Nat) {den : ENV → R Fl} (hlen : ps.length ≤ N.length)
    (hb : ∀ (f : Addr) (cdv : Value) (A : Around) (outer : List Env) (s : Shared) (H : Hp) (E : XK) (ad : Nat → Addr), Room k (A.deeper (PyProof.Rows.envOfC x (defScope st) s.heap.objs.size f cdv)) →
      DSs (cxOf (L2.CX P w) P w K mg base N x (defScope st) f cdv A outer s H E) ⟨C, fun cl d _ H => E cl d H, pr, ad, fun _ => none⟩ (defBody st) den) : Fk P w K mg base C x ps.length (k + 1) (runF pr N.length den) := by
  obtain ⟨f, fd, F, hm, hbd⟩ := d.ex
  exact ⟨f, fd, ps, rfl, fn_ok F S pr hlen (hb f), hm, F.kp, .all hbd⟩
noncomputable def Df.f {x : Str} {st : Stmt} {ps : List Str} (d : Df K mg x st ps) : Addr := d.ex.choose
noncomputable def Df.fd {x : Str} {st : Stmt} {ps : List Str} (d : Df K mg x st ps) : FuncData := d.ex.choose_spec.choose
theorem fnok_of {x : Str} {st : Stmt} {N ps : List Str} {k : Nat} (d : Df K mg x st ps) (S : FnScope N ps (defScope st)) (pr : List Nat) {den : ENV → R Fl} (hlen : ps.length ≤ N.length)
    (hb : ∀ (f : Addr) (cdv : Value) (A : Around) (outer : List Env) (s : Shared) (H : Hp) (E : XK) (ad : Nat → Addr), Room k (A.deeper (PyProof.Rows.envOfC x (defScope st) s.heap.objs.size f cdv)) →
      DSs (cxOf (L2.CX P w) P w K mg base N x (defScope st) f cdv A outer s H E) ⟨C, fun cl d _ H => E cl d H, pr, ad, fun _ => none⟩ (defBody st) den) : FnOk P w K mg base (L2.CX P w) (k + 1) d.f d.fd ps (spF K C ps.length (runF pr N.length den)) :=
  fn_ok d.ex.choose_spec.choose_spec.1 S pr hlen (hb d.f)
theorem hu65 {k : Nat} {A : Around} (hr : Room k A) : A.units + 65 < cLine := by have := hr.un; omega
end
end Rf
set_option Elab.async false
set_option linter.all false
set_option maxRecDepth 100000
namespace Rf
open PySem PySem.Spec L2
structure ExF (K : PySem.W.Frag) (mg : Str → Option Value) (c : Addr) (x : Str) : Prop where
  q : PySem.W.excIn K c PySem.HandSPX.veTail "ValueError.__new__" = true
  gC : mg x = some (.ref c)
  kC : PySem.W.keepIn K (.ref c) = true
  bP : PySem.W.subIn K (.ref c) (.type "BaseException") = some true
  tP : PySem.W.typeIn K (.ref c) = some (.type "type")
theorem ExF.pmk {X : Cx} {c : Addr} {x : Str} {p pos : Pos} (h : ExF X.K X.mg c x) (hg : Gl X x) (hd : (x == ("__debug__" : Str)) = false := by decide) : PMk X (.Call (.Name x p) [] [] pos) (fun _ H Q => Q (.ref c) none H) :=
  pmk_own0 PySem.F.excBase_ValueError h.q h.gC h.kC (raises_own h.bP h.tP) hg hd
theorem ExF.names {X : Cx} {c : Addr} {x : Str} (h : ExF X.K X.mg c x) (hg : Gl X x) (hd : (x == ("__debug__" : Str)) = false := by decide) : Names X x (.ref c) := ⟨hg, hd, .inl h.gC⟩
theorem exm_at {K : PySem.W.Frag} {S T : Addr} {b : Bool} (h1 : PySem.W.subIn K (.ref T) (.type "BaseException") = some true) (h2 : PySem.W.isClsIn K T = true) (h3 : PySem.W.typeIn K (.ref T) = some (.type "type")) (h4 : PySem.W.subIn K (.ref S) (.ref T) = some b) :
    PySem.W.exmOne K (.ref S) (.ref T) = some b := by
  have e1 : (PySem.W.subIn K (.ref T) (.type "BaseException") == some true) = true := by rw [h1] <;> rfl
  have e2 : ((PySem.W.clsIn K T).isSome && PySem.W.typeIn K (.ref T) == some (.type "type")) = true := by
    have h2' : (PySem.W.clsIn K T).isSome = true := h2
    rw [h2', h3] <;> rfl
  show (if (PySem.W.subIn K (.ref T) (.type "BaseException") == some true) = true then (if ((PySem.W.clsIn K T).isSome && PySem.W.typeIn K (.ref T) == some (.type "type")) = true then PySem.W.subIn K (.ref S) (.ref T) else none) else none) = some b
  rw [if_pos e1, if_pos e2]
  exact h4
def spScript (K : PySem.W.Frag) : Sp := fun vs H Q _ => ∃ (a : Addr) (ns : List Int), vs = [.ref a] ∧ SqL K H a (ns.map V.int) ∧ ns.length ≤ 63 ∧ ∀ H', Q (.bl true) H'
theorem rpl_ints {K : PySem.W.Frag} {C : Nat → Addr} {G : Hp} : ∀ ns : List Int, RpL K C G (ns.map V.int) (ns.map D.int)
  | [] => .nil
  | n :: ns => .cons (.int n) (rpl_ints ns)
theorem script_imp {K : PySem.W.Frag} {C : Nat → Addr} {F : List DV → FO} (ht : ∀ ns : List Int, ns.length ≤ 63 → F [.sh (.scr (ns.map D.int))] = .ok (.sh (.bl true)) []) : ∀ vs H Q E, spScript K vs H Q E → spF K C 1 F vs H Q E := by
  rintro vs H Q E ⟨a, ns, rfl, hS, hl, k⟩
  refine ⟨[.sh (.scr (ns.map D.int))], H, H, rfl, Same.refl H, Same.refl H, .sh (.scr hS (rpl_ints ns)) .nil, fun i j m m' p e1 => ?_, ?_⟩
  · cases i with
    | zero => simp at e1
    | succ i => simp at e1
  · rw [ht ns hl]
    intro x G' H' ex sb sg os hv
    cases hv
    exact k H'
end Rf
set_option Elab.async false
set_option linter.all false
set_option maxRecDepth 100000
set_option maxHeartbeats 2000000
namespace Rf
open PySem PySem.Spec L2 PyProof.Rows
structure BaseI (K : PySem.W.Frag) (mg : Str → Option Value) (Nm : Str) : Prop where
  ex : ∃ (D : Addr) (mc : Value), mg Nm = some (.ref D) ∧ PySem.W.specialIn K (.ref D) "__getattribute__" = some (some (.builtin "type.__getattribute__")) ∧ PySem.W.readsIn K D mc = true ∧
    PySem.W.findCls K (.ref D) mc "__init__" = some (.val (.builtin "ValueError.__init__"))
theorem pe_baseinit {X : Cx} {Nm : Str} {e : Expr} {es : List Expr} {ta : TA} {p1 p2 pos : Pos} {pl : Sem Bool} (b : BaseI X.K X.mg Nm) (hg : Gl X Nm) (ha : PA X (e :: es) ta)
    (hc : eval (.Call (.Attribute (.Name Nm p1) "__init__" p2) (e :: es) [] pos) X.env = (eval (.Name Nm p1) X.env >>= fun ov => standAt p2.atName >>= fun _ => holding [ov] (getMethod ov "__init__" pl) >>= fun fx =>
      callWith pos fx.1 fx.2 (backTo pos (starEach (e :: es) X.env)) (backToKw pos (keywordEach [] X.env))) := by rfl)
    (he : starEach (e :: es) X.env = (false, eval e X.env) :: starEach es X.env := by rfl) (hpl : (backTo pos (starEach es X.env)).any (·.1) = false := by rfl) (hdb : (Nm == ("__debug__" : Str)) = false := by decide) :
    PE X (.Call (.Attribute (.Name Nm p1) "__init__" p2) (e :: es) [] pos) (tVeI X.K ta) := by
  obtain ⟨D, mc, hm, ga, hr, vV⟩ := b.ex
  constructor
  intro pi s σ H Q I h
  refine PySem.W.methodCall_KW (ld_glob I hg hm (PySem.W.method_cls I.kIn ga (PySem.W.cls_value I.kIn hr vV (by decide +kernel) ?_)) hdb) hc
  show wpAny _ _ (callWith pos (.builtin "ValueError.__init__") [] (backTo pos (starEach (e :: es) X.env)) []) _ _ _
  refine PyProof.Rows.callWith_method1 (thn (ha.run pos pi _ σ H _ (I.tok _) h) fun us s1 x => ?_) he hpl
  obtain ⟨vs, H1, I1, r1, a, C, ws, rfl, hl, T, ea, q⟩ := x
  cases r1 with
  | @cons _ u0 _ ur ra rw' =>
    cases (show u0 = Value.ref a from ra)
    have hz : ur.length ≤ sizeLine := by
      have := Paired.length rw'
      rw [sizeLine_eq]; omega
    exact oinit_ok T I1 ea hz fun s' J => ⟨.non, H1, J, rfl, q⟩
def spI (C : Addr) (fs : List Str) : Sp := fun vs H Q _ => ∃ (a : Addr) (us : List V), vs = .ref a :: us ∧ us.length = fs.length ∧ H a = some (exo a C none) ∧
  ∀ (dx : Addr) (H' : Hp), H dx = none → dx ≠ a → H' a = some (exo a C (some dx)) → H' dx = some (exd dx (fs.zip us).reverse) → (∀ b, b ≠ a → b ≠ dx → H' b = H b) → Q .non H'
structure ExI (P : Program) (w : World) (K : PySem.W.Frag) (mg : Str → Option Value) (base : Heap) (C : Addr) (x : Str) (fs : List Str) (k : Nat) : Prop where
  gC : mg x = some (.ref C)
  cl : OexC K C
  ex : ∃ (fI : Addr) (fd : FuncData) (ps : List Str), PySem.W.findIn K (.ref C) "__init__" = some (some (.ref fI)) ∧ PySem.W.typeIn K (.ref fI) = some (.type "function") ∧ FnOk P w K mg base CX0 k fI fd ps (spI C fs) ∧ Binds K fd ps []
theorem RpF.zip {K : PySem.W.Frag} {C : Nat → Addr} {G : Hp} : ∀ (fs : List Str) {vs : List V} {ds : List D}, RpL K C G vs ds → RpF K C G (fs.zip vs) (fs.zip ds)
  | [], _, _, _ => by simp only [List.zip_nil_left]; exact .nil
  | _ :: _, _, _, .nil => by simp only [List.zip_nil_right]; exact .nil
  | _ :: fs, _, _, .cons h r => .cons h (RpF.zip fs r)
theorem RpF.app {K : PySem.W.Frag} {C : Nat → Addr} {G : Hp} : ∀ {a : List (Str × V)} {b : List (Str × D)} {a' : List (Str × V)} {b' : List (Str × D)}, RpF K C G a b → RpF K C G a' b' → RpF K C G (a ++ a') (b ++ b')
  | _, _, _, _, .nil, r => r
  | _, _, _, _, .cons h q, r => .cons h (q.app r)
theorem RpF.rev {K : PySem.W.Frag} {C : Nat → Addr} {G : Hp} : ∀ {a : List (Str × V)} {b : List (Str × D)}, RpF K C G a b → RpF K C G a.reverse b.reverse
  | _, _, .nil => .nil
  | _, _, .cons h r => by
    simp only [List.reverse_cons]
    exact r.rev.app (.cons h .nil)
def sRaiseF (c : Nat) (fs : List Str) (dr : ENV → R (List D)) : ENV → R Fl := fun ρ => (dr ρ).bind fun ds ρ1 => if ds.length = fs.length ∧ ds.length ≤ 1000 then .exc ⟨c, (fs.zip ds).reverse⟩ ρ1 else .bot
theorem ds_raiseF {X : Cx} {cc : Cc} {x : Str} {c : Nat} {fs : List Str} {k : Nat} {e : Expr} {es : List Expr} {dr : ENV → R (List D)} {p p2 pos : Pos} (hc : X.calm = true) (tk : Takes X cc.W) (T : ExI X.prog X.w X.K X.mg X.base (cc.C c) x fs k) (hr : Room (k + 1) X.A) (hg : Gl X x)
    (rs : Raises X (.ref (cc.C c))) (ha : DA X cc (e :: es) dr) (hdb : (x == ("__debug__" : Str)) = false := by decide) (he : starEach (e :: es) X.env = (false, eval e X.env) :: starEach es X.env := by rfl) (hpl : (backTo p2 (starEach es X.env)).any (·.1) = false := by rfl) :
    DS X cc (.Raise (some (.Call (.Name x p) (e :: es) [] p2)) none pos) (sRaiseF c fs dr) := by
  obtain ⟨fI, fd, ps, iC, tI, F1, hb⟩ := T.ex
  refine PS.imp (ps_raise hc tk (pmk_oex (dvs := []) T.cl iC tI F1 hr hb .nil pass0 hg T.gC ha hdb he hpl)) fun Dn σ H ⟨B, ρ, G, R0, h⟩ => ⟨B, ρ, G, R0, h.bind fun ds ρ1 G1 H1 vs e1 R1 p1 q1 => ?_⟩
  by_cases hd : ds.length = fs.length ∧ ds.length ≤ 1000
  · rw [if_pos hd] at q1
    have hvl := p1.length
    refine ⟨by omega, fun a hna => ⟨a, vs, by rw [List.append_nil], by omega, upd_same, fun dx H' n1 ne h1 h2 oth => ⟨rfl, dx, _, h1, h2, ?_, ?_⟩⟩⟩
    · rw [upd_ne ne] at n1; exact n1
    · have n2 : H1 dx = none := by rw [upd_ne ne] at n1; exact n1
      have same : upd (del H' a) dx (.xd (fs.zip vs).reverse) = upd H1 dx (.xd (fs.zip vs).reverse) := by
        funext b
        by_cases hb : b = dx
        · subst hb; rw [upd_same, upd_same]
        · rw [upd_ne hb, upd_ne hb]
          by_cases hba : b = a
          · subst hba; rw [del_same, hna]
          · rw [del_ne hba, oth b hba hb, upd_ne hba]
      rw [same]
      have g := Grow.new (o := .xd (fs.zip vs).reverse) R1.gk n2
      exact q1 _ _ σ _ _ (g.ext R1.bk) (R1.grow g) ⟨rfl, .inr ⟨dx, _, rfl, upd_same, ((RpF.zip fs (p1.mono g.gg)).rev)⟩⟩
  · rw [if_neg hd] at q1
    exact q1.elim
section
variable {K : PySem.W.Frag} {C : Addr} {f1 f2 : Str} {N : List Str} {vs : List V} {H : Hp} {Q : VK} {E : XK}
theorem spI_len {fs : List Str} (h : spI C fs vs H Q E) : vs.length = fs.length + 1 := by
  obtain ⟨a, us, rfl, hl, _⟩ := h
  rw [List.length_cons, hl]
def tBase (K : PySem.W.Frag) (m : Str) (t : TS) : TS := tSeq (tDrop (tVeI K (tCons (tVar 0) (tCons (tC (.str m)) tNil)))) t
theorem rd_base {m : Str} {t : TS} {D : Ends} {σ : L2.St} {a : Addr} (T : OexC K C) (e0 : σ[0]? = some (some (.ref a))) (ea : H a = some (exo a C none)) (h : t D σ H) : tBase K m t D σ H :=
  ⟨.ref a, e0, a, C, [.str m], rfl, (by show 1 ≤ 1000; decide), T, ea, h⟩
def tF2 (K : PySem.W.Frag) (f1 f2 : Str) : TS := tSeq (tOst K f1 (tVar 0) (tVar 1)) (tSeq (tOst K f2 (tVar 0) (tVar 2)) tNext)
theorem rd_f2 {a : Addr} {y z : V} (T : OexC K C) (h1 : PySem.W.findIn K (.ref C) f1 = some none) (h2 : PySem.W.findIn K (.ref C) f2 = some none) (ea : H a = some (exo a C none))
    (q : ∀ (dx : Addr) (H' : Hp), H dx = none → dx ≠ a → H' a = some (exo a C (some dx)) → H' dx = some (exd dx ([f1, f2].zip [y, z]).reverse) → (∀ b, b ≠ a → b ≠ dx → H' b = H b) → Q .non H') :
    tF2 K f1 f2 { nx := fun _ H' => Q .non H', rt := Q } [some (.ref a), some y, some z] H :=
  ⟨y, rfl, .ref a, rfl, a, C, rfl, T, h1, .inl ⟨ea, fun dx n ne => ⟨z, rfl, .ref a, rfl, a, C, rfl, T, h2, .inr ⟨dx, [(f1, y)], upd_same, by rw [upd_ne ne, upd_same], (by show 1 ≤ 900; decide), q dx _ n ne (by rw [upd_ne ne.symm, upd_same]) (by rw [upd_same]; rfl) fun b hb hd => by rw [upd_ne hd, upd_ne hb, upd_ne hd]⟩⟩⟩⟩
theorem init_b2 {m : Str} (T : OexC K C) (h1 : PySem.W.findIn K (.ref C) f1 = some none) (h2 : PySem.W.findIn K (.ref C) f2 = some none) (hN : N.length = 3) (h : spI C [f1, f2] vs H Q E) : tBase K m (tF2 K f1 f2) { nx := fun _ H' => Q .non H', rt := Q } (L2.start N vs) H := by
  obtain ⟨a, us, rfl, hl, ea, q⟩ := h
  match us, hl, N, hN with
  | [y, z], _, [_, _, _], _ => exact rd_base T rfl ea (rd_f2 T h1 h2 ea q)
end
end Rf
set_option Elab.async false
set_option linter.all false
set_option maxRecDepth 100000
namespace Rf
open PySem PySem.Spec L2 PyProof.Rows
def Cc.hold (cc : Cc) (i : Nat) (a : Addr) (G0 : Hp) : Cc := ⟨cc.C, fun _ _ _ _ => False, i :: cc.pr, fun j => if j = i then a else cc.ad j, G0⟩
section
variable {K : PySem.W.Frag} {cc : Cc} {B : Hp} {ρ : ENV} {σ : L2.St} {G H G0 : Hp} {i : Nat} {a : Addr}
theorem setN_some {ρ : ENV} {i j : Nat} {x : DV} (h : (ρ.set i none)[j]? = some (some x)) : j ≠ i ∧ ρ[j]? = some (some x) := by
  by_cases e : j = i
  · subst e
    by_cases hl : j < ρ.length
    · rw [List.getElem?_set_self hl] at h; cases h
    · rw [List.getElem?_eq_none (by rw [List.length_set]; omega)] at h; cases h
  · rw [List.getElem?_set_ne (Ne.symm e)] at h; exact ⟨e, h⟩
theorem Rl.enter (r : Rl K cc B ρ σ G H) (hi : i < ρ.length) : Rl K (cc.hold i a G) B (ρ.set i none) (σ.set i (some (.ref a))) G H := by
  refine ⟨r.bk, r.gk, by rw [List.length_set, List.length_set]; exact r.ln, fun j d h => ?_, fun j m h => ?_, fun j k m m' p h1 h2 h3 h4 => ?_, fun j hj => ?_, Same.refl G⟩
  · obtain ⟨ne, h⟩ := setN_some h
    obtain ⟨v, h1, h2⟩ := r.sh j d h
    exact ⟨v, by rw [List.getElem?_set_ne (Ne.symm ne)]; exact h1, h2⟩
  · obtain ⟨ne, h⟩ := setN_some h
    obtain ⟨v, h1, h2⟩ := r.ow j m h
    exact ⟨v, by rw [List.getElem?_set_ne (Ne.symm ne)]; exact h1, h2⟩
  · obtain ⟨n1, h1⟩ := setN_some h1
    obtain ⟨n2, h2⟩ := setN_some h2
    rw [List.getElem?_set_ne (Ne.symm n1)] at h3
    rw [List.getElem?_set_ne (Ne.symm n2)] at h4
    exact r.df j k m m' p h1 h2 h3 h4
  · by_cases e : j = i
    · subst e
      rw [List.getElem?_set_self (by rw [r.ln]; exact hi)]
      show _ = some (some (V.ref (if j = j then a else cc.ad j)))
      rw [if_pos rfl]
    · rw [List.getElem?_set_ne (Ne.symm e)]
      show _ = some (some (V.ref (if j = i then a else cc.ad j)))
      rw [if_neg e]
      exact r.pa j ((List.mem_cons.mp hj).resolve_left e)
theorem Rl.leave (r : Rl K (cc.hold i a G0) B ρ σ G H) (hp : i ∉ cc.pr) (hk : Same cc.kb G0) : Rl K cc B (ρ.set i none) (σ.set i none) G H := by
  refine ⟨r.bk, r.gk, by rw [List.length_set, List.length_set]; exact r.ln, fun j d h => ?_, fun j m h => ?_, fun j k m m' p h1 h2 h3 h4 => ?_, fun j hj => ?_, hk.trans r.kg⟩
  · obtain ⟨ne, h⟩ := setN_some h
    obtain ⟨v, h1, h2⟩ := r.sh j d h
    exact ⟨v, by rw [List.getElem?_set_ne (Ne.symm ne)]; exact h1, h2⟩
  · obtain ⟨ne, h⟩ := setN_some h
    obtain ⟨v, h1, h2⟩ := r.ow j m h
    exact ⟨v, by rw [List.getElem?_set_ne (Ne.symm ne)]; exact h1, h2⟩
  · obtain ⟨n1, h1⟩ := setN_some h1
    obtain ⟨n2, h2⟩ := setN_some h2
    rw [List.getElem?_set_ne (Ne.symm n1)] at h3
    rw [List.getElem?_set_ne (Ne.symm n2)] at h4
    exact r.df j k m m' p h1 h2 h3 h4
  · have e : j ≠ i := fun z => hp (z ▸ hj)
    have q := r.pa j (List.mem_cons_of_mem _ hj)
    rw [List.getElem?_set_ne (Ne.symm e), q]
    show some (some (V.ref (if j = i then a else cc.ad j))) = _
    rw [if_neg e]
theorem PostS.leave {D : Ends} {f : Fl} {ρ2 : ENV} (h : PostS K cc B G0 D (.ok f (ρ2.set i none))) (hp : i ∉ cc.pr) (hk : Same cc.kb G0) :
    PostS K (cc.hold i a G0) B G0 { nx := fun σ' H' => D.nx (σ'.set i none) H', rt := D.rt, bk := fun σ' H' => D.bk (σ'.set i none) H', ct := fun σ' H' => D.ct (σ'.set i none) H' } (.ok f ρ2) := by
  cases f with
  | nx => exact fun σ' G' H' e R => h _ G' H' e (R.leave hp hk)
  | bk => exact fun σ' G' H' e R => h _ G' H' e (R.leave hp hk)
  | ct => exact fun σ' G' H' e R => h _ G' H' e (R.leave hp hk)
  | ret v => cases v with
    | sh d => exact fun v σ' G' H' e R p => h v _ G' H' e (R.leave hp hk) p
    | ow m => exact fun p σ' G' H' e R o n => h p _ G' H' e (R.leave hp hk) o fun j m' hj hs => n j m' (setN_some hj).2 (by rw [List.getElem?_set_ne (Ne.symm (setN_some hj).1)] at hs; exact hs)
end
def sTryAs (sub : Nat → Nat → Option Bool) (sb : ENV → R Fl) (c i : Nat) (ss : EX → ENV → R Fl) : ENV → R Fl := fun ρ => match sb ρ with
  | .exc e ρ1 => match sub e.c c with
    | some true => if i < ρ1.length then match ss e (ρ1.set i none) with
      | .ok f ρ2 => .ok f (ρ2.set i none)
      | _ => .bot else .bot
    | some false => .exc e ρ1
    | none => .bot
  | r => r
theorem pss_ex {X : Cx} {st : List Stmt} {α : Type} {p : α → Prop} {t : α → TS} (h : ∀ x, p x → PSs X st (t x)) : PSs X st (fun D σ H => ∃ x, p x ∧ t x D σ H) := by
  constructor
  intro pi s σ H D I ⟨x, hx, q⟩
  exact (h x hx).run pi s σ H D I q
section
variable {X : Cx} {cc : Cc} {sub : Nat → Nat → Option Bool} {pos : Pos}
theorem ds_try_as {x n : Str} {c i : Nat} {body suite : List Stmt} {b0 : Stmt} {np pos' : Pos} {sb : ENV → R Fl} {ss : EX → ENV → R Fl} (hs : X.stack = X.env :: X.outer) (hf : X.env.frame = some X.env.locals) (hN : X.N.Nodup) (hc : Names X x (.ref (cc.C c))) (tk : Takes X cc.W)
    (hsub : ∀ i j b, sub i j = some b → PySem.W.exmOne X.K (.ref (cc.C i)) (.ref (cc.C j)) = some b)
    (hb : ∀ (W : WX) (pn : List (Addr × Obj)) (xe : Value → Shared → Prop), Takes (X.tr pn xe) W → PassesOwn (model X.prog X.w) X.A X.env xe → DSs (X.tr pn xe) { cc with W := W } body sb)
    (hsu : ∀ (e : EX) (a : Addr) (oe : Obj) (d : Option Addr) (pn : List (Addr × Obj)) (G0 : Hp), Zc (.ref (cc.C e.c)) d oe → (∃ vs, oe.data = .fields vs) → ERp X.K cc.C G0 e (.ref (cc.C e.c)) d → DSs (X.suite a ((a, oe) :: pn)) (cc.hold i a G0) (b0 :: suite) (ss e))
    (hi : X.N[i]? = some n := by rfl) (hln : X.env.kindOf n = some .local := by rfl) (hp : cc.pr.contains i = false := by rfl) :
    DS X cc (.Try body [.ExceptHandler (some (.Name x np)) (some n) (b0 :: suite) pos'] [] [] pos) (sTryAs sub sb c i ss) := by
  have hpn : i ∉ cc.pr := Rf.np hp
  refine PS.imp (ps_try_as (tb := fun W => rS X.K { cc with W := W } sb) (ts := fun a cls d D σ H => ∃ z : EX × Hp, (cls = .ref (cc.C z.1.c) ∧ ERp X.K cc.C z.2 z.1 cls d) ∧ rS X.K (cc.hold i a z.2) (ss z.1) D σ H) hs hf hN hi hln hc tk (fun W pn xe tk' po => hb W pn xe tk' po)
    (fun a oe cls d pn hz hfl => pss_ex fun z hzz => by obtain ⟨rfl, er⟩ := hzz; exact hsu z.1 a oe d pn z.2 hz hfl er)) fun Dn σ H ⟨B, ρ, G, R0, h⟩ => ⟨B, ρ, G, R0.toW _, ?_⟩
  unfold sTryAs at h
  cases hr : sb ρ with
  | bot => rw [hr] at h; exact h
  | ok f ρ1 =>
    rw [hr] at h
    exact PostS.toW h fun e ρ q => by cases q
  | exc e ρ1 =>
    rw [hr] at h
    dsimp only at h
    refine fun cl dd σ' G' H' ex R er => ?_
    cases hq : sub e.c c with
    | none => rw [hq] at h; exact h.elim
    | some b =>
      rw [hq] at h
      have hm := hsub _ _ _ hq
      obtain ⟨ecl, _⟩ := id er
      subst ecl
      refine ⟨b, hm, fun hb a _ => ?_, fun hb => ?_⟩
      · subst hb
        dsimp only at h
        obtain ⟨hlt, h⟩ := ite_postS h
        refine ⟨(e, G'), ⟨rfl, er⟩, B, ρ1.set i none, G', R.ofW.enter hlt, ?_⟩
        have h := PostS.ext h ex
        cases hss : ss e (ρ1.set i none) with
        | bot => rw [hss] at h; exact h
        | exc _ _ => rw [hss] at h; exact h.elim
        | ok f ρ2 =>
          rw [hss] at h
          exact PostS.leave h hpn R.ofW.kg
      · subst hb
        exact h _ _ _ _ _ ex R.ofW er
theorem RpF.look {K : PySem.W.Frag} {C : Nat → Addr} {G : Hp} {f : Str} : ∀ {fl : List (Str × V)} {fs : List (Str × D)} {d : D}, RpF K C G fl fs → fs.lookup f = some d → ∃ v, fl.lookup f = some v ∧ Rp K C G v d
  | _, _, _, .nil, e => by cases e
  | _, _, d, @RpF.cons _ _ _ n v d0 vs ds h r, e => by
    by_cases q : f = n
    · subst q
      rw [List.lookup_cons_self] at e
      cases e
      exact ⟨v, List.lookup_cons_self, h⟩
    · have z : (f == n) = false := by simpa using q
      rw [List.lookup_cons, z] at e
      obtain ⟨u, h1, h2⟩ := r.look e
      exact ⟨u, by rw [List.lookup_cons, z]; exact h1, h2⟩
def dXf (ok : Nat → Bool) (f : Str) (e : EX) : ENV → R D := fun ρ => if ok e.c = true then R.of (e.fs.lookup f) ρ else .bot
structure XfOk (K : PySem.W.Frag) (C : Nat → Addr) (f : Str) (ok : Nat → Bool) : Prop where
  at_ : ∀ c, ok c = true → XfC K (C c) ∧ PySem.W.findIn K (.ref (C c)) f = some none
theorem de_xf {f n : Str} {i : Nat} {e : EX} {ok : Nat → Bool} {a : Addr} {oe : Obj} {d : Option Addr} {pn : List (Addr × Obj)} {G0 : Hp} {p : Pos} (F : XfOk X.K cc.C f ok) (hz : Zc (.ref (cc.C e.c)) d oe) (hf : ∃ vs, oe.data = .fields vs) (er : ERp X.K cc.C G0 e (.ref (cc.C e.c)) d)
    (hi : X.N[i]? = some n := by rfl) (hv : Vis X.env.scope n := by first | exact Or.inl rfl | exact Or.inr (Or.inl rfl) | exact Or.inr (Or.inr rfl)) (hd : (n == ("__debug__" : Str)) = false := by decide) (hcd : (n == ("__classdict__" : Str)) = false := by decide)
    (hb : attributeBase (.Name n p) f X.env (eval (.Name n p) X.env) = eval (.Name n p) X.env := by rfl) : DE (X.suite a ((a, oe) :: pn)) (cc.hold i a G0) (.Attribute (.Name n p) f pos) (dXf ok f e) := by
  by_cases ho : ok e.c = true
  · obtain ⟨xc, hno⟩ := F.at_ _ ho
    have te : PE (X.suite a ((a, oe) :: pn)) (.Name n p) (tVar i) := pe_var hi hv hd hcd
    refine PE.imp (pe_xf xc hno hz hf te hb) fun σ H Q ⟨B, ρ, G, R0, h⟩ => ?_
    unfold dXf at h
    rw [if_pos ho] at h
    have pa := R0.pa i List.mem_cons_self
    have hai : (cc.hold i a G0).ad i = a := if_pos rfl
    rw [hai] at pa
    cases hl : e.fs.lookup f with
    | none => rw [hl] at h; exact h.elim
    | some v =>
      rw [hl] at h
      rcases er with ⟨_, ⟨e0, _⟩ | ⟨dx, fl, hd', hg, rf⟩⟩
      · rw [e0] at hl; cases hl
      · obtain ⟨u, h1, h2⟩ := rf.look hl
        exact ⟨_, pa, rfl, rfl, dx, fl, u, hd', R0.gk _ _ (R0.kg _ _ hg), h1, h u G H (Ext.refl _ _) R0 (h2.mono R0.kg)⟩
  · refine ⟨fun pi s σ H Q I ⟨B, ρ, G, R0, h⟩ => ?_⟩
    unfold dXf at h
    rw [if_neg ho] at h
    exact h.elim
end
end Rf
set_option Elab.async false
set_option linter.all false
set_option maxRecDepth 100000
namespace Rf
open PySem PySem.Spec L2 PyProof.Rows
structure XiOk (K : PySem.W.Frag) (D : Addr) : Prop where
  cl : (PySem.W.clsIn K D).isSome = true
  ga : PySem.W.findIn K (.ref D) "__getattribute__" = some (some (.builtin "BaseException.__getattribute__"))
  gt : PySem.W.findIn K (.ref D) "__getattr__" = some none
  sb : PySem.W.subIn K (.ref D) (.type "BaseException") = some true
  ca : PySem.W.findIn K (.ref D) "__class__" = some (some (.builtin "object.__class__"))
  sp : PySem.W.specialIn K (.builtin "object.__class__") "__get__" = some (some (.builtin "getset_descriptor.__get__"))
  tk : PySem.W.takesIn K (.builtin "object.__class__") = some true
  mo : PySem.W.mroIn K D (.type "object") = some true
structure XiAll (K : PySem.W.Frag) (C : Nat → Addr) (cu : Value) (f : Nat → Option Bool) : Prop where
  at_ : ∀ c b, f c = some b → XiOk K (C c) ∧ PySem.W.kitOne K (.ref (C c)) cu = some b
section
variable {X : Cx} {cc : Cc} {pos : Pos}
end
end Rf
set_option Elab.async false
set_option linter.all false
set_option maxRecDepth 100000
set_option maxHeartbeats 1000000
namespace Rf
open PySem PySem.Spec L2 PyProof.Rows
structure FlOk (K : PySem.W.Frag) (C : Nat → Addr) (f : Str) (ok : Nat → Bool) : Prop where
  at_ : ∀ c, ok c = true → Cls K (C c) ∧ NoAttr K (C c) f
def vFld (ok : Nat → Bool) (f : Str) : D → Option D
  | .ins c fs => if ok c = true then fs.lookup f else none
  | _ => none
def dFld (ok : Nat → Bool) (f : Str) (da : ENV → R D) : ENV → R D := dUn (vFld ok f) da
section
variable {X : Cx} {cc : Cc} {pos : Pos} {e : Expr} {da : ENV → R D} {ok : Nat → Bool} {f : Str}
def putD (f : Str) (d : D) : List (Str × D) → List (Str × D)
  | [] => [(f, d)]
  | (g, x) :: r => if g = f then (g, d) :: r else (g, x) :: putD f d r
theorem RpF.length {K : PySem.W.Frag} {C : Nat → Addr} {G : Hp} : ∀ {fl : List (Str × V)} {fs : List (Str × D)}, RpF K C G fl fs → fl.length = fs.length
  | _, _, .nil => rfl
  | _, _, .cons _ r => congrArg (· + 1) r.length
def sFld (ok : Nat → Bool) (f : Str) (i : Nat) (da : ENV → R D) : ENV → R Fl := fun ρ => (da ρ).bind fun d ρ1 => match ρ1[i]? with
  | some (some (.ow (.ins c fs))) => if ok c = true ∧ fs.length < 1000 then .ok .nx (ρ1.set i (some (.ow (.ins c (putD f d fs))))) else .bot
  | _ => .bot
end
structure Ik (P : Program) (w : World) (K : PySem.W.Frag) (mg : Str → Option Value) (base : Heap) (C : Nat → Addr) (x : Str) (c n k : Nat) (F : List DV → FO) : Prop where
  gC : mg x = some (.ref (C c))
  ex : ∃ f fd ps, ps.length = n ∧ Mk K (C c) f ∧ FnOk P w K mg base (L2.CX P w) k f fd ps (spF K C n F) ∧ Binds K fd ps []
def mkR (ρ1 : ENV) : FO → R M
  | .ok (.sh .non) [m] => .ok m ρ1
  | .exc e _ => .exc e ρ1
  | _ => .bot
def fMake (c n : Nat) (F : List DV → FO) (da : ENV → R (List D)) : ENV → R M := fun ρ => (da ρ).bind fun ds ρ1 => if ds.length + 1 = n then mkR ρ1 (F (.ow (.ins c []) :: ds.map DV.sh)) else .bot
section
variable {X : Cx} {cc : Cc} {pos p : Pos} {x : Str} {c n k : Nat} {F : List DV → FO}
end
end Rf
set_option Elab.async false
set_option linter.all false
set_option maxRecDepth 100000
set_option maxHeartbeats 1000000
namespace Rf
open PySem PySem.Spec L2 PyProof.Rows
structure Dm (K : PySem.W.Frag) (Ca : Addr) (m qual : Str) (st : Stmt) (ps : List Str) : Prop where
  ex : ∃ f fd, Fun K m qual st f fd ∧ PySem.W.findIn K (.ref Ca) m = some (some (.ref f)) ∧ PySem.W.isFn K (.ref f) = true ∧ ∀ us : List Value, us.length = ps.length → bindArgs fd ⟨us, []⟩ = pure (ps.zip us)
theorem dm_mk {K : PySem.W.Frag} {Ca : Addr} {m qual : Str} {st : Stmt} {ps : List Str} {f : Addr} {oc : Value} {od an : Option Addr} {osl : Array (Option Value)} {kV doc pm cdv ct : Value} (a : PySem.W.findIn K (.ref Ca) m = some (some (.ref f)))
    (l : K.lookup f = some ⟨oc, od, .func (PySem.W.fnOf m qual (defArgs st) (defBody st) (defScope st) .none kV doc pm an cdv ct), osl⟩) (c : PySem.W.codeIn K cdv qual = true) (k : PySem.W.keepIn K (.ref f) = true) (fn : PySem.W.isFn K (.ref f) = true)
    (hb : ∀ (kV doc pm : Value) (an : Option Addr) (cdv ct : Value) (us : List Value), us.length = ps.length → bindArgs (PySem.W.fnOf m qual (defArgs st) (defBody st) (defScope st) .none kV doc pm an cdv ct) ⟨us, []⟩ = pure (ps.zip us)) : Dm K Ca m qual st ps :=
  ⟨f, _, fun_mk (st := st) l c k, a, fn, fun us hl => hb _ _ _ _ _ _ us hl⟩
structure Cm (K : PySem.W.Frag) (mg : Str → Option Value) (Ca : Addr) (x : Str) : Prop where
  gC : mg x = some (.ref Ca)
  mi : PySem.W.makesIn K Ca = true
  kp : PySem.W.keepIn K (.ref Ca) = true
section
variable {P : Program} {w : World} {K : PySem.W.Frag} {mg : Str → Option Value} {base : Heap} {C : Nat → Addr}
structure Mf (P : Program) (w : World) (K : PySem.W.Frag) (mg : Str → Option Value) (base : Heap) (C : Nat → Addr) (m : Str) (n k : Nat) (tab : Nat → Option (List DV → FO)) : Prop where
  at_ : ∀ c F, tab c = some F → ∃ f fd ps, Cls K (C c) ∧ Meth K (C c) m f ∧ ps.length = n ∧ FnOk P w K mg base (L2.CX P w) k f fd ps (spF K C n F) ∧ Binds K fd ps []
theorem Mf.mono {m : Str} {n k k' : Nat} {tab : Nat → Option (List DV → FO)} (h : Mf P w K mg base C m n k tab) (hk : k ≤ k') : Mf P w K mg base C m n k' tab :=
  ⟨fun c F e => let ⟨f, fd, ps, h1, h2, h3, h4, h5⟩ := h.at_ c F e; ⟨f, fd, ps, h1, h2, h3, h4.mono hk, h5⟩⟩
theorem Mf.or {m : Str} {n k : Nat} {t u : Nat → Option (List DV → FO)} (h : Mf P w K mg base C m n k t) (g : Mf P w K mg base C m n k u) : Mf P w K mg base C m n k (fun c => match t c with | some F => some F | none => u c) :=
  ⟨fun c F e => by
    cases q : t c with
    | some F' => simp only [q] at e; cases e; exact h.at_ c _ q
    | none => simp only [q] at e; exact g.at_ c F e⟩
end
def metOf (tab : Nat → Option (List DV → FO)) (m : Str) : D → Option (List DV → FO)
  | .ins c fs => if fs.lookup m = none then tab c else none
  | _ => none
def metK (tab : Nat → Option (List DV → FO)) (m : Str) (dr : ENV → R (List Ag)) (x : D) (ρ1 : ENV) : R D := match metOf tab m x with
  | some F => ((dr ρ1).bind fun as ρ2 => stepR F (.inl x :: as) ρ2).bind onSh
  | none => .bot
def dMet (tab : Nat → Option (List DV → FO)) (m : Str) (da : ENV → R D) (dr : ENV → R (List Ag)) : ENV → R D := fun ρ => (da ρ).bind (metK tab m dr)
section
variable {X : Cx} {cc : Cc} {pos apos : Pos} {o e : Expr} {es : List Expr} {da : ENV → R D} {dr : ENV → R (List Ag)} {m : Str} {n k : Nat} {tab : Nat → Option (List DV → FO)}
end
end Rf
set_option Elab.async false
set_option linter.all false
set_option maxRecDepth 100000
set_option maxHeartbeats 1000000
namespace Rf
open PySem PySem.Spec L2 PyProof.Rows
structure ExN (K : PySem.W.Frag) (mg : Str → Option Value) (c : Addr) (x : Str) : Prop where
  gC : mg x = some (.ref c)
  kC : PySem.W.keepIn K (.ref c) = true
  bP : PySem.W.subIn K (.ref c) (.type "BaseException") = some true
  tP : PySem.W.typeIn K (.ref c) = some (.type "type")
theorem ExN.names {X : Cx} {c : Addr} {x : Str} (h : ExN X.K X.mg c x) (hg : Gl X x) (hd : (x == ("__debug__" : Str)) = false := by decide) : Names X x (.ref c) := ⟨hg, hd, .inl h.gC⟩
theorem ExN.raises {X : Cx} {c : Addr} {x : Str} (h : ExN X.K X.mg c x) : Raises X (.ref c) := raises_own h.bP h.tP
theorem oex_mk {K : PySem.W.Frag} {C N : Addr} {nm q : Str} {bs bm : List Value} {sn : List Str} {sub : List Value} {ab : Bool} {col : Option Bool} {dd : Option Addr} {k0 k1 k2 k3 k5 : Option Value}
    (l : K.lookup C = some (excClassObj nm q C N bs bm true sn sub ab col dd k0 k1 k2 k3 k5 "ValueError.__new__")) (r : PySem.HandSPX.refsVE bm = true) (sa : PySem.W.findIn K (.ref C) "__setattr__" = some (some (.builtin "object.__setattr__")))
    (e : PySem.W.subIn K (.ref C) (.type "BaseException") = some true) (t : PySem.W.typeIn K (.ref C) = some (.type "type")) (k : PySem.W.keepIn K (.ref C) = true) : OexC K C :=
  ⟨⟨nm, q, N, bs, bm, sn, sub, ab, col, dd, k0, k1, k2, k3, k5, l, r⟩, sa, e, t, k⟩
theorem exi_of {P : Program} {w : World} {K : PySem.W.Frag} {mg : Str → Option Value} {base : Heap} {Ca : Addr} {x qual : Str} {fs : List Str} {st : Stmt} {N ps : List Str} (g : ExN K mg Ca x) (cl : OexC K Ca) (d : Dm K Ca "__init__" qual st ps) (S : FnScope N ps (defScope st)) (hl : ps.length = fs.length + 1)
    (hb : ∀ (f : Addr) (cdv : Value) (A : Around) (outer : List Env) (s : Shared) (H : Hp) (vs : List V) (Q : VK) (E : XK), Room 0 (A.deeper (envOfC qual (defScope st) s.heap.objs.size f cdv)) → spI Ca fs vs H Q E →
      ∃ t, PSs (cxOf CX0 P w K mg base N qual (defScope st) f cdv A outer s H E).nox (defBody st) t ∧ t { nx := fun _ H' => Q .non H', rt := Q } (L2.start N vs) H) : ExI P w K mg base Ca x fs 1 := by
  obtain ⟨f, fd, F, hi, hf, hbd⟩ := d.ex
  exact ⟨g.gC, cl, f, fd, ps, hi, beq_iff_eq.mp hf, F.ok S (fun vs H Q E h => (spI_len h).trans hl.symm) (hb f), .all hbd⟩
inductive RelL : List V → List Value → Prop
  | nil : RelL [] []
  | cons {v : V} {u : Value} {vs : List V} {us : List Value} (h : RelV v u) (r : RelL vs us) : RelL (v :: vs) (u :: us)
end Rf
set_option Elab.async false
set_option linter.all false
set_option maxRecDepth 100000
set_option maxHeartbeats 1000000
namespace Rf
open PySem PySem.Spec L2 PyProof.Rows
def pairs (ds : List D) : List D := ds.mapIdx fun i d => .tup [.int (i : Nat), d]
section
variable {X : Cx} {cc : Cc} {a : Expr} {da : ENV → R D} {pos p tpos : Pos} {elts : List Expr} {kk : Nat}
def ifBK (a b : ENV → R Bool) : Bool → ENV → R Bool := fun x ρ1 => if x = true then a ρ1 else b ρ1
def dIfB (t a b : ENV → R Bool) : ENV → R Bool := fun ρ => (t ρ).bind (ifBK a b)
structure IsO (K : PySem.W.Frag) (C : Nat → Addr) (cu : Value) (f : Nat → Option Bool) : Prop where
  own : ∀ c b, f c = some b → Cls K (C c) ∧ PySem.W.findIn K (.ref (C c)) "__class__" = some (some (.builtin "object.__class__")) ∧ PySem.W.mroIn K (C c) (.type "object") = some true ∧ PySem.W.kitOne K (.ref (C c)) cu = some b
  sp : PySem.W.specialIn K (.builtin "object.__class__") "__get__" = some (some (.builtin "getset_descriptor.__get__"))
  tk : PySem.W.takesIn K (.builtin "object.__class__") = some true
  b1 : PySem.W.kitOne K (.type "NoneType") cu = some false
  b2 : PySem.W.kitOne K (.type "bool") cu = some false
  b3 : PySem.W.kitOne K (.type "int") cu = some false
  b4 : PySem.W.kitOne K (.type "str") cu = some false
  b5 : PySem.W.kitOne K (.type "tuple") cu = some false
  b6 : PySem.W.kitOne K (.type "list") cu = some false
  b7 : PySem.W.kitOne K (.type "dict") cu = some false
end
end Rf
set_option Elab.async false
set_option linter.all false
set_option maxRecDepth 100000
set_option maxHeartbeats 1000000
namespace Rf
open PySem PySem.Spec L2 PyProof.Rows
def saysB : FO → Option D
  | .ok (.sh (.bl b)) [] => some (.bl b)
  | _ => none
def rightOk (ok : Nat → Bool) : D → Bool
  | .ins c _ => ok c
  | _ => true
def vEqO (tab : Nat → Option (List DV → FO)) (ok : Nat → Bool) (x y : D) : Option D := match x with
  | .ins c fs => match tab c with
    | some F => if rightOk ok y = true then saysB (F [.sh x, .sh y]) else none
    | none => none
  | _ => vEqS false x y
structure EqM (P : Program) (w : World) (K : PySem.W.Frag) (mg : Str → Option Value) (base : Heap) (C : Nat → Addr) (k : Nat) (tab : Nat → Option (List DV → FO)) (ok : Nat → Bool) : Prop where
  m : Mf P w K mg base C "__eq__" 2 k tab
  nb : ∀ c F, tab c = some F → ∀ T, T ∈ ["NoneType", "bool", "int", "str", "tuple", "list", "dict"] → PySem.W.notFirst K (C c) (.type T) = true
  no : ∀ c F c2, tab c = some F → ok c2 = true → PySem.W.notFirst K (C c) (.ref (C c2)) = true
  ty : ∀ c2, ok c2 = true → Cls K (C c2) ∧ PySem.W.findIn K (.ref (C c2)) "__class__" = some (some (.builtin "object.__class__")) ∧ PySem.W.mroIn K (C c2) (.type "object") = some true
  sp : PySem.W.specialIn K (.builtin "object.__class__") "__get__" = some (some (.builtin "getset_descriptor.__get__"))
  tk : PySem.W.takesIn K (.builtin "object.__class__") = some true
section
variable {X : Cx} {cc : Cc} {k : Nat} {tab : Nat → Option (List DV → FO)} {ok : Nat → Bool}
variable {a b : Expr} {da db : ENV → R D} {pos : Pos}
end
end Rf
set_option Elab.async false
set_option linter.all false
set_option maxRecDepth 100000
set_option maxHeartbeats 1000000
namespace PySem
namespace NeK
open PySem.Spec PyProof.Rows Builtin
section
variable {prog : Program} {w : World} {A : Around} {E : Value → Shared → Prop} {s : Shared} {K : W.Frag} {x C f : Addr} {ox : Obj} {od : Option Obj} {b : Value}
end
end NeK
end PySem

namespace Rf
open PySem PySem.Spec L2 PyProof.Rows
def negD : D → Option D
  | .bl b => some (.bl !b)
  | _ => none
def vNeO (tab : Nat → Option (List DV → FO)) (ok : Nat → Bool) (x y : D) : Option D := match x with
  | .ins _ _ => (vEqO tab ok x y).bind negD
  | _ => vEqS true x y
structure NeM (K : PySem.W.Frag) (C : Nat → Addr) (tab : Nat → Option (List DV → FO)) : Prop where
  at_ : ∀ c F, tab c = some F → PySem.W.findIn K (.ref (C c)) "__ne__" = some (some (.builtin "object.__ne__")) ∧ PySem.W.mroIn K (C c) (.type "object") = some true
section
variable {X : Cx} {cc : Cc} {k : Nat} {tab : Nat → Option (List DV → FO)} {ok : Nat → Bool}
variable {a b : Expr} {da db : ENV → R D} {pos : Pos}
end
end Rf
set_option Elab.async false
set_option linter.all false
set_option maxRecDepth 100000
set_option maxHeartbeats 1000000
namespace Rf
open PySem PySem.Spec L2 PyProof.Rows
def enumKT : D → ENV → R (List D) := fun x ρ1 => match x with
  | .lst ds => .ok (pairs ds) ρ1
  | .scr ds => .ok (pairs ds) ρ1
  | .tup ds => .ok (pairs ds) ρ1
  | _ => .bot
def dEnumT (da : ENV → R D) : ENV → R (List D) := fun ρ => (da ρ).bind enumKT
end Rf
set_option Elab.async false
set_option linter.all false
set_option maxRecDepth 100000
set_option maxHeartbeats 1000000
namespace Rf
open PySem PySem.Spec L2 PyProof.Rows
inductive RelD : D → Value → Prop
  | int (i : Int) (t : Tok) : RelD (.int i) (.int i t)
  | str (x : Str) (t : Tok) (h : x.length ≤ sizeLine) : RelD (.str x) (.str x t)
inductive KRows : List DictEntry → List (Str × D) → Prop
  | nil : KRows [] []
  | cons {h : Int} {x : Str} {t : Tok} {v : Value} {d : D} {es : List DictEntry} {tab : List (Str × D)} (q : RelD d v) (r : KRows es tab) : KRows (⟨h, .str x t, v⟩ :: es) ((x, d) :: tab)
structure KTb (K : PySem.W.Frag) (a : Addr) (tab : List (Str × D)) : Prop where
  low : (a == sysModules) = false
  ex : ∃ (es : Array DictEntry) (n : Nat), K.lookup a = some ⟨.type "dict", none, .dict es n, #[]⟩ ∧ KRows es.toList tab
def lkS (k : Str) : List (Str × D) → Option D
  | [] => none
  | (x, d) :: r => if k = x then some d else lkS k r
def kD (tab : List (Str × D)) : List (Str × KTD.Dat) := tab.map fun p => (p.1, .flat p.2.toPy)
theorem KRows.rows {h : Heap} : ∀ {es : List DictEntry} {tab : List (Str × D)}, KRows es tab → KTD.Rows (KTD.Dat.At h) es (kD tab)
  | _, _, .nil => .nil
  | _, _, .cons q r => by
    refine .cons rfl ?_ r.rows
    cases q with
    | int i t => exact PyProof.V.Flat.int i t
    | str x t _ => exact PyProof.V.Flat.str x t
theorem KRows.each {h : Heap} {k : Str} {P : Value → Prop} {els : Prop} : ∀ {es : List DictEntry} {tab : List (Str × D)}, KRows es tab → (∀ d u, lkS k tab = some d → RelD d u → P u) → (lkS k tab = none → els) → KTD.Each h k P els (kD tab)
  | _, _, .nil, _, h2 => h2 rfl
  | _, _, @KRows.cons _ x _ v d _ tab q r, h1, h2 => by
    unfold lkS at h1 h2
    show (if decide (k = x) = true then KTD.Opened h P (.flat d.toPy) else KTD.Each h k P els (kD tab))
    by_cases e : k = x
    · rw [if_pos (decide_eq_true e)]
      simp only [if_pos e] at h1
      cases q with
      | int i t => exact fun t' => h1 _ _ rfl (.int i t')
      | str y t hy => exact fun t' => h1 _ _ rfl (.str y t' hy)
    · rw [if_neg (by simp [e])]
      simp only [if_neg e] at h1 h2
      exact r.each h1 h2
def vOf : D → V
  | .int i => .int i
  | .str x => .str x
  | _ => .non
def tKGet (tab : List (Str × D)) (te : TE) : TE := fun σ H Q => te σ H fun y H2 => ∃ k, y = .str k ∧ (∀ v, (∀ d u, lkS k tab = some d → RelD d u → v = vOf d) → (lkS k tab = none → v = .non) → Q v H2)
theorem pe_kget {X : Cx} {o e : Expr} {te : TE} {a : Addr} {tab : List (Str × D)} {apos cpos : Pos} (T : KTb X.K a tab) (ho : PE X o (tC (.ref a))) (he : PE X e te) (m : M1 X o "get" apos e cpos) : PE X (.Call (.Attribute o "get" apos) [e] [] cpos) (tKGet tab te) := by
  refine ⟨fun pins s σ H Q I h => ?_⟩
  obtain ⟨es, n, hk, hr⟩ := T.ex
  have here : ∀ {H' : Hp} {s' : Shared}, L2.Inv X pins σ H' s' → KTD.Here s'.heap s'.heap a (kD tab) := fun J => ⟨⟨T.low, _, es, n, J.kIn _ _ hk, ⟨rfl, rfl, rfl⟩, rfl, hr.rows⟩, fun _ _ z => z⟩
  refine wpAny_Call_method m.base m.few m.line PySem.F.plainAttrs_dict PySem.F.slot_dict_get PySem.F.type_dict_get (thn (ho.run pins s σ H (fun x H1 => x = .ref a ∧ tKGet tab te σ H1 Q) I ⟨rfl, h⟩) fun u s1 ⟨x, H1, I1, rx, ex, q1⟩ => ?_)
  subst ex
  obtain rfl : u = Value.ref a := rx
  refine ⟨(here I1).typeIs, (here I1).noDict, ?_⟩
  rw [m.trees]
  refine Calls.callWith_builtin rfl (Calls.evalArgs_plain (Calls.spliced_cons (thn (he.run pins s1 σ H1 _ I1 q1) fun iv s2 ⟨y, H2, I2, ry, k, ek, q2⟩ => Calls.spliced_nil ?_)))
  subst ek
  obtain ⟨t, rfl⟩ := ry
  refine KTD.get1_text (here I2) (hr.each (fun d u hd hu => ?_) fun hn => ?_)
  · have q3 := q2 (vOf d) (fun d' u' e' _ => by rw [hd] at e'; cases e'; rfl) (fun e' => by rw [hd] at e'; cases e')
    cases hu with
    | int i t => exact ⟨.int i, H2, I2.tok _, ⟨_, rfl⟩, q3⟩
    | str x t hx => exact ⟨.str x, H2, I2.tok _, ⟨_, rfl⟩, q3⟩
  · exact ⟨.non, H2, I2.tok _, rfl, q2 .non (fun d' u' e' _ => by rw [hn] at e'; cases e') fun _ => rfl⟩
def getK (tab : List (Str × D)) : D → ENV → R D := fun x ρ1 => match x with
  | .str k => .ok ((lkS k tab).getD .non) ρ1
  | _ => .bot
def dGetK (tab : List (Str × D)) (da : ENV → R D) : ENV → R D := fun ρ => (da ρ).bind (getK tab)
theorem KRows.at_ {k : Str} {d : D} : ∀ {es : List DictEntry} {tab : List (Str × D)}, KRows es tab → lkS k tab = some d → ∃ u, RelD d u
  | _, _, .nil, e => nomatch e
  | _, _, @KRows.cons _ x _ v d _ tab q r, e => by
    unfold lkS at e
    by_cases z : k = x
    · rw [if_pos z] at e; cases e; exact ⟨_, q⟩
    · rw [if_neg z] at e; exact r.at_ e
theorem de_kget {X : Cx} {cc : Cc} {x : Str} {e : Expr} {a : Addr} {tab : List (Str × D)} {de : ENV → R D} {p apos cpos : Pos} (T : KTb X.K a tab) (hg : Gl X x) (hm : X.mg x = some (.ref a)) (he : DE X cc e de) (m : M1 X (.Name x p) "get" apos e cpos)
    (hd : (x == ("__debug__" : Str)) = false := by decide) : DE X cc (.Call (.Attribute (.Name x p) "get" apos) [e] [] cpos) (dGetK tab de) := by
  refine PE.imp (pe_kget T (pe_glob hg hm rfl hd) he m) fun σ H Q ⟨B, ρ, G, R0, h⟩ => ⟨B, ρ, G, R0, h.bind fun d1 ρ1 G1 H1 y e1 R1 p1 h1 => ?_⟩
  cases p1 with
  | str k hk =>
    refine ⟨k, rfl, fun v h2 h3 => ?_⟩
    obtain ⟨es, n, _, hr⟩ := T.ex
    cases hl : lkS k tab with
    | none =>
      have h1 : Post X.K cc (Rp X.K cc.C) B G1 σ Q (.ok ((lkS k tab).getD .non) ρ1) := h1
      rw [hl] at h1
      rw [h3 hl]
      exact h1 .non G1 H1 (Ext.refl _ _) R1 .non
    | some d =>
      have h1 : Post X.K cc (Rp X.K cc.C) B G1 σ Q (.ok ((lkS k tab).getD .non) ρ1) := h1
      rw [hl] at h1
      obtain ⟨u, hu⟩ := hr.at_ hl
      rw [h2 d u hl hu]
      cases hu with
      | int i t => exact h1 (.int i) G1 H1 (Ext.refl _ _) R1 (.int i)
      | str z t hz => exact h1 (.str z) G1 H1 (Ext.refl _ _) R1 (.str z hz)
  | _ => exact h1.elim
theorem list_sub_bool {M : Model} {A : Around} {E : Value → Shared → Prop} {s : Shared} {b : Bool} {Q : Option Int → Shared → Prop} (h : Q (some (if b then 1 else 0)) s) : wpAny M A (Builtin.List.listSubscript? (.bool b)) Q E s := by
  unfold Builtin.List.listSubscript?
  refine wpAny_bind (wpAny_specialOf (T := "bool") (PySem.typeIs_bool s b) F.slot_bool_index.lookup ?_)
  show wpAny M A (asIndex (.bool b) >>= _) Q E s
  refine wpAny_bind (wpAny_of_eq (a := if b then 1 else 0) (by cases b <;> rfl) ?_)
  show wpAny M A (if (!Builtin.List.listFitsIndex (if b then 1 else 0)) = true then _ else _) Q E s
  rw [if_neg (by cases b <;> decide)]
  exact wpAny_pure h
theorem getItem_list_bool {prog : Program} {w : World} {A : Around} {E : Value → Shared → Prop} {s : Shared} {l : Addr} {items : Array Value} {b : Bool} {x : Value} {Q : Value → Shared → Prop} (hl : s.heap.IsList l items)
    (hx : items[if b then 1 else 0]? = some x) (h : Q x s) : wpAny (model prog w) A (getItem (.ref l) (.bool b)) Q E s := by
  obtain ⟨o, ho, hc, ne, hd⟩ := id hl
  unfold getItem
  try with_reducible refine wpAny_holding ?_
  first | refine wpAny_bind (wpAny_pure ?_) | skip
  refine wpAny_bind (wpAny_sequenceKey hl.typeIs (by decide) ?_)
  refine wpAny_bind (wpAny_callSpecial?_slot (name := Str.ofString "__getitem__") hl.typeIs slot_list_getitem (wpAny_call_entry slot_list_getitem hl.typeIs entry_list_getitem ?_ (args_list_getitem _ _)))
  show wpAny _ _ (Builtin.List.listSubscript? (.bool b) >>= _) _ _ s
  refine wpAny_bind (list_sub_bool ?_)
  have e : ((if b then 1 else 0 : Int)) = ((if b then 1 else 0 : Nat) : Int) := by cases b <;> rfl
  rw [e]
  show wpAny _ _ ((seqItemAt l (if b then 1 else 0) >>= fun r => pure (r.map ((if b then 1 else 0), ·))) >>= _) _ _ s
  refine wpAny_bind (wpAny_bind (wpAny_seqItemAt ho hd (wpAny_pure ?_)))
  rw [hx]
  first
    | exact wpAny_bind (wpAny_pure (wpAny_pure ⟨x, rfl, wpAny_pure h⟩))
    | exact wpAny_pure ⟨x, rfl, wpAny_pure h⟩
def rIxLB (K : PySem.W.Frag) : R2 := fun x y H Q => ∃ p xs b z, x = .ref p ∧ y = .bl b ∧ SqL K H p xs ∧ xs[if b then 1 else 0]? = some z ∧ Q z H
theorem ix_listB {X : Cx} : IxR X (rIxLB X.K) := by
  intro value slice pins s σ H x y v u Q I rx ry h hs
  obtain ⟨p, xs, b, z, rfl, rfl, hq, he, q⟩ := h
  cases rx
  cases ry
  obtain ⟨its, r, pl, hz⟩ := I.list hq
  obtain ⟨w, ew, rw'⟩ := r.get he
  exact subscriptTail_builtinR (x := w) pl.isList.typeIs slot_list_getitem.lookup (getItem_list_bool (Q := fun r s' => r = w ∧ EP X pins σ Q r s') pl.isList (by simpa using ew) ⟨rfl, z, H, I, rw', q⟩) hs
def vIxB : D → D → Option D
  | .lst ds, .bl b => ds[if b then 1 else 0]?
  | _, _ => none
theorem v2_ixB {K : PySem.W.Frag} {C : Nat → Addr} : V2 K C vIxB (rIxLB K) := by
  intro G H x y dx dy d Q s px py e k
  cases px with
  | lst h r =>
    cases py with
    | bl b =>
      obtain ⟨z, h1, h2⟩ := r.get (show _ = some d from e)
      exact ⟨_, _, b, z, rfl, rfl, .inl (.inl (s _ _ h)), h1, Grow.here s k h2⟩
    | _ => cases e
  | _ => cases py <;> cases e
theorem de_ixB {X : Cx} {cc : Cc} {a b : Expr} {da db : ENV → R D} {pos : Pos} (ha : DE X cc a da) (hb : DE X cc b db) (hs : PlainIx b := by intro _ _; rfl) : DE X cc (.Subscript a b pos) (dOp vIxB da db) := PE.imp (pe_ix ix_listB ha hb hs) (op_core v2_ixB)
def repS (z : Str) (n : Nat) : Str := ⟨(List.replicate n z.cps).foldl (· ++ ·) #[]⟩
def rMulS : R2 := fun x y H Q => ∃ z n, x = .str z ∧ y = .int n ∧ 1 < n ∧ n < 2 ^ 24 ∧ 0 < z.length ∧ z.length * n.toNat ≤ sizeLine ∧ (repS z n.toNat).length ≤ sizeLine ∧ Q (.str (repS z n.toNat)) H
theorem op_mulS {X : Cx} : OpR X (binaryOp .Mult) rMulS := by
  intro pins s σ H x y v u Q I rx ry h
  obtain ⟨z, n, rfl, rfl, h1, h2, h3, h4, h5, q⟩ := h
  obtain ⟨t, rfl⟩ := rx
  obtain ⟨t', rfl⟩ := ry
  have hz : (z.length : Int) ≤ 2 ^ 24 := by
    have : z.length ≤ z.length * n.toNat := Nat.le_mul_of_pos_right _ (by omega)
    rw [sizeLine_eq] at h4
    omega
  refine PySem.P.mul_str ?_ (fun _ _ => ?_) (fun _ _ => ?_) ?_
  · rw [decide_eq_false (by omega), decide_eq_false (by omega)]; rfl
  · have h6 : (2 ^ 24 : Int) ≤ (2 ^ 63 - 1) / n := by
      rw [Int.le_ediv_iff_mul_le (by omega)]
      have : (2 ^ 24 : Int) * n ≤ 2 ^ 24 * 2 ^ 24 := Int.mul_le_mul_of_nonneg_left (by omega) (by decide)
      omega
    omega
  · exact decide_eq_false (Nat.not_lt.mpr h4)
  · rw [if_neg (by omega), if_neg (by simp; omega)]
    exact ⟨h5, .str _, H, I.tok _, ⟨_, rfl⟩, q⟩
def vMulS : D → D → Option D
  | .str z, .int n => if 1 < n ∧ n < 2 ^ 24 ∧ 0 < z.length ∧ z.length * n.toNat ≤ sizeLine ∧ (repS z n.toNat).length ≤ sizeLine then some (.str (repS z n.toNat)) else none
  | _, _ => none
theorem v2_mulS {K : PySem.W.Frag} {C : Nat → Addr} : V2 K C vMulS rMulS := by
  intro G H x y dx dy d Q s px py e k
  cases px with
  | str z hz =>
    cases py with
    | int n =>
      have e : (if 1 < n ∧ n < 2 ^ 24 ∧ 0 < z.length ∧ z.length * n.toNat ≤ sizeLine ∧ (repS z n.toNat).length ≤ sizeLine then some (D.str (repS z n.toNat)) else none) = some d := e
      split at e
      · rename_i q; cases e; exact ⟨z, n, rfl, rfl, q.1, q.2.1, q.2.2.1, q.2.2.2.1, q.2.2.2.2, Grow.here s k (.str _ q.2.2.2.2)⟩
      · cases e
    | _ => cases e
  | _ => cases py <;> cases e
theorem de_mulS {X : Cx} {cc : Cc} {a b : Expr} {da db : ENV → R D} {pos : Pos} (ha : DE X cc a da) (hb : DE X cc b db) : DE X cc (.BinOp a .Mult b pos) (dOp vMulS da db) := de_op op_mulS v2_mulS ha hb
theorem relS (x : Str) (t : Tok) : RelV (.str x) (.str x t) := ⟨t, rfl⟩
structure KG (K : PySem.W.Frag) (mg : Str → Option Value) (x : Str) (tab : List (Str × D)) : Prop where
  ex : ∃ a, mg x = some (.ref a) ∧ KTb K a tab
theorem de_kgetG {X : Cx} {cc : Cc} {x : Str} {e : Expr} {tab : List (Str × D)} {de : ENV → R D} {p apos cpos : Pos} (T : KG X.K X.mg x tab) (hg : Gl X x) (he : DE X cc e de) (m : M1 X (.Name x p) "get" apos e cpos)
    (hd : (x == ("__debug__" : Str)) = false := by decide) : DE X cc (.Call (.Attribute (.Name x p) "get" apos) [e] [] cpos) (dGetK tab de) := by
  obtain ⟨a, hm, t⟩ := T.ex
  exact de_kget t hg hm he m hd
end Rf
set_option Elab.async false
set_option linter.all false
set_option maxRecDepth 100000
set_option maxHeartbeats 4000000
namespace Rf
open PySem PySem.Spec L2 PyProof.Rows
abbrev HdE := Value × Option Nat × (Addr → Value → Option Addr → TS)
inductive Hds2 (X : Cx) : List ExceptHandler → List HdE → Prop
  | nil : Hds2 X [] []
  | consP {x : Str} {c : Value} {ts : Addr → Value → Option Addr → TS} {b₀ : Stmt} {suite : List Stmt} {np pos' : Pos} {hds : List ExceptHandler} {l : List HdE} (hc : Names X x c)
      (hsu : ∀ (ad : Addr) (ox : Obj) (cl : Value) (dd : Option Addr) (pn : List (Addr × Obj)), Zc cl dd ox → (∃ vs, ox.data = .fields vs) → PSs (X.suite ad ((ad, ox) :: pn)) (b₀ :: suite) (ts ad cl dd)) (r : Hds2 X hds l) :
      Hds2 X (.ExceptHandler (some (.Name x np)) none (b₀ :: suite) pos' :: hds) ((c, none, ts) :: l)
  | consA {x n : Str} {c : Value} {i : Nat} {ts : Addr → Value → Option Addr → TS} {b₀ : Stmt} {suite : List Stmt} {np pos' : Pos} {hds : List ExceptHandler} {l : List HdE} (hc : Names X x c) (hi : X.N[i]? = some n) (hln : X.env.kindOf n = some .local)
      (hsu : ∀ (ad : Addr) (ox : Obj) (cl : Value) (dd : Option Addr) (pn : List (Addr × Obj)), Zc cl dd ox → (∃ vs, ox.data = .fields vs) → PSs (X.suite ad ((ad, ox) :: pn)) (b₀ :: suite) (ts ad cl dd)) (r : Hds2 X hds l) :
      Hds2 X (.ExceptHandler (some (.Name x np)) (some n) (b₀ :: suite) pos' :: hds) ((c, some i, ts) :: l)
section
variable {X : Cx} {body : List Stmt} {h₀ : ExceptHandler} {hds : List ExceptHandler} {l : List HdE} {pos : Pos} {tb : WX → TS} {Wout : WX}
end
abbrev HdD := Nat × Option Nat × (EX → ENV → R Fl)
inductive HdsD (X : Cx) (cc : Cc) : List ExceptHandler → List HdD → Prop
  | nil : HdsD X cc [] []
  | pl {x : Str} {c : Nat} {b₀ : Stmt} {suite : List Stmt} {np pos' : Pos} {hds : List ExceptHandler} {l : List HdD} {ss : ENV → R Fl} (hc : Names X x (.ref (cc.C c)))
      (hsu : ∀ (ad : Addr) (ox : Obj) (pn : List (Addr × Obj)), DSs (X.suite ad ((ad, ox) :: pn)) cc.quiet (b₀ :: suite) ss) (r : HdsD X cc hds l) : HdsD X cc (.ExceptHandler (some (.Name x np)) none (b₀ :: suite) pos' :: hds) ((c, none, fun _ => ss) :: l)
  | as_ {x n : Str} {c i : Nat} {b₀ : Stmt} {suite : List Stmt} {np pos' : Pos} {hds : List ExceptHandler} {l : List HdD} {ss : EX → ENV → R Fl} (hc : Names X x (.ref (cc.C c)))
      (hsu : ∀ (e : EX) (ad : Addr) (ox : Obj) (d : Option Addr) (pn : List (Addr × Obj)) (G0 : Hp), Zc (.ref (cc.C e.c)) d ox → (∃ vs, ox.data = .fields vs) → ERp X.K cc.C G0 e (.ref (cc.C e.c)) d → DSs (X.suite ad ((ad, ox) :: pn)) (cc.hold i ad G0) (b₀ :: suite) (ss e)) (r : HdsD X cc hds l)
      (hi : X.N[i]? = some n := by rfl) (hln : X.env.kindOf n = some .local := by rfl) (hp : cc.pr.contains i = false := by rfl) : HdsD X cc (.ExceptHandler (some (.Name x np)) (some n) (b₀ :: suite) pos' :: hds) ((c, some i, ss) :: l)
def tsOf (X : Cx) (cc : Cc) : HdD → HdE
  | (c, none, ss) => (.ref (cc.C c), none, fun _ _ _ => rS X.K cc.quiet (ss ⟨0, []⟩))
  | (c, some i, ss) => (.ref (cc.C c), some i, fun a cls d D σ H => ∃ z : EX × Hp, (cls = .ref (cc.C z.1.c) ∧ ERp X.K cc.C z.2 z.1 cls d) ∧ rS X.K (cc.hold i a z.2) (ss z.1) D σ H)
theorem HdsD.hds {X : Cx} {cc : Cc} : ∀ {hds : List ExceptHandler} {l : List HdD}, HdsD X cc hds l → Hds2 X hds (l.map (tsOf X cc))
  | _, _, .nil => .nil
  | _, _, .pl hc hsu r => .consP hc (fun ad ox cl dd pn _ _ => hsu ad ox pn) r.hds
  | _, _, .as_ hc hsu r hi hln _ => .consA hc hi hln (fun ad ox cls d pn hz hfl => pss_ex fun z hzz => by obtain ⟨rfl, er⟩ := hzz; exact hsu z.1 ad ox d pn z.2 hz hfl er) r.hds
section
variable {X : Cx} {cc : Cc} {sub : Nat → Nat → Option Bool} {pos : Pos}
end
end Rf
set_option Elab.async false
set_option linter.all false
set_option maxRecDepth 100000
set_option maxHeartbeats 1000000
namespace Rf
open PySem PySem.Spec L2 PyProof.Rows
section
variable {P : Program} {w : World} {K : PySem.W.Frag} {mg : Str → Option Value} {base : Heap} {C : Nat → Addr}
structure DfD (K : PySem.W.Frag) (mg : Str → Option Value) (C : Nat → Addr) (x : Str) (st : Stmt) (ps : List Str) (d : D) : Prop where
  ex : ∃ (f : Addr) (fd : FuncData) (v : V) (ds : List Value), FunD K x x (defArgs st) (defBody st) (defScope st) [v] [] f fd ∧ mg x = some (.ref f) ∧ Binds K fd ps [] ∧ Binds K fd ps ds ∧ Vals [v] ds ∧ ∀ G, Rp K C G v d
structure FkD (P : Program) (w : World) (K : PySem.W.Frag) (mg : Str → Option Value) (base : Heap) (C : Nat → Addr) (x : Str) (n k : Nat) (F : List DV → FO) (d : D) : Prop where
  ex : ∃ (f : Addr) (fd : FuncData) (ps : List Str) (v : V) (ds : List Value), ps.length = n ∧ FnOk P w K mg base (L2.CX P w) k f fd ps (spF K C n F) ∧ mg x = some (.ref f) ∧ PySem.W.keepIn K (.ref f) = true ∧ Binds K fd ps [] ∧ Binds K fd ps ds ∧ Vals [v] ds ∧ ∀ G, Rp K C G v d
theorem FkD.mono {x : Str} {n k k' : Nat} {F : List DV → FO} {d : D} (h : FkD P w K mg base C x n k F d) (hk : k ≤ k') : FkD P w K mg base C x n k' F d := by
  obtain ⟨f, fd, ps, v, ds, h1, h2, h3⟩ := h.ex
  exact ⟨f, fd, ps, v, ds, h1, h2.mono hk, h3⟩
end
section
variable {X : Cx} {cc : Cc} {dr : ENV → R (List Ag)} {pos p : Pos} {x : Str} {F : List DV → FO} {n : Nat} {d : D}
end
end Rf
set_option Elab.async false
set_option linter.all false
set_option maxRecDepth 100000
set_option maxHeartbeats 2000000
namespace Rf
open PySem PySem.Spec L2 PyProof.Rows PySem.Calls
section
variable {prog : Program} {w : World} {A : Around} {E : Value → Shared → Prop} {s : Shared} {K : PySem.W.Frag} {x C u t : Addr} {us : List Value} {Q : Value → Shared → Prop}
end
structure SupF (P : Program) (K : PySem.W.Frag) (mg : Str → Option Value) (C f cda cc : Addr) (x0 : Str) : Prop where
  fn : ∃ (oc : Value) (od : Option Addr) (fd : FuncData) (osl : Array (Option Value)) (ar : Arg), K.lookup f = some ⟨oc, od, .func fd, osl⟩ ∧ (fd.params.posonlyargs ++ fd.params.args).head? = some ar ∧ ar.arg = x0
  code : ∃ (ccl : Value) (cdd : Option Addr) (vs : Array Value) (ccs : Array (Option Value)) (file : Str) (tf : Tok), K.lookup cda = some ⟨ccl, cdd, .fields vs, ccs⟩ ∧ vs[2]? = some (.str file tf) ∧ ((P.main.file : Str) == file) = true
  cell : ∃ (cl : Value) (cld : Option Addr) (csl : Array (Option Value)), K.lookup cc = some ⟨cl, cld, .cell (some (.ref C)), csl⟩
  sub : PySem.W.mroIn K C (.ref C) = some true
  mgS : mg "super" = none
  opq : PySem.W.nsIn K cStatics "thirdparty.any" = some none
  ini : PySem.W.ks_superIn K C C "__init__" = some (some (.builtin "ValueError.__init__"))
  exV : PySem.W.subIn K (.ref C) (.type "ValueError") = some true
  top : (P.main.scope.names.lookup ("super" : Str)).isSome = false
section
variable {X : Cx} {pins : List (Addr × Obj)} {σ : L2.St} {H : Hp} {s : Shared} {C f cda cc a : Addr} {x0 : Str}
end
structure ScS (ps : List Str) (sc : Scope) : Prop where
  kind : sc.kind = .function
  co : sc.isCoroutine = false
  gen : sc.isGenerator = false
  nd : ps.Nodup
  loc : ∀ x ∈ ps, sc.names.lookup x = some .local
  nocell : ∀ y ∈ sc.names, y.2 ≠ .cell
  free : ∀ y ∈ sc.names, y.2 = .free → y.1 = "__class__"
  sup : sc.names.lookup ("super" : Str) = some .globalImplicit
  cls : sc.names.lookup ("__class__" : Str) = some .free
section
variable {CX : CXT} {P : Program} {w : World} {K : PySem.W.Frag} {mg : Str → Option Value} {base : Heap} {ps : List Str} {qual : Str} {scope : Scope} {f cda cc : Addr} {A : Around} {outer : List Env} {s : Shared} {H : Hp} {E : XK} {us : List Value} {vs : List V}
structure DmS (P : Program) (K : PySem.W.Frag) (mg : Str → Option Value) (C : Addr) (qual : Str) (st : Stmt) (ps : List Str) (x0 : Str) : Prop where
  ex : ∃ (f cda cc : Addr) (oc kV doc pm ct : Value) (od an : Option Addr) (osl : Array (Option Value)), K.lookup f = some ⟨oc, od, .func (PySem.W.ksFn "__init__" qual (defArgs st) (defBody st) (defScope st) .none kV doc pm an (.ref cda) ct cc), osl⟩ ∧ PySem.W.codeIn K (.ref cda) qual = true ∧
    PySem.W.findIn K (.ref C) "__init__" = some (some (.ref f)) ∧ PySem.W.isFn K (.ref f) = true ∧ SupF P K mg C f cda cc x0 ∧
    ∀ us : List Value, us.length = ps.length → bindArgs (PySem.W.ksFn "__init__" qual (defArgs st) (defBody st) (defScope st) .none kV doc pm an (.ref cda) ct cc) ⟨us, []⟩ = pure (ps.zip us)
end
end Rf
set_option Elab.async false
set_option linter.all false
set_option maxRecDepth 100000
set_option maxHeartbeats 2000000
namespace Rf
open PySem PySem.Spec L2 PyProof.Rows RT
section
variable {prog : Program} {w : World} {A : Around} {E : Value → Shared → Prop} {s : Shared}
end
theorem RpL.reverse {K : PySem.W.Frag} {C : Nat → Addr} {G : Hp} : ∀ {vs : List V} {ds : List D}, RpL K C G vs ds → RpL K C G vs.reverse ds.reverse
  | _, _, .nil => .nil
  | _, _, .cons h r => by
    rw [List.reverse_cons, List.reverse_cons]
    exact (RpL.reverse r).append (.cons h .nil)
end Rf
set_option Elab.async false
set_option linter.all false
set_option maxRecDepth 100000
set_option maxHeartbeats 2000000
namespace Rf
open PySem PySem.Spec L2 PyProof.Rows L2H
abbrev RoomH := L2H.RoomH
structure FnQ (P : Program) (w : World) (K : PySem.W.Frag) (mg : Str → Option Value) (base : Heap) (CX : CXT) (k : Nat) (f : Addr) (fd : FuncData) (ps : List Str) (sp : Sp) : Prop where
  len : ∀ vs H Q E, sp vs H Q E → vs.length = ps.length
  run : ∀ (A : Around) (outer : List Env) (s : Shared) (H : Hp) (as : Args) (us : List Value) (vs : List V) (Q : VK) (E : XK), RoomH k A → Env0 P w K mg base A outer s H → BindsTo s fd as (ps.zip us) → Vals vs us → sp vs H Q E → codeAny (model P w) A (.call (.ref f) as) (CR CX outer P w H s Q E) s
theorem FnQ.mono {P : Program} {w : World} {K : PySem.W.Frag} {mg : Str → Option Value} {base : Heap} {CX : CXT} {j k : Nat} {f : Addr} {fd : FuncData} {ps : List Str} {sp : Sp} (F : FnQ P w K mg base CX j f fd ps sp) (h : j ≤ k) : FnQ P w K mg base CX k f fd ps sp :=
  ⟨F.len, fun A outer s H as us vs Q E hr => F.run A outer s H as us vs Q E (hr.mono h)⟩
structure ScQ (N ps : List Str) (sc : Scope) : Prop where
  kind : sc.kind = .function
  co : sc.isCoroutine = false
  gen : sc.isGenerator = false
  nd : N.Nodup
  pre : N.take ps.length = ps
  loc : ∀ x ∈ ps, sc.names.lookup x = some .local
  nocell : ∀ y ∈ sc.names, y.2 ≠ .cell
  nofree : ∀ y ∈ sc.names, y.2 ≠ .free
section
variable {CX : CXT} {P : Program} {w : World} {K : PySem.W.Frag} {mg : Str → Option Value} {base : Heap} {N ps : List Str} {qual : Str} {scope : Scope} {f : Addr} {cd : Value} {A : Around} {outer : List Env} {s : Shared} {H : Hp} {E : XK} {us : List Value} {vs : List V}
end
section
variable {X : Cx} {CX : CXT} {k : Nat} {f : Addr} {fd : FuncData} {ps : List Str} {sp : Sp} {E : L2.St → XK} {x : Str} {q pos : Pos} {e : Expr} {es : List Expr} {t : TA}
end
section
variable {P : Program} {w : World} {K : PySem.W.Frag} {mg : Str → Option Value} {base : Heap} {C : Nat → Addr}
structure FkQ (P : Program) (w : World) (K : PySem.W.Frag) (mg : Str → Option Value) (base : Heap) (C : Nat → Addr) (x : Str) (n k : Nat) (F : List DV → FO) : Prop where
  ex : ∃ f fd ps, ps.length = n ∧ FnQ P w K mg base (L2.CX P w) k f fd ps (spF K C n F) ∧ mg x = some (.ref f) ∧ PySem.W.keepIn K (.ref f) = true ∧ Binds K fd ps []
end
section
variable {X : Cx} {cc : Cc} {x : Str} {n k : Nat} {F : List DV → FO} {dr : ENV → R (List Ag)} {p pos : Pos}
end
end Rf
set_option Elab.async false
set_option linter.all false
set_option maxRecDepth 100000
set_option maxHeartbeats 1000000
namespace Rf
open PySem PySem.Spec L2 PyProof.Rows
section
variable {X : Cx} {cc : Cc} {e a : Expr} {da : ENV → R D} {pos : Pos}
end
end Rf
set_option Elab.async false
set_option linter.all false
set_option maxRecDepth 100000
set_option maxHeartbeats 4000000
namespace L2
open PySem PySem.Spec PyProof.Rows
section
open PySem.HandSPX
variable {M : Model} {A : Around} {E : Value → Shared → Prop} {s : Shared} {Z : Obj → Prop} {base : Heap} {env : Env} {outer l : List Env} {L e : Addr}
end
section
variable {M : Model} {A : Around} {E : Value → Shared → Prop} {s : Shared} {env : Env}
end
section
variable {X : Cx}
end
end L2
set_option Elab.async false
set_option linter.all false
set_option maxRecDepth 100000
set_option maxHeartbeats 4000000
namespace L2
open PySem PySem.Spec PyProof.Rows
section
variable {X : Cx}
end
end L2
namespace Rf
open PySem PySem.Spec L2 PyProof.Rows
section
variable {X : Cx} {cc : Cc}
end
end Rf
set_option Elab.async false
set_option linter.all false
set_option maxRecDepth 100000
set_option maxHeartbeats 1000000
namespace Rf
open PySem PySem.Spec L2 PyProof.Rows
section
variable {X : Cx} {cc : Cc} {k : Nat} {tab : Nat → Option (List DV → FO)}
end
def ItT (t it : Addr) : HO := .ext fun h => h.get? it = some { cls := .type "tuple_iterator", data := .fields #[.ref t, .int 0 0] }
section
variable {X : Cx} {cc : Cc} {k : Nat}
def spItr (K : PySem.W.Frag) (fld : Str) (n : Nat) : Sp := fun vs H Q E => ∃ (a Ca dx : Addr) (fl : List (Str × V)) (t : Addr) (zs : List V), vs = [.ref a] ∧ H a = some (.ins Ca dx fl) ∧ Cls K Ca ∧ NoAttr K Ca fld ∧ fl.lookup fld = some (.ref t) ∧ SqT K H t zs ∧
  ∀ it, H it = none → n ≤ it → Q (.ref it) (upd H it (ItT t it))
structure FnIt (P : Program) (w : World) (K : PySem.W.Frag) (mg : Str → Option Value) (base : Heap) (CX : CXT) (k : Nat) (f : Addr) (fd : FuncData) (ps : List Str) (sp : Nat → Sp) : Prop where
  len : ∀ n vs H Q E, sp n vs H Q E → vs.length = ps.length
  run : ∀ (A : Around) (outer : List Env) (s : Shared) (H : Hp) (args : Args) (us : List Value) (vs : List V) (Q : VK) (E : XK), Room k A → Env0 P w K mg base A outer s H → BindsTo s fd args (ps.zip us) → Vals vs us → sp s.heap.objs.size vs H Q E →
    codeAny (model P w) A (.call (.ref f) args) (CR CX outer P w H s Q E) s
theorem FnIt.mono {P : Program} {w : World} {K : PySem.W.Frag} {mg : Str → Option Value} {base : Heap} {CX : CXT} {j k : Nat} {f : Addr} {fd : FuncData} {ps : List Str} {sp : Nat → Sp} (F : FnIt P w K mg base CX j f fd ps sp) (h : j ≤ k) :
    FnIt P w K mg base CX k f fd ps sp := ⟨F.len, fun A outer s H args us vs Q E hr => F.run A outer s H args us vs Q E (hr.mono h)⟩
structure ItM (P : Program) (w : World) (K : PySem.W.Frag) (mg : Str → Option Value) (base : Heap) (C : Nat → Addr) (k : Nat) (tab : Nat → Option Str) : Prop where
  at_ : ∀ c g, tab c = some g → ∃ f fd ps, Cls K (C c) ∧ NoAttr K (C c) g ∧ Meth K (C c) "__iter__" f ∧ FnIt P w K mg base (L2.CX P w) k f fd ps (spItr K g) ∧ Binds K fd ps []
theorem ItM.mono {P : Program} {w : World} {K : PySem.W.Frag} {mg : Str → Option Value} {base : Heap} {C : Nat → Addr} {k k' : Nat} {tab : Nat → Option Str} (h : ItM P w K mg base C k tab) (hk : k ≤ k') : ItM P w K mg base C k' tab :=
  ⟨fun c F e => let ⟨f, fd, ps, h1, h2, h3, h4, h5⟩ := h.at_ c F e; ⟨f, fd, ps, h1, h2, h3, h4.mono hk, h5⟩⟩
theorem ItM.or {P : Program} {w : World} {K : PySem.W.Frag} {mg : Str → Option Value} {base : Heap} {C : Nat → Addr} {k : Nat} {t u : Nat → Option Str} (h : ItM P w K mg base C k t) (g : ItM P w K mg base C k u) : ItM P w K mg base C k (fun c => match t c with | some F => some F | none => u c) :=
  ⟨fun c F e => by
    cases q : t c with
    | some F' => simp only [q] at e; cases e; exact h.at_ c _ q
    | none => simp only [q] at e; exact g.at_ c F e⟩
end
end Rf
set_option Elab.async false
set_option linter.all false
set_option maxRecDepth 100000
set_option maxHeartbeats 1000000
namespace Rf
open PySem PySem.Spec L2 PyProof.Rows
section
variable {X : Cx} {cc : Cc} {pos : Pos} {a b : Expr} {da db : ENV → R D}
end
end Rf
set_option Elab.async false
set_option linter.all false
set_option maxRecDepth 100000
set_option maxHeartbeats 1000000
namespace Rf
open PySem PySem.Spec L2 PyProof.Rows
section
variable {K : PySem.W.Frag} {C : Nat → Addr} {G : Hp} {p : Addr} {ys : List V}
end
section
variable {X : Cx} {cc : Cc} {x y : Str} {F : List DV → FO} {p p2 pos : Pos}
variable {b : Expr} {db : ENV → R D}
variable {a : Expr} {da : ENV → R D}
end
end Rf
set_option Elab.async false
set_option linter.all false
set_option maxRecDepth 100000
set_option maxHeartbeats 1000000
namespace Rf
open PySem PySem.Spec L2 PySem.SeqAt
open AutoSeq1 (wpAny_loadPart')
open MeetsSeq MeetsSeq2 MeetsSeq3 SeqRoads2
section
variable {prog : Program} {w : World} {Pd : Shared → Prop}
end
end Rf
set_option Elab.async false
set_option linter.all false
set_option maxRecDepth 100000
set_option maxHeartbeats 1000000
namespace Rf
open PySem PySem.Spec L2
section
variable {P : Program} {w : World} {K : PySem.W.Frag} {mg : Str → Option Value} {base : Heap} {C : Nat → Addr}
end
end Rf
set_option Elab.async false
set_option linter.all false
set_option maxRecDepth 100000
set_option maxHeartbeats 2000000
namespace Rf
open PySem PySem.Spec L2 PyProof.Rows
section
variable {X : Cx} {C : Nat → Addr} {pins : List (Addr × Obj)} {σ : L2.St} {G H : Hp} {s : Shared}
end
section
variable {X : Cx} {C : Nat → Addr} {kE : Nat} {tab : Nat → Option (List DV → FO)} {ok : Nat → Bool} {pins : List (Addr × Obj)} {σ : L2.St} {G H : Hp}
end
end Rf
set_option Elab.async false
set_option linter.all false
set_option maxRecDepth 100000
set_option maxHeartbeats 2000000
namespace Rf
open PySem PySem.Spec L2 PySem.SeqAt PyProof.Rows
open AutoSeq1 (wpAny_loadPart')
open MeetsSeq MeetsSeq2 MeetsSeq3 SeqRoads2
section
variable {prog : Program} {w : World} {Pd : Shared → Prop}
end
section
variable {X : Cx} {C : Nat → Addr} {kE : Nat} {tab : Nat → Option (List DV → FO)} {ok : Nat → Bool} {pins : List (Addr × Obj)} {σ : L2.St} {G H : Hp}
end
section
variable {X : Cx} {cc : Cc} {k : Nat} {tab : Nat → Option (List DV → FO)} {ok : Nat → Bool} {n : Nat}
variable {a b : Expr} {da db : ENV → R D} {pos : Pos}
end
end Rf
set_option Elab.async false
set_option linter.all false
set_option maxRecDepth 100000
set_option maxHeartbeats 1000000
namespace Rf
open PySem PySem.Spec L2 PyProof.Rows
section
variable {X : Cx} {cc : Cc} {x y : Str} {F : List DV → FO} {p p2 pos : Pos}
end
section
variable {X : Cx} {cc : Cc} {k e : Expr} {dk da : ENV → R D} {pos : Pos}
end
end Rf
set_option Elab.async false
set_option linter.all false
set_option maxRecDepth 100000
set_option maxHeartbeats 1000000
namespace Rf
open PySem PySem.Spec L2 PyProof.Rows
section
variable {X : Cx} {cc : Cc} {a b : Expr} {da db : ENV → R D} {pos : Pos}
end
end Rf
set_option Elab.async false
set_option linter.all false
set_option maxRecDepth 100000
set_option maxHeartbeats 1000000
namespace Rf
open PySem PySem.Spec L2 PyProof.Rows
structure IsTI (K : PySem.W.Frag) (C : Nat → Addr) (T : String) (f : Nat → Option Bool) : Prop where
  own : ∀ c b, f c = some b → Cls K (C c) ∧ PySem.W.findIn K (.ref (C c)) "__class__" = some (some (.builtin "object.__class__")) ∧ PySem.W.mroIn K (C c) (.type "object") = some true ∧ PySem.W.kitOne K (.ref (C c)) (.type T) = some b
  sp : PySem.W.specialIn K (.builtin "object.__class__") "__get__" = some (some (.builtin "getset_descriptor.__get__"))
  tk : PySem.W.takesIn K (.builtin "object.__class__") = some true
end Rf
set_option Elab.async false
set_option linter.all false
set_option maxRecDepth 100000
set_option maxHeartbeats 1000000
namespace Rf
open PySem PySem.Spec L2 PyProof.Rows
section
variable {X : Cx} {cc : Cc} {e a b c : Expr} {st : Stmt} {es : List Expr} {da db : ENV → R D} {dt : ENV → R Bool} {fa : ENV → R M} {dr : ENV → R (List D)} {p p2 pos : Pos}
variable {x y : Str} {F : List DV → FO} {n : Nat}
end
def PostA (K : PySem.W.Frag) (cc : Cc) (B G : Hp) (σ : L2.St) (Q : List V → Hp → Prop) (r : R (List Ag × M)) : Prop := match r with
  | .ok am ρ' => ∀ vs p G' H', Ext B G G' → Rl K cc B ρ' σ G' H' → AgR K cc.C σ G' vs am.1 → Own K cc.C B G' H' p am.2 → NotAt ρ' σ p → Q (vs ++ [.ref p]) H'
  | .exc e ρ' => ∀ cl dd G' H', Ext B G G' → Rl K cc B ρ' σ G' H' → ERp K cc.C G' e cl dd → cc.W cl dd σ H'
  | .bot => False
theorem PostA.ext {K : PySem.W.Frag} {cc : Cc} {B G G1 : Hp} {σ : L2.St} {Q : List V → Hp → Prop} {r : R (List Ag × M)} (x : Ext B G G1) (h : PostA K cc B G σ Q r) : PostA K cc B G1 σ Q r := by
  cases r with
  | ok c ρ2 => exact fun v p G' H' e => h v p G' H' (x.trans e)
  | exc c ρ2 => exact fun cl dd G' H' e => h cl dd G' H' (x.trans e)
  | bot => exact h
theorem PostA.bind {α β : Type} {K : PySem.W.Frag} {cc : Cc} {V1 : Hp → β → α → Prop} {B G : Hp} {σ : L2.St} {Q : List V → Hp → Prop} {Q' : β → Hp → Prop} {r : R α} {f : α → ENV → R (List Ag × M)}
    (h : PostA K cc B G σ Q (r.bind f))
    (k : ∀ d ρ1 G1 H1 x, Ext B G G1 → Rl K cc B ρ1 σ G1 H1 → V1 G1 x d → PostA K cc B G1 σ Q (f d ρ1) → Q' x H1) : Post K cc V1 B G σ Q' r := by
  cases r with
  | ok d ρ1 => exact fun v G1 H1 e1 R1 p1 => k d ρ1 G1 H1 v e1 R1 p1 (PostA.ext e1 (show PostA K cc B G σ Q (f d ρ1) from h))
  | exc e ρ1 => exact h
  | bot => exact h
section
variable {X : Cx} {cc : Cc} {e a b c : Expr} {es : List Expr} {da : ENV → R D} {fa : ENV → R M} {dr : ENV → R (List Ag × M)} {p p2 pos : Pos}
theorem PostA.step {K : PySem.W.Frag} {cc : Cc} {B G : Hp} {σ : L2.St} {Q Q' : List V → Hp → Prop} {r : R (List Ag × M)} {f : List Ag → List Ag} (h : PostA K cc B G σ Q (r.bind fun am ρ2 => .ok (f am.1, am.2) ρ2))
    (k : ∀ vs p G' H' as, Ext B G G' → AgR K cc.C σ G' vs as → (∀ us, us = us → AgR K cc.C σ G' us (f as) → Q (us ++ [.ref p]) H') → Q' (vs ++ [.ref p]) H') : PostA K cc B G σ Q' r := by
  cases r with
  | ok am ρ1 => exact fun vs p G' H' ex R1 ag ow na => k vs p G' H' am.1 ex ag fun us _ q => h us p G' H' ex R1 q ow na
  | exc e ρ1 => exact h
  | bot => exact h
def xCc (cc : Cc) (σ : L2.St) : Cc := { cc with W := fun cl dd _ H => cc.W cl dd σ H }
variable {K : PySem.W.Frag} {B G H G' H' : Hp} {ρ ρ2 : ENV} {σ : L2.St}
theorem AgR.up {C : Nat → Addr} {v : Option V} {vs : List V} {as : List Ag} (r : AgR K C σ G vs as) (q : Addr) (hq : v = some (.ref q)) : AgR K C (σ ++ [v]) G (vs ++ [.ref q]) (as ++ [.inr σ.length]) := by
  induction r with
  | nil => exact .io (by rw [List.getElem?_append_right (Nat.le_refl _), Nat.sub_self, hq]; rfl) .nil
  | sh h r ih => exact .sh h ih
  | io h r ih => exact .io (by rw [List.getElem?_append_left (List.getElem?_eq_some_iff.mp h).1]; exact h) ih
theorem get_up {α : Type} {l : List α} {x y : α} {i : Nat} (h : (l ++ [x])[i]? = some y) : (i < l.length ∧ l[i]? = some y) ∨ (i = l.length ∧ x = y) := by
  by_cases q : i < l.length
  · rw [List.getElem?_append_left q] at h; exact .inl ⟨q, h⟩
  · have : i < (l ++ [x]).length := (List.getElem?_eq_some_iff.mp h).1
    rw [List.length_append, List.length_singleton] at this
    obtain rfl : i = l.length := by omega
    rw [List.getElem?_append_right (Nat.le_refl _), Nat.sub_self] at h
    cases h
    exact .inr ⟨rfl, rfl⟩
theorem Rl.up (R : Rl K cc B ρ σ G H) {q : Addr} {m : M} (o : Own K cc.C B G H q m) (na : NotAt ρ σ q) : Rl K (xCc cc σ) B (ρ ++ [some (.ow m)]) (σ ++ [some (.ref q)]) G H where
  bk := R.bk
  gk := R.gk
  ln := by rw [List.length_append, List.length_append, R.ln]; rfl
  sh := fun i d e => by
    rcases get_up e with ⟨l, h⟩ | ⟨_, h⟩
    · obtain ⟨v, h1, h2⟩ := R.sh i d h
      exact ⟨v, by rw [List.getElem?_append_left (List.getElem?_eq_some_iff.mp h1).1]; exact h1, h2⟩
    · cases h
  ow := fun i m' e => by
    rcases get_up e with ⟨l, h⟩ | ⟨rfl, h⟩
    · obtain ⟨v, h1, h2⟩ := R.ow i m' h
      exact ⟨v, by rw [List.getElem?_append_left (List.getElem?_eq_some_iff.mp h1).1]; exact h1, h2⟩
    · cases h
      exact ⟨q, by rw [← R.ln, List.getElem?_append_right (Nat.le_refl _), Nat.sub_self]; rfl, o⟩
  df := fun i j m1 m2 p e1 e2 e3 e4 => by
    rcases get_up e1 with ⟨l1, h1⟩ | ⟨rfl, h1⟩
    · rw [List.getElem?_append_left (by rw [R.ln]; exact l1)] at e3
      rcases get_up e2 with ⟨l2, h2⟩ | ⟨rfl, h2⟩
      · rw [List.getElem?_append_left (by rw [R.ln]; exact l2)] at e4
        exact R.df i j m1 m2 p h1 h2 e3 e4
      · rw [← R.ln, List.getElem?_append_right (Nat.le_refl _), Nat.sub_self] at e4
        cases e4
        exact (na i m1 h1 e3).elim
    · rw [← R.ln, List.getElem?_append_right (Nat.le_refl _), Nat.sub_self] at e3
      cases e3
      rcases get_up e2 with ⟨l2, h2⟩ | ⟨rfl, h2⟩
      · rw [List.getElem?_append_left (by rw [R.ln]; exact l2)] at e4
        exact (na j m2 h2 e4).elim
      · rfl
  pa := fun i hi => by
    have := R.pa i hi
    rw [List.getElem?_append_left (List.getElem?_eq_some_iff.mp this).1]
    exact this
  kg := R.kg
theorem get_dl {α : Type} {l : List α} {i : Nat} {y : α} (h : l.dropLast[i]? = some y) : l[i]? = some y ∧ i + 1 < l.length := by
  have hl : i < l.dropLast.length := (List.getElem?_eq_some_iff.mp h).1
  rw [List.length_dropLast] at hl
  rw [List.getElem?_dropLast, if_pos hl] at h
  exact ⟨h, by omega⟩
theorem Rl.down {x : Option V} (R : Rl K (xCc cc σ) B ρ (σ ++ [x]) G H) (pa : ∀ (i : Nat), i ∈ cc.pr → σ[i]? = some (some (.ref (cc.ad i)))) : Rl K cc B ρ.dropLast σ G H where
  bk := R.bk
  gk := R.gk
  ln := by have := R.ln; rw [List.length_append, List.length_singleton] at this; rw [List.length_dropLast]; omega
  sh := fun i d e => by
    obtain ⟨h, l⟩ := get_dl e
    obtain ⟨v, h1, h2⟩ := R.sh i d h
    have := R.ln; rw [List.length_append, List.length_singleton] at this
    exact ⟨v, by rw [List.getElem?_append_left (by omega)] at h1; exact h1, h2⟩
  ow := fun i m e => by
    obtain ⟨h, l⟩ := get_dl e
    obtain ⟨v, h1, h2⟩ := R.ow i m h
    have := R.ln; rw [List.length_append, List.length_singleton] at this
    exact ⟨v, by rw [List.getElem?_append_left (by omega)] at h1; exact h1, h2⟩
  df := fun i j m1 m2 p e1 e2 e3 e4 => by
    obtain ⟨h1, l1⟩ := get_dl e1
    obtain ⟨h2, l2⟩ := get_dl e2
    exact R.df i j m1 m2 p h1 h2 (by rw [List.getElem?_append_left (List.getElem?_eq_some_iff.mp e3).1]; exact e3) (by rw [List.getElem?_append_left (List.getElem?_eq_some_iff.mp e4).1]; exact e4)
  pa := pa
  kg := R.kg
variable {x : Str} {F : List DV → FO} {n : Nat}
end
end Rf
set_option Elab.async false
set_option linter.all false
set_option maxRecDepth 100000
set_option maxHeartbeats 1000000
namespace Rf
open PySem PySem.Spec L2 PyProof.Rows
structure Nst (K : PySem.W.Frag) (C : Nat → Addr) (B B' G : Hp) (p : Addr) (qs : List Addr) (N : List (List D)) : Prop where
  sub : Same B B'
  lp : B' p = some (.lst (qs.map V.ref))
  len : qs.length = N.length
  nd : (p :: qs).Nodup
  fb : ∀ a ∈ p :: qs, B a = none
  fg : ∀ a ∈ p :: qs, G a = none
  back : ∀ a o, B' a = some o → B a = some o ∨ a ∈ p :: qs
  at_ : ∀ (k : Nat) (q : Addr) (ds : List D), qs[k]? = some q → N[k]? = some ds → ∃ ys, B' q = some (.lst ys) ∧ RpL K C G ys ds
section
variable {K : PySem.W.Frag} {cc : Cc} {B B' G G' H : Hp} {p : Addr} {qs : List Addr} {N : List (List D)} {ρ : ENV} {σ : L2.St} {i : Nat}
theorem Nst.in_ (n : Nst K cc.C B B' G p qs N) {a : Addr} (h : a ∈ p :: qs) : ∃ o, B' a = some o := by
  rcases List.mem_cons.mp h with rfl | h
  · exact ⟨_, n.lp⟩
  · obtain ⟨k, hk, e⟩ := List.getElem_of_mem h
    obtain ⟨ys, e2, _⟩ := n.at_ k a N[k]! (by rw [List.getElem?_eq_getElem hk, e]) (by
      have hk : k < N.length := by rw [← n.len]; exact hk
      rw [getElem!_pos N k hk, List.getElem?_eq_getElem hk])
    exact ⟨_, e2⟩
theorem Ext.none {B G G' : Hp} (e : Ext B G G') {a : Addr} {o : HO} (hb : B a = some o) (hg : G a = none) : G' a = none := by
  cases q : G' a with
  | none => rfl
  | some u =>
    rcases e.nb a u q with h | h
    · rw [hg] at h; cases h
    · rw [hb] at h; cases h
theorem Nst.mono (n : Nst K cc.C B B' G p qs N) (e : Ext B' G G') : Nst K cc.C B B' G' p qs N :=
  ⟨n.sub, n.lp, n.len, n.nd, n.fb, fun a h => by
    obtain ⟨o, ho⟩ := n.in_ h
    exact e.none ho (n.fg a h), n.back, fun k q ds h1 h2 => by
    obtain ⟨ys, h3, h4⟩ := n.at_ k q ds h1 h2
    exact ⟨ys, h3, h4.mono e.gg⟩⟩
theorem Ext.down {B B' G G' : Hp} (s : Same B B') (e : Ext B' G G') : Ext B G G' := ⟨e.gg, fun a o h => by
  rcases e.nb a o h with h | h
  · exact .inl h
  · exact .inr (s.free h)⟩
def Cc.pin (cc : Cc) (i : Nat) (p : Addr) : Cc := { cc with pr := i :: cc.pr, ad := fun j => if j = i then p else cc.ad j }
theorem Own.down {C : Nat → Addr} {B B' G H : Hp} {a : Addr} {m : M} (s : Same B B') (o : Own K C B' G H a m) : Own K C B G H a m := ⟨s.free o.nb, o.ng, o.at_⟩
theorem Rl.down2 (s : Same B B') (hi : i ∉ cc.pr) (r : Rl K (cc.pin i p) B' ρ σ G H) : Rl K cc B ρ σ G H where
  bk := s.trans r.bk
  gk := r.gk
  ln := r.ln
  sh := r.sh
  ow := fun j m e => let ⟨q, h, o⟩ := r.ow j m e; ⟨q, h, o.down s⟩
  df := r.df
  pa := fun j hj => by
    have := r.pa j (List.mem_cons_of_mem _ hj)
    have ne : j ≠ i := fun z => hi (z ▸ hj)
    have e : (cc.pin i p).ad j = cc.ad j := if_neg ne
    rw [e] at this
    exact this
  kg := r.kg
theorem Rl.at_pin (r : Rl K (cc.pin i p) B' ρ σ G H) : σ[i]? = some (some (.ref p)) := by
  have := r.pa i List.mem_cons_self
  have e : (cc.pin i p).ad i = p := if_pos rfl
  rw [e] at this
  exact this
theorem Rl.pin (r : Rl K cc B' ρ σ G H) (hi : i < ρ.length) (hp : i ∉ cc.pr) : Rl K (cc.pin i p) B' (ρ.set i none) (σ.set i (some (.ref p))) G H := by
  have hi' : i < σ.length := by rw [r.ln]; exact hi
  have old : ∀ {j : Nat} {x : DV}, (ρ.set i none)[j]? = some (some x) → j ≠ i ∧ ρ[j]? = some (some x) := fun {j x} e => by
    by_cases h : j = i
    · subst h; rw [List.getElem?_set_self hi] at e; cases e
    · rw [List.getElem?_set_ne (fun z => h z.symm)] at e; exact ⟨h, e⟩
  have oth : ∀ {j : Nat}, j ≠ i → (σ.set i (some (V.ref p)))[j]? = σ[j]? := fun {j} h => List.getElem?_set_ne fun z => h z.symm
  refine ⟨r.bk, r.gk, by rw [List.length_set, List.length_set]; exact r.ln, fun j d e => ?_, fun j m e => ?_, fun j k m m' q e1 e2 e3 e4 => ?_, fun j hj => ?_, r.kg⟩
  · obtain ⟨h1, h2⟩ := old e
    rw [oth h1]; exact r.sh j d h2
  · obtain ⟨h1, h2⟩ := old e
    rw [oth h1]; exact r.ow j m h2
  · obtain ⟨h1, h2⟩ := old e1
    obtain ⟨h3, h4⟩ := old e2
    rw [oth h1] at e3
    rw [oth h3] at e4
    exact r.df j k m m' q h2 h4 e3 e4
  · by_cases h : j = i
    · subst h
      rw [List.getElem?_set_self hi']
      exact congrArg (fun a => some (some (V.ref a))) (show p = (cc.pin j p).ad j from (if_pos rfl).symm)
    · have hj : j ∈ cc.pr := (List.mem_cons.mp hj).resolve_left h
      rw [oth h, r.pa j hj]
      exact congrArg (fun a => some (some (V.ref a))) (show cc.ad j = (cc.pin i p).ad j from (if_neg h).symm)
theorem Nst.store (n : Nst K cc.C B B' G p qs N) {j l : Nat} {q : Addr} {ys : List V} {ds : List D} {v : V} {d : D} (h1 : qs[j]? = some q) (h2 : N[j]? = some ds) (h3 : B' q = some (.lst ys)) (h4 : RpL K cc.C G ys ds) (hv : Rp K cc.C G v d) :
    Nst K cc.C B (upd B' q (.lst (ys.set l v))) G p qs (N.set j (ds.set l d)) := by
  have hq : q ∈ qs := List.mem_of_getElem? h1
  have np : p ≠ q := fun z => (List.nodup_cons.mp n.nd).1 (z ▸ hq)
  refine ⟨fun a o e => ?_, by rw [upd_ne np]; exact n.lp, by rw [List.length_set]; exact n.len, n.nd, n.fb, n.fg, fun a o e => ?_, fun k q2 ds2 e1 e2 => ?_⟩
  · have : a ≠ q := fun z => by rw [z, n.fb q (List.mem_cons_of_mem _ hq)] at e; cases e
    rw [upd_ne this]; exact n.sub _ _ e
  · by_cases z : a = q
    · rw [z]; exact .inr (List.mem_cons_of_mem _ hq)
    · rw [upd_ne z] at e; exact n.back a o e
  · by_cases z : k = j
    · subst z
      rw [h1] at e1
      obtain rfl : q = q2 := by simpa using e1
      have hl : k < N.length := (List.getElem?_eq_some_iff.mp h2).1
      rw [List.getElem?_set_self hl] at e2
      obtain rfl : ds.set l d = ds2 := by simpa using e2
      exact ⟨_, upd_same, h4.set hv l⟩
    · rw [List.getElem?_set_ne fun e => z e.symm] at e2
      obtain ⟨ys2, e3, e4⟩ := n.at_ k q2 ds2 e1 e2
      have ne : q2 ≠ q := fun e => by
        subst e
        have nd := List.pairwise_iff_getElem.mp (List.nodup_cons.mp n.nd).2
        obtain ⟨l1, v1⟩ := List.getElem?_eq_some_iff.mp e1
        obtain ⟨l2, v2⟩ := List.getElem?_eq_some_iff.mp h1
        rcases Nat.lt_trichotomy k j with c | c | c
        · exact nd k j l1 l2 c (v1.trans v2.symm)
        · exact z c
        · exact nd j k l2 l1 c (v2.trans v1.symm)
      exact ⟨ys2, by rw [upd_ne ne]; exact e3, e4⟩
theorem refs_ok {G : Hp} : ∀ {qs : List Addr} {N : List (List D)}, qs.length = N.length → (∀ (k : Nat) (q : Addr) (ds : List D), qs[k]? = some q → N[k]? = some ds → ∃ ys, G q = some (.lst ys) ∧ RpL K cc.C G ys ds) → RpL K cc.C G (qs.map V.ref) (N.map D.lst)
  | [], [], _, _ => .nil
  | [], _ :: _, h, _ => by cases h
  | _ :: _, [], h, _ => by cases h
  | q :: qs, ds :: N, h, k => by
    obtain ⟨ys, h1, h2⟩ := k 0 q ds rfl rfl
    exact .cons (.lst h1 h2) (refs_ok (by simpa using h) fun j q ds a b => k (j + 1) q ds a b)
theorem Nst.done (n : Nst K cc.C B B' G p qs N) (r : Rl K (cc.pin i p) B' ρ σ G H) (hi : i < ρ.length) (hp : i ∉ cc.pr) : ∃ G2, Ext B G G2 ∧ Rl K cc B (ρ.set i (some (.ow (.lst (N.map D.lst))))) σ G2 H := by
  classical
  have npq : p ∉ qs := (List.nodup_cons.mp n.nd).1
  let G2 : Hp := fun a => if a ∈ qs then B' a else G a
  have e1 : ∀ {a}, a ∈ qs → G2 a = B' a := fun h => if_pos h
  have e2 : ∀ {a}, a ∉ qs → G2 a = G a := fun h => if_neg h
  have sg : Same G G2 := fun a o h => by
    have : a ∉ qs := fun z => by rw [n.fg a (List.mem_cons_of_mem _ z)] at h; cases h
    rw [e2 this]; exact h
  have gk : Same G2 H := fun a o h => by
    by_cases z : a ∈ qs
    · rw [e1 z] at h; exact r.bk _ _ h
    · rw [e2 z] at h; exact r.gk _ _ h
  have r0 := r.down2 n.sub hp
  have nin : ∀ {j : Nat} {m : M}, ρ[j]? = some (some (.ow m)) → ∀ a, σ[j]? = some (some (.ref a)) → a ∉ p :: qs := fun {j m} e a ha z => by
    obtain ⟨q, hq, o⟩ := r.ow j m e
    rw [ha] at hq
    obtain rfl : a = q := by simpa using hq
    obtain ⟨u, hu⟩ := n.in_ z
    rw [o.nb] at hu; cases hu
  have pin := r.at_pin
  have own : Own K cc.C B G2 H p (.lst (N.map D.lst)) := ⟨n.fb p List.mem_cons_self, by rw [e2 npq]; exact n.fg p List.mem_cons_self, _, r.bk _ _ n.lp, _, rfl, refs_ok n.len fun k q ds a b => by
    obtain ⟨ys, h1, h2⟩ := n.at_ k q ds a b
    exact ⟨ys, by rw [e1 (List.mem_of_getElem? a)]; exact h1, h2.mono sg⟩⟩
  have old : ∀ {j : Nat} {x : DV}, j ≠ i → (ρ.set i (some (DV.ow (.lst (N.map D.lst)))))[j]? = some (some x) → ρ[j]? = some (some x) := fun {j x} h e => by
    rw [List.getElem?_set_ne (fun z => h z.symm)] at e; exact e
  refine ⟨G2, ⟨sg, fun a o h => ?_⟩, r0.bk, gk, by rw [List.length_set]; exact r0.ln, fun j d e => ?_, fun j m e => ?_, fun j k m m' q a1 a2 a3 a4 => ?_, r0.pa, r0.kg.trans sg⟩
  · by_cases z : a ∈ qs
    · exact .inr (n.fb a (List.mem_cons_of_mem _ z))
    · rw [e2 z] at h; exact .inl h
  · by_cases z : j = i
    · subst z; rw [List.getElem?_set_self hi] at e; cases e
    · obtain ⟨v, h1, h2⟩ := r0.sh j d (old z e)
      exact ⟨v, h1, h2.mono sg⟩
  · by_cases z : j = i
    · subst z
      rw [List.getElem?_set_self hi] at e
      obtain rfl : (M.lst (N.map D.lst)) = m := by simpa using e
      exact ⟨p, pin, own⟩
    · obtain ⟨q, h1, o⟩ := r0.ow j m (old z e)
      obtain ⟨x, hx, hm⟩ := o.at_
      have nq : q ∉ qs := fun y => nin (old z e) q h1 (List.mem_cons_of_mem _ y)
      exact ⟨q, h1, o.nb, by rw [e2 nq]; exact o.ng, x, hx, hm.mono sg⟩
  · by_cases z : j = i
    · by_cases z2 : k = i
      · rw [z, z2]
      · subst z
        rw [pin] at a3
        obtain rfl : p = q := by simpa using a3
        exact (nin (old z2 a2) p a4 List.mem_cons_self).elim
    · by_cases z2 : k = i
      · subst z2
        rw [pin] at a4
        obtain rfl : p = q := by simpa using a4
        exact (nin (old z a1) p a3 List.mem_cons_self).elim
      · exact r0.df j k m m' q (old z a1) (old z2 a2) a3 a4
end
end Rf
set_option Elab.async false
set_option linter.all false
set_option maxRecDepth 100000
set_option maxHeartbeats 1000000
namespace Rf
open PySem PySem.Spec L2 PyProof.Rows
section
variable {X : Cx} {cc : Cc}
end
end Rf
set_option Elab.async false
set_option linter.all false
set_option maxRecDepth 100000
set_option maxHeartbeats 1000000
namespace Rf
open PySem PySem.Spec L2 PyProof.Rows
section
variable {X : Cx} {cc : Cc} {i : Nat} {p : Addr}
variable {tg iter e k1 k2 : Expr} {st1 st2 : Stmt} {sa sb sr : ENV → R Fl} {da d1 d2 : ENV → R D} {di : ENV → R (List D)} {g : D → ENV → Option ENV} {sl : List Nat} {y : Str} {pos pos3 py p1 p2 : Pos} {sts : List Stmt}
end
end Rf
set_option Elab.async false
set_option linter.all false
set_option maxRecDepth 100000
set_option maxHeartbeats 1000000
namespace Rf
open PySem PySem.Spec L2 PyProof.Rows
section
variable {X : Cx} {cc : Cc} {e : Expr} {da : ENV → R D} {pos : Pos}
end
end Rf
set_option Elab.async false
set_option linter.all false
set_option maxRecDepth 100000
set_option maxHeartbeats 4000000
namespace Rf
open PySem PySem.Spec L2
open PyProof.Rows hiding St
def NoD (H : Hp) (x : V) : Prop := ∃ p ob xs, x = V.ref p ∧ H p = some (.frz ob (.tup xs)) ∧ ob.cls = .type "tuple" ∧ ob.dict = none
theorem NoD.mono {G H : Hp} {x : V} (s : Same G H) (n : NoD G x) : NoD H x := by
  obtain ⟨p, ob, xs, e, h, c, d⟩ := n
  exact ⟨p, ob, xs, e, s _ _ h, c, d⟩
def RpN (K : PySem.W.Frag) (C : Nat → Addr) (G : Hp) (v : V) (d : D) : Prop := Rp K C G v d ∧ NoD G v
def ValRN (K : PySem.W.Frag) (C : Nat → Addr) (G : Hp) (x : V) : DV → Prop
  | .sh d => RpN K C G x d
  | .ow _ => False
def spN (K : PySem.W.Frag) (C : Nat → Addr) (n : Nat) (F : List DV → FO) : Sp := fun vs H Q E => ∃ ds B G, vs.length = n ∧ Same B H ∧ Same G H ∧ AR K C B G H vs ds ∧ Apart vs ds ∧
  match F ds with
  | .ok v ms => ∀ x G' H', Ext B G G' → Same B H' → Same G' H' → Outs K C B G' H' vs ds ms → ValRN K C G' x v → Q x H'
  | .exc e ms => ∀ cl dd G' H', Ext B G G' → Same B H' → Same G' H' → Outs K C B G' H' vs ds ms → ERp K C G' e cl dd → E cl dd H'
  | .bot => False
section
variable {P : Program} {w : World} {K : PySem.W.Frag} {mg : Str → Option Value} {base : Heap} {C : Nat → Addr}
structure FkN (P : Program) (w : World) (K : PySem.W.Frag) (mg : Str → Option Value) (base : Heap) (C : Nat → Addr) (x : Str) (n k : Nat) (F : List DV → FO) : Prop where
  ex : ∃ f fd ps, ps.length = n ∧ FnOk P w K mg base (L2.CX P w) k f fd ps (spN K C n F) ∧ mg x = some (.ref f) ∧ PySem.W.keepIn K (.ref f) = true ∧ Binds K fd ps []
theorem FkN.mono {x : Str} {n k k' : Nat} {F : List DV → FO} (h : FkN P w K mg base C x n k F) (hk : k ≤ k') : FkN P w K mg base C x n k' F := by
  obtain ⟨f, fd, ps, h1, h2, h3⟩ := h.ex
  exact ⟨f, fd, ps, h1, h2.mono hk, h3⟩
end
section
variable {P : Program} {w : World} {K : PySem.W.Frag} {mg : Str → Option Value} {base : Heap} {C : Nat → Addr}
end
def PostVN (K : PySem.W.Frag) (cc : Cc) (B G : Hp) (σ : St) (Q : V → Hp → Prop) (r : R DV) : Prop := match r with
  | .ok (.sh d) ρ' => ∀ x G' H', Ext B G G' → Rl K cc B ρ' σ G' H' → RpN K cc.C G' x d → Q x H'
  | .ok (.ow _) _ => False
  | .exc e ρ' => ∀ cl dd G' H', Ext B G G' → Rl K cc B ρ' σ G' H' → ERp K cc.C G' e cl dd → cc.W cl dd σ H'
  | .bot => False
theorem PostVN.sh {K : PySem.W.Frag} {cc : Cc} {B G : Hp} {σ : St} {Q : V → Hp → Prop} {r : R DV} (h : Post K cc (RpN K cc.C) B G σ Q (r.bind onSh)) : PostVN K cc B G σ Q r := by
  cases r with
  | ok v ρ => cases v with
    | sh d => exact h
    | ow m => exact h.elim
  | exc e ρ => exact h
  | bot => exact h
theorem PostVN.ext {K : PySem.W.Frag} {cc : Cc} {B G G1 : Hp} {σ : St} {Q : V → Hp → Prop} {r : R DV} (h : PostVN K cc B G σ Q r) (x : Ext B G G1) : PostVN K cc B G1 σ Q r := by
  cases r with
  | ok v ρ => cases v with
    | sh d => exact fun v G' H' e => h v G' H' (x.trans e)
    | ow m => exact h
  | exc e ρ => exact fun cl dd G' H' e => h cl dd G' H' (x.trans e)
  | bot => exact h
section
variable {X : Cx} {cc : Cc} {e : Expr} {es : List Expr} {da : ENV → R D} {dr : ENV → R (List Ag)} {pos p : Pos}
variable {K : PySem.W.Frag} {B G H G' H' : Hp} {ρ ρ2 : ENV} {σ : St}
end
section
variable {X : Cx} {cc : Cc} {dr : ENV → R (List Ag)} {x : Str} {F : List DV → FO} {n : Nat} {p pos : Pos}
end
end Rf
set_option Elab.async false
set_option linter.all false
set_option maxRecDepth 100000
set_option maxHeartbeats 1000000
namespace Rf
open PySem PySem.Spec L2 PyProof.Rows
section
variable {X : Cx} {cc : Cc} {tg a b : Expr} {da db : ENV → R D} {pos p tpos : Pos} {elts : List Expr} {kk : Nat}
end
end Rf
set_option Elab.async false
set_option linter.all false
set_option maxRecDepth 100000
set_option maxHeartbeats 4000000
namespace L2
open PySem PySem.Spec PyProof.Rows
variable {X : Cx}
end L2
namespace Rf
open PySem PySem.Spec L2 PyProof.Rows
end Rf
set_option Elab.async false
set_option linter.all false
set_option maxRecDepth 100000
set_option maxHeartbeats 1000000
namespace Rf
open PySem PySem.Spec L2 PyProof.Rows
def D.isStr : D → Bool
  | .str _ => true
  | _ => false
section
variable {K : PySem.W.Frag} {C : Nat → Addr} {G G' : Hp}
end
section
variable {K : PySem.W.Frag} {cc : Cc} {B G H : Hp} {ρ : ENV} {σ : L2.St} {h : Nat} {m m' : M} {N : List (List D)}
end
end Rf
set_option Elab.async false
set_option linter.all false
set_option maxRecDepth 100000
set_option maxHeartbeats 1000000
namespace Rf
open PySem PySem.Spec L2 PyProof.Rows
section
variable {K : PySem.W.Frag} {cc : Cc} {B B' G H H' : Hp} {ρ ρr : ENV} {σ : L2.St} {i : Nat} {p : Addr} {qs : List Addr} {N N' : List (List D)} {Dn : Ends}
end
section
variable {X : Cx} {cc : Cc} {i h : Nat} {F : List DV → FO} {tc1 tc2 : ENV → R Bool} {d1 d2 : ENV → R D} {a1 b1 a2 b2 : Int} {sr : ENV → R Fl}
variable {x y z : Str} {c1 c2 e1 e2 u1 v1 u2 v2 : Expr} {sts : List Stmt} {p0 pc pz py pos pos1 pos2 pos3 pos4 w1 w2 w3 w4 w5 w6 : Pos}
end
end Rf
set_option Elab.async false
set_option linter.all false
set_option maxRecDepth 100000
set_option maxHeartbeats 4000000
namespace L2
open PySem PySem.Spec PyProof.Rows
variable {X : Cx}
end L2
namespace Rf
open PySem PySem.Spec L2 PyProof.Rows
end Rf
set_option Elab.async false
set_option linter.all false
set_option maxRecDepth 100000
set_option maxHeartbeats 2000000
namespace Hd
open PySem PySem.Spec PyProof.Rows L2
theorem walk_endX {l : PySem.W.OpenLaw} {k : Nat} {q : Program} {loose : List Str} {XP : (Str → Option Value) → Heap → Prop} {N : Nat} {fs : List Fx} {ds : List DX} {d : DefRec} {F : List Rf.DV → Rf.FO} (hn : l.most = some 63) (hdf : d.params.defaults = [])
    (hd : d.name = "law") (hr : Room k callerA)
    (hF : ∀ (w : World) (mg : Str → Option Value) (h : Heap) (K : Fr), K.In h → SaysX fs ds K → h.Ns mainGlobals mg → ∃ (C : Nat → Addr) (st : Stmt) (df : Rf.Df K mg "law" st ["_law_script"]), ∀ base : Heap, FnOk l.prog w K mg base (L2.CX l.prog w) k df.f df.fd ["_law_script"] (Rf.spF K C 1 F))
    (ht : ∀ ns : List Int, ns.length ≤ 63 → F [.sh (.scr (ns.map Rf.D.int))] = .ok (.sh (.bl true)) []) : PySem.W.WalkO q loose XP (hookX N fs ds).says l.row.toRowW d [] (fun f vs => PySem.call f vs) := by
  refine Att.attach_call hn hdf fun w s₀ s₁ mg mb fa o pm cd doc a vs ns G Y ho hd' hcd hmg hobj hints hlen hg => ?_
  obtain ⟨K, KX, c⟩ := Y
  obtain ⟨C, st, df, h⟩ := hF w mg _ K KX c G.T.g
  obtain ⟨hf1, hf2, hf3⟩ := df.ex.choose_spec.choose_spec
  rw [hd] at hmg
  have e : Value.ref fa = Value.ref df.f := Option.some.inj (hmg.symm.trans hf2)
  injection e with e
  subst e
  exact law_call KX G.T.g G.T.b G.T.builtins G.T.nolimit hg hobj hints (Nat.le_trans hlen (by decide)) hr (fun base _ _ => (h base).imp (Rf.script_imp ht)) (fun s u => .of_eq (hf3 [u] rfl)) (fun H hO hS => ⟨a, ns, rfl, hS, hlen, fun _ => rfl⟩) fun H e s' z => by
    obtain ⟨_, _, _, _, _, _, _, _, _, _, _, _, z⟩ := z
    exact z.elim
end Hd
set_option Elab.async false
set_option linter.all false
set_option maxRecDepth 100000
set_option maxHeartbeats 1000000
namespace Rf
open PySem PySem.Spec L2 PyProof.Rows
def four : D → Bool
  | .lst es => es.length == 4
  | _ => false
theorem four_lst (es : List D) (h : es.length = 4) : four (.lst es) = true := by show (es.length == 4) = true; rw [h]; rfl
def It (K : PySem.W.Frag) (C : Nat → Addr) (B B' G : Hp) (p : Addr) (v : V) (d : D) : Prop :=
  (∃ q ys es, v = .ref q ∧ d = .lst es ∧ es.length = 4 ∧ B q = none ∧ q ≠ p ∧ B' q = some (.lst ys) ∧ RpL K C G ys es) ∨ (four d = false ∧ Rp K C G v d)
structure Nx (K : PySem.W.Frag) (C : Nat → Addr) (B B' G : Hp) (p : Addr) (vs : List V) (ds : List D) : Prop where
  sub : Same B B'
  lp : B' p = some (.lst vs)
  fr : ∀ a o, B' a = some o → B a = some o ∨ (B a = none ∧ G a = none)
  pb : B p = none
  len : vs.length = ds.length
  it : ∀ (k : Nat) (v : V) (d : D), vs[k]? = some v → ds[k]? = some d → It K C B B' G p v d
  nd : ∀ (j k : Nat) (q : Addr) (dj dk : D), vs[j]? = some (.ref q) → vs[k]? = some (.ref q) → ds[j]? = some dj → ds[k]? = some dk → four dj = true → four dk = true → j = k
section
variable {K : PySem.W.Frag} {cc : Cc} {B B' G G' H H' : Hp} {p : Addr} {vs : List V} {ds : List D} {ρ : ENV} {σ : L2.St} {i : Nat}
theorem Nx.gn (n : Nx K cc.C B B' G p vs ds) {a : Addr} {o : HO} (h : B' a = some o) (hb : B a = none) : G a = none := by
  rcases n.fr a o h with h | h
  · rw [hb] at h; cases h
  · exact h.2
theorem It.mono (s : Same G G') {v : V} {d : D} (h : It K cc.C B B' G p v d) : It K cc.C B B' G' p v d := by
  rcases h with ⟨q, ys, es, h1, h2, h3, h4, h5, h6, h7⟩ | ⟨h1, h2⟩
  · exact .inl ⟨q, ys, es, h1, h2, h3, h4, h5, h6, h7.mono s⟩
  · exact .inr ⟨h1, h2.mono s⟩
theorem Nx.mono (n : Nx K cc.C B B' G p vs ds) (e : Ext B' G G') : Nx K cc.C B B' G' p vs ds :=
  ⟨n.sub, n.lp, fun a o h => by
    rcases n.fr a o h with h1 | ⟨h1, h2⟩
    · exact .inl h1
    · exact .inr ⟨h1, e.none h h2⟩, n.pb, n.len, fun k v d h1 h2 => (n.it k v d h1 h2).mono e.gg, n.nd⟩
def PostN (K : PySem.W.Frag) (cc : Cc) (i : Nat) (B G : Hp) (Dn : Ends) (r : R (List D)) : Prop := match r with
  | .ok ds' ρ' => ∀ σ' G' H' p' vs' B'', Ext B G G' → Rl K (cc.pin i p') B'' ρ' σ' G' H' → Nx K cc.C B B'' G' p' vs' ds' → Dn.nx σ' H'
  | _ => False
theorem PostN.ext {Dn : Ends} {r : R (List D)} (h : PostN K cc i B G Dn r) (x : Ext B G G') : PostN K cc i B G' Dn r := by
  cases r with
  | ok ds ρ => exact fun σ' G1 H' p' vs' B'' e => h σ' G1 H' p' vs' B'' (x.trans e)
  | exc e ρ => exact h
  | bot => exact h
theorem PostN.bind {α β : Type} {V1 : Hp → β → α → Prop} {Dn : Ends} {Q' : β → Hp → Prop} {r : R α} {f : α → ENV → R (List D)} (s : Same B B')
    (h : PostN K cc i B G Dn (r.bind f))
    (k : ∀ d ρ1 G1 H1 x, Ext B' G G1 → Rl K (cc.pin i p) B' ρ1 σ G1 H1 → V1 G1 x d → PostN K cc i B G1 Dn (f d ρ1) → Q' x H1) : Post K (cc.pin i p) V1 B' G σ Q' r := by
  cases r with
  | ok d ρ1 =>
    intro v G1 H1 e1 R1 p1
    exact k d ρ1 G1 H1 v e1 R1 p1 (PostN.ext (show PostN K cc i B G Dn (f d ρ1) from h) (e1.down s))
  | exc e ρ1 => exact h.elim
  | bot => exact h.elim
theorem Nx.store (n : Nx K cc.C B B' G p vs ds) {j l : Nat} {q : Addr} {ys : List V} {es : List D} {v : V} {d : D} (h1 : vs[j]? = some (.ref q)) (h2 : ds[j]? = some (.lst es)) (h0 : es.length = 4) (hb : B q = none) (hq : q ≠ p) (h3 : B' q = some (.lst ys)) (h4 : RpL K cc.C G ys es) (hv : Rp K cc.C G v d) :
    Nx K cc.C B (upd B' q (.lst (ys.set l v))) G p vs (ds.set j (.lst (es.set l d))) := by
  have f4 : four (.lst es) = true := four_lst es h0
  have f5 : four (.lst (es.set l d)) = true := four_lst _ (by rw [List.length_set]; exact h0)
  have jl : j < ds.length := (List.getElem?_eq_some_iff.mp h2).1
  have fo : ∀ {k : Nat} {dk : D}, (ds.set j (.lst (es.set l d)))[k]? = some dk → four dk = true → ∃ dk', ds[k]? = some dk' ∧ four dk' = true := fun {k dk} e f => by
    by_cases z : k = j
    · exact ⟨_, z ▸ h2, f4⟩
    · rw [List.getElem?_set_ne (Ne.symm z)] at e; exact ⟨_, e, f⟩
  refine ⟨fun a o e => ?_, by rw [upd_ne (Ne.symm hq)]; exact n.lp, fun a o e => ?_, n.pb, by rw [List.length_set]; exact n.len, fun k w dk e1 e2 => ?_, fun a b q2 da db e1 e2 e3 e4 f1 f2 => ?_⟩
  · have : a ≠ q := fun z => by rw [z, hb] at e; cases e
    rw [upd_ne this]; exact n.sub _ _ e
  · by_cases z : a = q
    · subst z; exact .inr ⟨hb, n.gn h3 hb⟩
    · rw [upd_ne z] at e; exact n.fr a o e
  · by_cases z : k = j
    · subst z
      rw [h1] at e1; cases e1
      rw [List.getElem?_set_self jl] at e2; cases e2
      exact .inl ⟨q, _, _, rfl, rfl, by rw [List.length_set]; exact h0, hb, hq, upd_same, h4.set hv l⟩
    · rw [List.getElem?_set_ne (Ne.symm z)] at e2
      rcases n.it k w dk e1 e2 with ⟨q2, ys2, es2, rfl, rfl, c3, c4, c5, c6, c7⟩ | h
      · have ne : q2 ≠ q := fun y => by
          subst y
          exact z (n.nd k j q2 _ _ e1 h1 e2 h2 (four_lst _ c3) f4)
        exact .inl ⟨q2, ys2, es2, rfl, rfl, c3, c4, c5, by rw [upd_ne ne]; exact c6, c7⟩
      · exact .inr h
  · obtain ⟨da', g1, g2⟩ := fo e3 f1
    obtain ⟨db', g3, g4⟩ := fo e4 f2
    exact n.nd a b q2 da' db' e1 e2 g1 g3 g2 g4
theorem Nx.app (n : Nx K cc.C B B' G p vs ds) {v : V} {d : D} (hv : Rp K cc.C G v d) (hf : four d = false) :
    Nx K cc.C B (upd B' p (.lst (vs ++ [v]))) G p (vs ++ [v]) (ds ++ [d]) := by
  have sp : ∀ {k : Nat} {dk : D}, (ds ++ [d])[k]? = some dk → (ds[k]? = some dk ∧ k < ds.length) ∨ (k = ds.length ∧ dk = d) := fun {k dk} e => by
    by_cases z : k < ds.length
    · rw [List.getElem?_append_left z] at e; exact .inl ⟨e, z⟩
    · have hk : k = ds.length := by
        have := (List.getElem?_eq_some_iff.mp e).1
        rw [List.length_append, List.length_singleton] at this
        omega
      subst hk
      rw [List.getElem?_append_right (Nat.le_refl _), Nat.sub_self] at e
      cases e; exact .inr ⟨rfl, rfl⟩
  refine ⟨fun a o e => ?_, upd_same, fun a o e => ?_, n.pb, by rw [List.length_append, List.length_append, n.len]; rfl, fun k w dk e1 e2 => ?_, fun a b q2 da db e1 e2 e3 e4 f1 f2 => ?_⟩
  · have : a ≠ p := fun z => by rw [z, n.pb] at e; cases e
    rw [upd_ne this]; exact n.sub _ _ e
  · by_cases z : a = p
    · subst z; exact .inr ⟨n.pb, n.gn n.lp n.pb⟩
    · rw [upd_ne z] at e; exact n.fr a o e
  · rcases sp e2 with ⟨h2, kl⟩ | ⟨rfl, rfl⟩
    · rw [List.getElem?_append_left (by rw [n.len]; exact kl)] at e1
      rcases n.it k w dk e1 h2 with ⟨q2, ys2, es2, rfl, rfl, c3, c4, c5, c6, c7⟩ | h
      · exact .inl ⟨q2, ys2, es2, rfl, rfl, c3, c4, c5, by rw [upd_ne c5]; exact c6, c7⟩
      · exact .inr h
    · rw [← n.len, List.getElem?_append_right (Nat.le_refl _), Nat.sub_self] at e1
      cases e1
      exact .inr ⟨hf, hv⟩
  · rcases sp e3 with ⟨h3, al⟩ | ⟨_, rfl⟩
    · rcases sp e4 with ⟨h4, bl⟩ | ⟨_, rfl⟩
      · rw [List.getElem?_append_left (by rw [n.len]; exact al)] at e1
        rw [List.getElem?_append_left (by rw [n.len]; exact bl)] at e2
        exact n.nd a b q2 da db e1 e2 h3 h4 f1 f2
      · rw [hf] at f2; cases f2
    · rw [hf] at f1; cases f1
theorem Nx.cut (n : Nx K cc.C B B' G p vs ds) {p2 : Addr} (h2 : B' p2 = none) (hg : G p2 = none) (k : Nat) :
    Nx K cc.C B (upd B' p2 (.lst (vs.take k))) G p2 (vs.take k) (ds.take k) := by
  have b2 : B p2 = none := n.sub.free h2
  have tk : ∀ {α : Type} {xs : List α} {j : Nat} {x : α}, (xs.take k)[j]? = some x → xs[j]? = some x := fun {α xs j x} e => by
    rw [List.getElem?_take] at e
    split at e
    · exact e
    · cases e
  refine ⟨fun a o e => ?_, upd_same, fun a o e => ?_, b2, by rw [List.length_take, List.length_take, n.len], fun j w dj e1 e2 => ?_, fun a b q2 da db e1 e2 e3 e4 f1 f2 => n.nd a b q2 da db (tk e1) (tk e2) (tk e3) (tk e4) f1 f2⟩
  · have : a ≠ p2 := fun z => by rw [z, b2] at e; cases e
    rw [upd_ne this]; exact n.sub _ _ e
  · by_cases z : a = p2
    · subst z; exact .inr ⟨b2, hg⟩
    · rw [upd_ne z] at e; exact n.fr a o e
  · rcases n.it j w dj (tk e1) (tk e2) with ⟨q2, ys2, es2, rfl, rfl, c3, c4, c5, c6, c7⟩ | h
    · have ne : q2 ≠ p2 := fun z => by rw [z, h2] at c6; cases c6
      exact .inl ⟨q2, ys2, es2, rfl, rfl, c3, c4, ne, by rw [upd_ne ne]; exact c6, c7⟩
    · exact .inr h
theorem Nx.done (n : Nx K cc.C B B' G p vs ds) (r : Rl K (cc.pin i p) B' ρ σ G H) (hi : i < ρ.length) (hp : i ∉ cc.pr) : ∃ G2, Ext B G G2 ∧ Rl K cc B (ρ.set i (some (.ow (.lst ds)))) σ G2 H := by
  classical
  let c : Addr → Prop := fun a => B a = none ∧ a ≠ p ∧ B' a ≠ none
  let G2 : Hp := fun a => if c a then B' a else G a
  have e1 : ∀ {a}, c a → G2 a = B' a := fun h => if_pos h
  have e2 : ∀ {a}, ¬ c a → G2 a = G a := fun h => if_neg h
  have cg : ∀ {a}, c a → G a = none := fun {a} h => by
    cases q : B' a with
    | none => exact (h.2.2 q).elim
    | some o => exact n.gn q h.1
  have sg : Same G G2 := fun a o h => by
    have : ¬ c a := fun z => by rw [cg z] at h; cases h
    rw [e2 this]; exact h
  have gk : Same G2 H := fun a o h => by
    by_cases z : c a
    · rw [e1 z] at h; exact r.bk _ _ h
    · rw [e2 z] at h; exact r.gk _ _ h
  have r0 := r.down2 n.sub hp
  have pin := r.at_pin
  have np : ¬ c p := fun z => z.2.1 rfl
  have own : Own K cc.C B G2 H p (.lst ds) := by
    refine ⟨n.pb, by rw [e2 np]; exact n.gn n.lp n.pb, _, r.bk _ _ n.lp, _, rfl, ?_⟩
    have one : ∀ (k : Nat) (v : V) (d : D), vs[k]? = some v → ds[k]? = some d → Rp K cc.C G2 v d := fun k v d h1 h2 => by
      rcases n.it k v d h1 h2 with ⟨q, ys, es, rfl, rfl, _, c4, c5, h6, h7⟩ | ⟨_, h⟩
      · exact .lst (by rw [e1 ⟨c4, c5, by rw [h6]; exact fun z => by cases z⟩]; exact h6) (h7.mono sg)
      · exact h.mono sg
    have all : ∀ (vs : List V) (ds : List D), vs.length = ds.length → (∀ (k : Nat) (v : V) (d : D), vs[k]? = some v → ds[k]? = some d → Rp K cc.C G2 v d) → RpL K cc.C G2 vs ds := by
      intro vs
      induction vs with
      | nil => intro ds h _; cases ds with | nil => exact .nil | cons _ _ => cases h
      | cons v vs ih =>
        intro ds h k
        cases ds with
        | nil => cases h
        | cons d ds => exact .cons (k 0 v d rfl rfl) (ih ds (by simpa using h) fun j v d a b => k (j + 1) v d a b)
    exact all vs ds n.len one
  have nb : ∀ {j : Nat} {m : M}, ρ[j]? = some (some (.ow m)) → σ[j]? ≠ some (some (.ref p)) := fun {j m} e z => by
    obtain ⟨q, hq, o⟩ := r.ow j m e
    rw [z] at hq; cases hq
    have := o.nb
    rw [n.lp] at this; cases this
  have old : ∀ {j : Nat} {x : DV}, j ≠ i → (ρ.set i (some (DV.ow (.lst ds))))[j]? = some (some x) → ρ[j]? = some (some x) := fun {j x} h e => by
    rw [List.getElem?_set_ne (fun z => h z.symm)] at e; exact e
  refine ⟨G2, ⟨sg, fun a o h => ?_⟩, r0.bk, gk, by rw [List.length_set]; exact r0.ln, fun j d e => ?_, fun j m e => ?_, fun j k m m' q a1 a2 a3 a4 => ?_, r0.pa, r0.kg.trans sg⟩
  · by_cases z : c a
    · exact .inr z.1
    · rw [e2 z] at h; exact .inl h
  · by_cases z : j = i
    · subst z; rw [List.getElem?_set_self hi] at e; cases e
    · obtain ⟨v, h1, h2⟩ := r0.sh j d (old z e)
      exact ⟨v, h1, h2.mono sg⟩
  · by_cases z : j = i
    · subst z
      rw [List.getElem?_set_self hi] at e
      obtain rfl : (M.lst ds) = m := by simpa using e
      exact ⟨p, pin, own⟩
    · obtain ⟨q, h1, o⟩ := r.ow j m (old z e)
      obtain ⟨x, hx, hm⟩ := o.at_
      have nq : ¬ c q := fun y => y.2.2 o.nb
      exact ⟨q, h1, n.sub.free o.nb, by rw [e2 nq]; exact o.ng, x, hx, hm.mono sg⟩
  · by_cases z : j = i
    · by_cases z2 : k = i
      · rw [z, z2]
      · subst z
        rw [pin] at a3; cases a3
        exact (nb (old z2 a2) a4).elim
    · by_cases z2 : k = i
      · subst z2
        rw [pin] at a4; cases a4
        exact (nb (old z a1) a3).elim
      · exact r0.df j k m m' q (old z a1) (old z2 a2) a3 a4
end
end Rf
set_option Elab.async false
set_option linter.all false
set_option maxRecDepth 100000
set_option maxHeartbeats 1000000
namespace Rf
open PySem PySem.Spec L2 PyProof.Rows
section
variable {X : Cx} {cc : Cc} {i : Nat} {st : Stmt} {sts A Bs : List Stmt} {pos : Pos}
end
end Rf
set_option Elab.async false
set_option linter.all false
set_option maxRecDepth 100000
set_option maxHeartbeats 1000000
namespace Rf
open PySem PySem.Spec L2 PyProof.Rows
section
variable {X : Cx} {cc : Cc}
end
end Rf
set_option Elab.async false
set_option linter.all false
set_option maxRecDepth 100000
set_option maxHeartbeats 1000000
namespace Rf
open PySem PySem.Spec L2 PyProof.Rows
def tKSub (tab : List (Str × D)) (te : TE) : TE := fun σ H Q => te σ H fun y H2 => ∃ k d, y = .str k ∧ lkS k tab = some d ∧ Q (vOf d) H2
theorem kD_in {k : Str} : ∀ {tab : List (Str × D)} {d : D}, lkS k tab = some d → KTD.inKeys k (kD tab) = true
  | (x, d0) :: tab, d, h => by
    unfold lkS at h
    show (decide (k = x) || KTD.inKeys k (kD tab)) = true
    by_cases e : k = x
    · rw [decide_eq_true e]; rfl
    · rw [if_neg e] at h
      rw [kD_in h, Bool.or_true]
theorem KRows.eachL {h : Heap} {k : Str} {P : Value → Prop} : ∀ {es : List DictEntry} {tab : List (Str × D)}, KRows es tab → (∀ d u, lkS k tab = some d → RelD d u → P u) → KTD.EachL h k P (kD tab)
  | _, _, .nil, _ => trivial
  | _, _, @KRows.cons _ x _ v d _ tab q r, h1 => by
    have opened : k = x → KTD.Opened h P (.flat d.toPy) := fun e => by
      unfold lkS at h1
      simp only [if_pos e] at h1
      cases q with
      | int i t => exact fun t' => h1 _ _ rfl (.int i t')
      | str y t hy => exact fun t' => h1 _ _ rfl (.str y t' hy)
    cases tab with
    | nil => exact opened
    | cons z tab =>
      show (if decide (k = x) = true then KTD.Opened h P (.flat d.toPy) else KTD.EachL h k P (kD (z :: tab)))
      by_cases e : k = x
      · rw [if_pos (decide_eq_true e)]; exact opened e
      · rw [if_neg (by simp [e])]
        unfold lkS at h1
        simp only [if_neg e] at h1
        exact r.eachL h1
theorem pe_ksub {X : Cx} {o e : Expr} {te : TE} {a : Addr} {tab : List (Str × D)} {pos : Pos} (T : KTb X.K a tab) (ho : PE X o (tC (.ref a))) (he : PE X e te)
    (hs : ∀ (u : Value) (k : Str) (t : Tok), subscripted e false u (.str k t) = operate [u, .str k t] (getItem u (.str k t)) := by intro _ _ _; with_unfolding_all rfl) (hg : ∀ u r, letTemporaryGo o u r = pure () := by intro _ _; with_unfolding_all rfl) : PE X (.Subscript o e pos) (tKSub tab te) := by
  refine ⟨fun pins s σ H Q I h => ?_⟩
  obtain ⟨es, n, hk, hr⟩ := T.ex
  have here : ∀ {H' : Hp} {s' : Shared}, L2.Inv X pins σ H' s' → KTD.Here s'.heap s'.heap a (kD tab) := fun J => ⟨⟨T.low, _, es, n, J.kIn _ _ hk, ⟨rfl, rfl, rfl⟩, rfl, hr.rows⟩, fun _ _ z => z⟩
  refine Subscript_ (binT ho he I (R := fun x y H2 => x = .ref a ∧ ∃ k d, y = .str k ∧ lkS k tab = some d ∧ Q (vOf d) H2) (show tC (.ref a) σ H _ from (show te σ H _ from ?_)) fun v u s2 x y H2 I2 rx ry q => ?_)
  · have mono : ∀ {σ : L2.St} {H : Hp}, te σ H (fun y H2 => ∃ k d, y = V.str k ∧ lkS k tab = some d ∧ Q (vOf d) H2) → te σ H (fun y H2 => V.ref a = .ref a ∧ ∃ k d, y = .str k ∧ lkS k tab = some d ∧ Q (vOf d) H2) := fun {σ H} h => by
      have e : (fun (y : V) (H2 : Hp) => ∃ k d, y = V.str k ∧ lkS k tab = some d ∧ Q (vOf d) H2) = (fun y H2 => V.ref a = .ref a ∧ ∃ k d, y = .str k ∧ lkS k tab = some d ∧ Q (vOf d) H2) := by
        funext y H2
        simp
      rw [← e]; exact h
    exact mono h
  · obtain ⟨ex, k, d, ey, hd, q⟩ := q
    subst ex ey
    obtain rfl : v = Value.ref a := rx
    obtain ⟨t, rfl⟩ := ry
    refine KTD.item_text (here I2) (kD_in hd) (hr.eachL fun d' u' e' hu => ?_) (hs _ _ _) (hg _)
    rw [hd] at e'
    cases e'
    cases hu with
    | int i t => exact ⟨.int i, H2, I2.tok _, ⟨_, rfl⟩, q⟩
    | str x t hx => exact ⟨.str x, H2, I2.tok _, ⟨_, rfl⟩, q⟩
def subK_ (tab : List (Str × D)) : D → ENV → R D := fun x ρ1 => match x with
  | .str k => R.of (lkS k tab) ρ1
  | _ => .bot
def dSubK (tab : List (Str × D)) (da : ENV → R D) : ENV → R D := fun ρ => (da ρ).bind (subK_ tab)
theorem de_ksub {X : Cx} {cc : Cc} {x : Str} {e : Expr} {a : Addr} {tab : List (Str × D)} {de : ENV → R D} {p pos : Pos} (T : KTb X.K a tab) (hg : Gl X x) (hm : X.mg x = some (.ref a)) (he : DE X cc e de)
    (hd : (x == ("__debug__" : Str)) = false := by decide) (hs : ∀ (u : Value) (k : Str) (t : Tok), subscripted e false u (.str k t) = operate [u, .str k t] (getItem u (.str k t)) := by intro _ _ _; with_unfolding_all rfl) (hgo : ∀ u r, letTemporaryGo (.Name x p) u r = pure () := by intro _ _; with_unfolding_all rfl) : DE X cc (.Subscript (.Name x p) e pos) (dSubK tab de) := by
  refine PE.imp (pe_ksub T (pe_glob hg hm rfl hd) he hs hgo) fun σ H Q ⟨B, ρ, G, R0, h⟩ => ⟨B, ρ, G, R0, h.bind fun d1 ρ1 G1 H1 y e1 R1 p1 h1 => ?_⟩
  cases p1 with
  | str k hk =>
    obtain ⟨es, n, _, hr⟩ := T.ex
    have h1 : Post X.K cc (Rp X.K cc.C) B G1 σ Q (R.of (lkS k tab) ρ1) := h1
    cases hl : lkS k tab with
    | none => rw [hl] at h1; exact h1.elim
    | some d =>
      rw [hl] at h1
      obtain ⟨u, hu⟩ := hr.at_ hl
      refine ⟨k, d, rfl, hl, ?_⟩
      cases hu with
      | int i t => exact h1 (.int i) G1 H1 (Ext.refl _ _) R1 (.int i)
      | str z t hz => exact h1 (.str z) G1 H1 (Ext.refl _ _) R1 (.str z hz)
  | _ => exact h1.elim
def disM (kvs : List (Str × Str)) : List (L2.Key × V) := mergeK [] (kvs.map fun kv => (Sum.inr kv.1, V.str kv.2))
def disV (kvs : List (Str × Str)) (k : Str) : Option D := match valV (disM kvs) (Sum.inr k) with
  | some (.str s) => if s.length ≤ sizeLine then some (.str s) else none
  | _ => none
def disK (kvs : List (Str × Str)) : D → ENV → R D := fun x ρ1 => match x with
  | .str k => R.of (disV kvs k) ρ1
  | _ => .bot
def dDis (kvs : List (Str × Str)) (da : ENV → R D) : ENV → R D := fun ρ => (da ρ).bind (disK kvs)
def disT (kvs : List (Str × Str)) : List (TE × TE) := kvs.map fun kv => (tC (.str kv.1), tC (.str kv.2))
theorem dis_pairs {σ : L2.St} {H : Hp} {Q : List (V × V) → Hp → Prop} : ∀ {kvs : List (Str × Str)}, Q (kvs.map fun kv => (V.str kv.1, V.str kv.2)) H → tPairs (disT kvs) σ H Q
  | [], h => h
  | kv :: kvs, h => by
    show tPairs (disT kvs) σ H _
    exact dis_pairs (kvs := kvs) h
theorem upd_two (H : Hp) (p : Addr) (o o' : HO) : upd (upd H p o) p o' = upd H p o' := by
  funext b
  by_cases e : b = p
  · subst e; rw [upd_same, upd_same]
  · rw [upd_ne e, upd_ne e, upd_ne e]
theorem de_dis {X : Cx} {cc : Cc} {keys : List (Option Expr)} {values : List Expr} {e : Expr} {kvs : List (Str × Str)} {de : ENV → R D} {p2 pos : Pos} (hu : X.A.units + 1 < cLine) (h : PPs X p2 keys values (disT kvs)) (he : DE X cc e de)
    (hall : keys.all (·.isSome) = true := by rfl) (hl : keys.length = values.length := by rfl) (h0 : keys ≠ [] := by simp) (h15 : keys.length ≤ 15 := by decide) (h15' : kvs.length ≤ 15 := by decide) (hs : NoSl e := by first | exact ⟨rfl⟩ | rfl | (intro _ _; rfl)) :
    DE X cc (.Subscript (.Dict keys values p2) e pos) (dDis kvs de) := by
  refine PE.imp (pe_dget hu (pe_disp h hall hl h0 h15) he hs) fun σ H Q ⟨B, ρ, G, R0, hp⟩ => ?_
  intro p hn
  refine dis_pairs ⟨upd_same, kvs.map fun kv => (Sum.inr kv.1, V.str kv.2), by rw [List.map_map]; rfl, by rw [List.length_map]; exact h15', ?_⟩
  rw [upd_two]
  have g := Grow.new (o := .dK (disM kvs)) R0.gk hn
  have R1 := R0.grow g
  have x1 := g.ext R0.bk
  have hp2 : Post X.K cc (Rp X.K cc.C) B (upd G p (.dK (disM kvs))) σ Q (dDis kvs de ρ) := by
    cases hq : dDis kvs de ρ with
    | ok d ρ' => rw [hq] at hp; exact fun v G' H' ex => hp v G' H' (x1.trans ex)
    | exc x ρ' => rw [hq] at hp; exact fun cl dd G' H' ex => hp cl dd G' H' (x1.trans ex)
    | bot => rw [hq] at hp; exact hp
  refine ⟨B, ρ, _, R1, hp2.bind fun d1 ρ1 G1 H1 y e1 R2 p1 h1 => ?_⟩
  cases p1 with
  | str k hk =>
    have h1 : Post X.K cc (Rp X.K cc.C) B G1 σ Q (R.of (disV kvs k) ρ1) := h1
    have hd : H1 p = some (.dK (disM kvs)) := R2.gk _ _ (e1.gg _ _ upd_same)
    unfold disV at h1
    split at h1
    · rename_i s hv
      by_cases hz : s.length ≤ sizeLine
      · rw [if_pos hz] at h1
        refine ⟨p, .str s, rfl, ?_, h1 (.str s) G1 H1 (Ext.refl _ _) R2 (.str s hz)⟩
        rw [← hv]
        exact DGet.k (k := Sum.inr k) hd
      · rw [if_neg hz] at h1; exact h1.elim
    · exact h1.elim
  | _ => exact h1.elim
end Rf
namespace Rf
open PySem L2
theorem hu_1 {n : Nat} (h : n + 65 < cLine) : n + 1 < cLine := by omega
end Rf
namespace Rf
open PySem PySem.Spec L2 PyProof.Rows
theorem de_ksubG {X : Cx} {cc : Cc} {x : Str} {e : Expr} {tab : List (Str × D)} {de : ENV → R D} {p pos : Pos} (T : KG X.K X.mg x tab) (hg : Gl X x) (he : DE X cc e de)
    (hd : (x == ("__debug__" : Str)) = false := by decide) (hs : ∀ (u : Value) (k : Str) (t : Tok), subscripted e false u (.str k t) = operate [u, .str k t] (getItem u (.str k t)) := by intro _ _ _; with_unfolding_all rfl) (hgo : ∀ u r, letTemporaryGo (.Name x p) u r = pure () := by intro _ _; with_unfolding_all rfl) : DE X cc (.Subscript (.Name x p) e pos) (dSubK tab de) := by
  obtain ⟨a, hm, t⟩ := T.ex
  exact de_ksub t hg hm he hd hs hgo
end Rf
set_option Elab.async false
set_option linter.all false
set_option maxRecDepth 100000
namespace Rf
open PySem L2
section
variable {K : PySem.W.Frag} {C : Nat → Addr}
end
end Rf
set_option Elab.async false
set_option linter.all false
set_option maxRecDepth 100000
set_option maxHeartbeats 1000000
namespace Rf
open PySem PySem.Spec L2
def PTT (X : Cx) (e : Expr) (t : TT) : Prop :=
  ∀ (pins : List (Addr × Obj)) (s : Shared) (σ : St) (H : Hp) (Q : Bool → Hp → Prop), 1 ≤ s.toks → Inv X pins σ H s → t σ H Q → wpAny (model X.prog X.w) X.A (isTrue e X.env (eval e X.env)) (TP X pins σ Q) X.xe s
def PTg (X : Cx) (e : Expr) (t : TT) : Prop :=
  ∀ (pins : List (Addr × Obj)) (s : Shared) (σ : St) (H : Hp) (Q : Bool → Hp → Prop), Inv X pins σ H s → t σ H Q → wpAny (model X.prog X.w) X.A (isTrue e X.env (eval e X.env)) (fun d s1 => 1 ≤ s1.toks ∧ TP X pins σ Q d s1) X.xe s
section
variable {X : Cx} {e f : Expr} {te tf : TE} {tt tt' : TT} {a b : List Stmt} {st : Stmt} {rest : List Stmt} {t u v : TS} {pos : Pos}
theorem PTT.of (h : PT X e tt) : PTT X e tt := fun pins s σ H Q _ I q => h.run pins s σ H Q I q
theorem PTT.imp (h : PTT X e tt) (k : ∀ σ H Q, tt' σ H Q → tt σ H Q) : PTT X e tt' := fun pins s σ H Q h0 I q => h pins s σ H Q h0 I (k _ _ _ q)
theorem PTg.imp (h : PTg X e tt) (k : ∀ σ H Q, tt' σ H Q → tt σ H Q) : PTg X e tt' := fun pins s σ H Q I q => h pins s σ H Q I (k _ _ _ q)
theorem PET.imp {te' : TE} (h : PET X e te) (k : ∀ σ H Q, te' σ H Q → te σ H Q) : PET X e te' := fun pins s σ H Q h0 I q => h pins s σ H Q h0 I (k _ _ _ q)
theorem PST.imp (h : PST X st t) (k : ∀ D σ H, u D σ H → t D σ H) : PST X st u := fun pins s σ H D h0 I q => h pins s σ H D h0 I (k _ _ _ q)
theorem PSsT.imp (h : PSsT X rest t) (k : ∀ D σ H, u D σ H → t D σ H) : PSsT X rest u := fun pins s σ H D h0 I q => h pins s σ H D h0 I (k _ _ _ q)
theorem thnT {α : Type} {t : Sem α} {Q Q' : α → Shared → Prop} {M : Model} {A : Around} {E : Value → Shared → Prop} {s : Shared} (h0 : 1 ≤ s.toks) (h : wpAny M A t Q E s) (hQ : ∀ a s1, 1 ≤ s1.toks → Q a s1 → Q' a s1) : wpAny M A t Q' E s :=
  wpAny_mono (PySem.wpAny_toks h) (fun a s1 q => hQ a s1 (Nat.le_trans h0 q.1) q.2) fun _ _ z => z.2
theorem ptt_cmpR {op : CmpOp} {r : R2} (ho : OpR X (compareOp op) r) (ha : PET X e te) (hb : PET X f tf) (hm : behindInMarks op f = false) : PTT X (.Compare e [op] [f] pos) (tTest (tOp r te tf)) := by
  intro pins s σ H Q h0 I h
  refine wpAny_isTrue_Compare1 (thnT h0 (ha pins s σ H _ h0 I h) fun v s1 h1 ⟨x, H1, I1, r1, q1⟩ => thnT h1 (hb pins s1 σ H1 _ h1 I1 q1) fun u s2 _ ⟨y, H2, I2, r2, q2⟩ =>
    thn (ho pins s2 σ H2 x y v u _ I2 r1 r2 q2) fun c s3 ⟨z, H3, I3, r3, k, e, q3⟩ => ?_) hm
  subst e
  cases r3
  exact wpAny_truthy_bool ⟨H3, I3, q3⟩
theorem ptg_cmpC {op : CmpOp} {r : R2} {y : Str} {j : Nat} {cp : Pos} (ho : OpR X (compareOp op) r) (ha : PE X e te) (hm : behindInMarks op (.Constant (.str y) j cp) = false) : PTg X (.Compare e [op] [.Constant (.str y) j cp] pos) (tTest (tOp r te (tC (.str y)))) := by
  intro pins s σ H Q I h
  refine wpAny_isTrue_Compare1 (thn (ha.run pins s σ H _ I h) fun v s1 ⟨x, H1, I1, r1, q1⟩ => Calls.Constant_str ?_) hm
  have h1 : 1 ≤ ({ s1 with toks := s1.toks + 1 } : Shared).toks := Nat.le_add_left _ _
  refine thnT h1 (ho pins _ σ H1 x (.str y) v _ _ (I1.tok (s1.toks + 1)) r1 ⟨_, rfl⟩ q1) fun c s3 h3 ⟨z, H3, I3, r3, k, e, q3⟩ => ?_
  subst e
  cases r3
  exact wpAny_truthy_bool ⟨h3, H3, I3, q3⟩
theorem pst_ifT (hc : PTT X e tt) (ha : PSsT X a t) (hb : PSsT X b u) : PST X (.If e a b pos) (tIfS tt t u) := by
  intro pins s σ H D h0 I h
  refine wpAny_If (thnT h0 (hc pins s σ H _ h0 I h) fun d s1 h1 ⟨H1, I1, q1⟩ => ?_)
  cases d with
  | true => exact ha pins s1 σ H1 D h1 I1 q1
  | false => exact hb pins s1 σ H1 D h1 I1 q1
theorem pss_ifg (hc : PTg X e tt) (ha : PSsT X a t) (hb : PSsT X b u) (hr : PSsT X rest v) : PSs X (.If e a b pos :: rest) (tSeq (tIfS tt t u) v) := by
  refine ⟨fun pins s σ H D I h => ?_⟩
  refine wpAny_execs_cons (wpAny_If (thn (hc pins s σ H _ I h) fun d s1 ⟨h1, H1, I1, q1⟩ => ?_))
  have fin : ∀ {w : List Stmt} {tw : TS}, PSsT X w tw → tw { D with nx := v D } σ H1 → wpAny (model X.prog X.w) X.A (execs w X.env) (fun f s2 => match f with | .next => wpAny (model X.prog X.w) X.A (execs rest X.env) (SP X pins D) X.xe s2 | _ => SP X pins D f s2) X.xe s1 := fun {w tw} hw q => by
    refine thnT h1 (hw pins s1 σ H1 { D with nx := v D } h1 I1 q) fun f s2 h2 q2 => ?_
    cases f with
    | next =>
      obtain ⟨σ', H', I', q'⟩ := q2
      exact hr pins s2 σ' H' D h2 I' q'
    | ret v => exact q2
    | brk => exact q2
    | cont => exact q2
  cases d with
  | true => exact thn (fin ha q1) fun f s2 q => by cases f <;> exact q
  | false => exact thn (fin hb q1) fun f s2 q => by cases f <;> exact q
end
end Rf
set_option Elab.async false
set_option linter.all false
set_option maxRecDepth 100000
set_option maxHeartbeats 1000000
namespace Rf
open PySem PySem.Spec L2
section
variable {X : Cx}
theorem pst_forT {tg iter : Expr} {body : List Stmt} {wi : TI} {g : TG} {tb : TS} {pos : Pos} (hp : PassesOwn (model X.prog X.w) X.A X.env X.xe) (hc : X.calm = true) (hi : PI X tg iter wi) (hg : PG X tg g) (hb : PSsT X body tb)
    (hs : ∀ x, foldedSetIterable iter X.env x = pure x := by intro _; rfl) : PST X (.For tg iter body [] pos) (tFor wi g tb) := by
  intro pins s σ H D h0 I h
  refine wpAny_For (thnT h0 (hi.run pins s σ H _ I h) fun v s1 k1 h1 => thnT k1 h1 fun itv s2 k2 h2 => ?_) hs
  obtain ⟨it, fp, tn, J, H2, e, I2, T, st2, f2, W, ⟨m0, w0⟩, turn⟩ := h2
  subst e
  have stat : ∀ {H' : Hp}, (∀ b ∈ fp, H' b = none) → ∀ b ∈ fp, FpOk X pins H' b := fun hn b hb => ⟨hn b hb, (f2 b hb).2⟩
  refine codeAny_forLoop_any (fun n s' => 1 ≤ s'.toks ∧ ∃ i σ' H', Inv X pins σ' H' s' ∧ tn i s'.heap ∧ (∀ b ∈ fp, H' b = none) ∧ W i n σ' H') ?_ m0 ⟨k2, 0, σ, H2, I2, st2, fun b hb => (f2 b hb).1, w0⟩
  rintro n s3 ⟨k3, i, σ3, H3, I3, st3, fr3, w3⟩
  rcases turn i n σ3 H3 w3 with ⟨stop, qn⟩ | ⟨go, N, hN, step⟩
  · refine wpAny_passesOwn hp (thn (T.done X rfl rfl rfl hc i pins s3 σ3 H3 X.xe I3 (stat fr3) st3 stop) fun r s4 ⟨hr, I4⟩ => ?_)
    subst hr
    exact wpAny_execs_nil ⟨σ3, H3, I4, qn⟩
  · refine wpAny_passesOwn hp (thnT k3 (T.item X rfl rfl rfl hc i pins s3 σ3 H3 X.xe I3 (stat fr3) st3 go) fun r s4 k4 ⟨u, hr, h4⟩ => ?_)
    subst hr
    refine wpAny_passesOwn hp (thnT k4 h4 fun _ s5 k5 ⟨x, H5, I5, r5, y5, st5, fr5⟩ => ?_)
    have I5' := I5.pinned (stat fr5) (T.obj _ _ st5)
    refine wpAny_passesOwn hp (thnT k5 (hg.run _ s5 σ3 H5 x u _ I5' r5 (step x H5 y5)) fun _ s6 k6 ⟨σ6, H6, I6, q6⟩ => ?_)
    refine wpAny_passesOwn hp (thnT k6 (hb _ s6 σ6 H6 _ k6 I6 q6) fun f s7 k7 q7 => ?_)
    have again : ∀ {σ7 : St} {H7 : Hp}, Inv X (pins ++ pinsAt fp s5.heap) σ7 H7 s7 → N σ7 H7 → ∃ m, m < n ∧ (1 ≤ s7.toks ∧ ∃ i σ' H', Inv X pins σ' H' s7 ∧ tn i s7.heap ∧ (∀ b ∈ fp, H' b = none) ∧ W i m σ' H') := fun {σ7 H7} I7 n7 => by
      obtain ⟨m', hm, w7⟩ := hN σ7 H7 n7
      refine ⟨m', hm, k7, i + 1, σ7, H7, I7.unpinned, T.keep _ _ _ st5 fun b hb o e => (I7.pin (b, o) (List.mem_append_right _ (List.mem_append_right _ (mem_pinsAt hb e)))).1, fun b hb => ?_, w7⟩
      obtain ⟨o, e, d⟩ := T.obj _ _ st5 b hb
      exact (I7.pin (b, o) (List.mem_append_right _ (List.mem_append_right _ (mem_pinsAt hb e)))).2.1
    cases f with
    | next => obtain ⟨σ7, H7, I7, n7⟩ := q7; exact again I7 n7
    | cont => obtain ⟨σ7, H7, I7, n7⟩ := q7; exact again I7 n7
    | brk => obtain ⟨σ7, H7, I7, q7⟩ := q7; exact ⟨σ7, H7, I7.unpinned, q7⟩
    | ret v => obtain ⟨x7, σ7, H7, I7, r7, q7⟩ := q7; exact ⟨x7, σ7, H7, I7.unpinned, r7, q7⟩
end
def DET (X : Cx) (cc : Cc) (e : Expr) (den : ENV → R D) : Prop := PET X e (rE X.K cc den)
def DTT (X : Cx) (cc : Cc) (e : Expr) (den : ENV → R Bool) : Prop := PTT X e (rT X.K cc den)
def DTg (X : Cx) (cc : Cc) (e : Expr) (den : ENV → R Bool) : Prop := PTg X e (rT X.K cc den)
def DST (X : Cx) (cc : Cc) (st : Stmt) (den : ENV → R Fl) : Prop := PST X st (rS X.K cc den)
def DSsT (X : Cx) (cc : Cc) (st : List Stmt) (den : ENV → R Fl) : Prop := PSsT X st (rS X.K cc den)
def dRepl (da : ENV → R D) (y z : Str) : ENV → R D := fun ρ => (da ρ).bind fun d ρ1 => match d with
  | .str x => if x.length + (x.length + 1) * z.length ≤ 16777216 then .ok (.str (Txt.replace x y z)) ρ1 else .bot
  | _ => .bot
section
variable {X : Cx} {cc : Cc} {a b c e : Expr} {da db : ENV → R D} {dt : ENV → R Bool} {sa sb sc : ENV → R Fl} {st : Stmt} {sts sts2 rest : List Stmt} {pos : Pos} {tg : Expr} {g : D → ENV → Option ENV} {sl : List Nat}
theorem det_of (h : DE X cc a da) : DET X cc a da := fun pins s σ H Q _ I q => h.run pins s σ H Q I q
theorem dst_of (h : DS X cc st sa) : DST X cc st sa := PST.of h
theorem dssT_of (h : DSs X cc sts sa) : DSsT X cc sts sa := PSsT.of h
theorem det_repl {y z : Str} {j k : Nat} {c0 c1 apos : Pos} (ho : DE X cc a da) (hyz : (y == z) = false := by decide)
    (hst : starEach [.Constant (.str y) j c0, .Constant (.str z) k c1] X.env = [(false, eval (.Constant (.str y) j c0) X.env), (false, eval (.Constant (.str z) k c1) X.env)] := by rfl)
    (hbase : attributeBase a "replace" X.env (eval a X.env) = eval a X.env := by rfl) (hline : (apos.endLine == pos.line) = true := by rfl) :
    DET X cc (.Call (.Attribute a "replace" apos) [.Constant (.str y) j c0, .Constant (.str z) k c1] [] pos) (dRepl da y z) := by
  refine PET.imp (CwR.pet_replC ho hyz hst hbase hline) fun σ H Q ⟨B, ρ, G, R0, h⟩ => ⟨B, ρ, G, R0, h.bind fun d ρ1 G1 H1 x e1 R1 p1 h1 => ?_⟩
  cases d with
  | str x0 =>
    by_cases hz : x0.length + (x0.length + 1) * z.length ≤ 16777216
    · simp only [if_pos hz] at h1
      cases p1
      exact ⟨_, rfl, hz, h1 _ G1 H1 (Ext.refl _ _) R1 (.str _ (Nat.le_trans (TK.replace_len x0 y z) (by rw [sizeLine_eq]; exact hz)))⟩
    · simp only [if_neg hz] at h1
      exact h1.elim
  | _ => exact h1.elim
theorem det_add (ha : DET X cc a da) (hb : DET X cc b db) : DET X cc (.BinOp a .Add b pos) (dAdd da db) := PET.imp (CwR.pet_op op_addA ha hb) (op_core v2_add)
theorem dtt_c (k : CK) (hu : X.A.units + 65 < cLine) (ha : DET X cc a da) (hb : DET X cc b db) (hm : behindInMarks k.op b = false := by rfl) : DTT X cc (.Compare a [k.op] [b] pos) (dT (dCmp k da db)) := PTT.imp (ptt_cmpR (k.ok hu) ha hb hm) (test_core (op_core k.v))
theorem dst_ret (ha : DET X cc e da) : DST X cc (.Return (some e) pos) (sRet da) :=
  PST.imp (CwR.pst_ret ha) fun Dn σ H ⟨B, ρ, G, R0, h⟩ => ⟨B, ρ, G, R0, h.bind fun d ρ1 G1 H1 x e1 R1 p1 h1 => h1 x σ G1 H1 (Ext.refl _ _) R1 p1⟩
theorem if_coreT : ∀ Dn σ H, rS X.K cc (sIf dt sa sb) Dn σ H → tIfS (rT X.K cc dt) (rS X.K cc sa) (rS X.K cc sb) Dn σ H := fun Dn σ H ⟨B, ρ, G, R0, h⟩ => ⟨B, ρ, G, R0, h.bind fun d ρ1 G1 H1 x e1 R1 p1 h1 => by
  subst p1
  cases x with
  | true => exact iteT ⟨B, ρ1, G1, R1, h1⟩
  | false => exact iteF ⟨B, ρ1, G1, R1, h1⟩⟩
theorem dst_if (hc : DTT X cc c dt) (ha : DSsT X cc sts sa) (hb : DSsT X cc sts2 sb) : DST X cc (.If c sts sts2 pos) (sIf dt sa sb) := PST.imp (pst_ifT hc ha hb) if_coreT
theorem dssT_nil : DSsT X cc [] sNil := dssT_of dss_nil
theorem dssT_cons (h1 : DST X cc st sa) (h2 : DSsT X cc sts sb) : DSsT X cc (st :: sts) (sSeq sa sb) := PSsT.imp (psst_cons h1 h2) fun Dn σ H ⟨B, ρ, G, R0, h⟩ => ⟨B, ρ, G, R0, seq_core h⟩
theorem dssT_one (h : DST X cc st sa) : DSsT X cc [st] sa := CwR.psst_one h
theorem dtg_c {y : Str} {j : Nat} {cp : Pos} (k : CK) (hu : X.A.units + 65 < cLine) (ha : DE X cc a da) (hm : behindInMarks k.op (.Constant (.str y) j cp) = false := by rfl) (hy : y.length ≤ sizeLine := by decide +kernel) : DTg X cc (.Compare a [k.op] [.Constant (.str y) j cp] pos) (dT (dCmp k da (dC (.str y)))) :=
  PTg.imp (ptg_cmpC (k.ok hu) ha hm) fun σ H Q h => by
    obtain ⟨B, ρ, G, R0, h⟩ := test_core (op_core k.v) σ H Q h
    exact ⟨B, ρ, G, R0, h.mono fun x H1 ⟨B', ρ', G', R', p⟩ => p (.str y) G' H1 (Ext.refl _ _) R' (.str y hy)⟩
theorem dss_ifg (hc : DTg X cc c dt) (ha : DSsT X cc sts sa) (hb : DSsT X cc sts2 sb) (hr : DSsT X cc rest sc) : DSs X cc (.If c sts sts2 pos :: rest) (sSeq (sIf dt sa sb) sc) :=
  PSs.imp (pss_ifg hc ha hb hr) fun Dn σ H ⟨B, ρ, G, R0, h⟩ => if_coreT _ _ _ ⟨B, ρ, G, R0, seq_core h⟩
theorem dst_for {iter : Expr} {body : List Stmt} {di : ENV → R (List D)} (hp : PassesOwn (model X.prog X.w) X.A X.env X.xe) (hc : X.calm = true) (hi : DI X cc tg iter di) (hg : DG X cc tg sl g) (hb : DSsT X cc body sb)
    (hs : ∀ x, foldedSetIterable iter X.env x = pure x := by intro _; rfl) : DST X cc (.For tg iter body [] pos) (sFor di g sb) := by
  refine PST.imp (pst_forT (g := rG X.K cc sl g) (tb := rS X.K cc sb) hp hc hi hg hb hs) fun Dn σ H ⟨B, ρ, G, R0, h⟩ => ⟨B, ρ, G, R0, h.bind fun ds ρ1 G1 H1 J e1 R1 w h1 => ?_⟩
  obtain ⟨gd, Y, wlk, hgd, hY⟩ := w.ex
  refine for_it wlk (fun i σ H => ∃ ρi Gi, Ext B G1 Gi ∧ Rl X.K cc B ρi σ Gi H ∧ PostS X.K cc B Gi Dn (forL g sb (ds.drop i) ρi)) ⟨ρ1, G1, Ext.refl _ _, R1, h1⟩ (fun i σ H _ ⟨ρi, Gi, ex, R, _⟩ => hgd Gi H ex.gg R.gk) ?_ ?_
  · rintro i x σ H H' hi ⟨ρi, Gi, ex, R, hq⟩ y
    obtain ⟨d, G3, hd, g3, p3⟩ := hY i Gi H x H' hi ex.gg R.gk y
    have hdrop : ds.drop i = d :: ds.drop (i + 1) := by
      obtain ⟨h1, h2⟩ := List.getElem?_eq_some_iff.mp hd
      rw [← h2]; exact List.drop_eq_getElem_cons h1
    rw [hdrop] at hq
    unfold forL at hq
    have R' := R.grow g3
    have x3 := g3.ext R.bk
    cases hgd' : g d ρi with
    | none => simp only [hgd'] at hq; exact hq.elim
    | some ρ1' =>
      simp only [hgd'] at hq
      refine ⟨B, ρi, G3, d, ρ1', R', p3, hgd', fun σ2 R2 _ => ⟨B, ρ1', G3, R2, ?_⟩⟩
      have hq := hq.ext x3
      cases hb : sb ρ1' with
      | ok f ρ2 =>
        rw [hb] at hq
        cases f with
        | nx => exact fun σ' G' H' e R4 => ⟨ρ2, G', ex.trans (x3.trans e), R4, PostS.ext hq e⟩
        | ct => exact fun σ' G' H' e R4 => ⟨ρ2, G', ex.trans (x3.trans e), R4, PostS.ext hq e⟩
        | bk => exact hq
        | ret v => cases v with
          | sh d => exact hq
          | ow m => exact hq
      | exc e ρ2 => rw [hb] at hq; exact hq
      | bot => rw [hb] at hq; exact hq
  · rintro σ H ⟨ρi, Gi, ex, R, hq⟩
    rw [List.drop_length] at hq
    exact PostS.here hq R
end
end Rf
set_option Elab.async false
set_option linter.all false
set_option maxRecDepth 100000
set_option maxHeartbeats 1000000
namespace Rf
open PySem PySem.Spec L2 PyProof.Rows
theorem kD_some {k : Str} : ∀ {tab : List (Str × D)}, KTD.inKeys k (kD tab) = (lkS k tab).isSome
  | [] => rfl
  | (x, d0) :: tab => by
    unfold lkS
    show (decide (k = x) || KTD.inKeys k (kD tab)) = _
    by_cases e : k = x
    · rw [decide_eq_true e, if_pos e]; rfl
    · rw [decide_eq_false e, if_neg e, Bool.false_or]; exact kD_some
def rKIn (a : Addr) (tab : List (Str × D)) : R2 := fun x y H Q => ∃ k, x = .str k ∧ y = .ref a ∧ Q (.bl (lkS k tab).isSome) H
theorem op_kin {X : Cx} {a : Addr} {tab : List (Str × D)} (T : KTb X.K a tab) : OpR X (compareOp .In) (rKIn a tab) := by
  intro pins s σ H x y v u Q I rx ry h
  obtain ⟨k, rfl, rfl, q⟩ := h
  obtain ⟨t, rfl⟩ := rx
  obtain rfl : u = Value.ref a := ry
  obtain ⟨es, n, hk, hr⟩ := T.ex
  exact KTD.in_text (h₀ := s.heap) ⟨⟨T.low, _, es, n, I.kIn _ _ hk, ⟨rfl, rfl, rfl⟩, rfl, hr.rows⟩, fun _ _ z => z⟩ (by rw [kD_some]; exact ⟨.bl _, H, I.tok _, rfl, q⟩)
def inK_ (tab : List (Str × D)) : D → ENV → R D := fun x ρ1 => match x with
  | .str k => .ok (.bl (lkS k tab).isSome) ρ1
  | _ => .bot
def dInK (tab : List (Str × D)) (da : ENV → R D) : ENV → R D := fun ρ => (da ρ).bind (inK_ tab)
theorem inK_core {K : PySem.W.Frag} {cc : Cc} {a : Addr} {tab : List (Str × D)} {da : ENV → R D} : ∀ σ H Q, rE K cc (dInK tab da) σ H Q → tOp (rKIn a tab) (rE K cc da) (tC (.ref a)) σ H Q := by
  intro σ H Q ⟨B, ρ, G, R0, h⟩
  refine ⟨B, ρ, G, R0, h.bind fun d1 ρ1 G1 H1 x e1 R1 p1 h1 => ?_⟩
  cases p1 with
  | str k hk => exact ⟨k, rfl, rfl, h1 (.bl _) G1 H1 (Ext.refl _ _) R1 (.bl _)⟩
  | _ => exact h1.elim
theorem dt_inK {X : Cx} {cc : Cc} {x : Str} {e : Expr} {tab : List (Str × D)} {de : ENV → R D} {p pos : Pos} (T : KG X.K X.mg x tab) (hg : Gl X x) (he : DE X cc e de) (hd : (x == ("__debug__" : Str)) = false := by decide) : DT X cc (.Compare e [.In] [.Name x p] pos) (dT (dInK tab de)) := by
  obtain ⟨a, hm, t⟩ := T.ex
  exact PT.imp (pt_cmpR (op_kin t) he (pe_glob (v := .ref a) hg hm rfl hd) rfl) (test_core inK_core)
theorem KRows.len : ∀ {es : List DictEntry} {tab : List (Str × D)}, KRows es tab → es.length = tab.length
  | _, _, .nil => rfl
  | _, _, .cons _ r => by rw [List.length_cons, List.length_cons, r.len]
theorem KRows.get : ∀ {es : List DictEntry} {tab : List (Str × D)} {i : Nat}, KRows es tab → (h : i < es.length) → ∃ k d t, tab[i]? = some (k, d) ∧ es[i].key = .str k t ∧ RelD d es[i].val
  | _, _, 0, @KRows.cons _ x t v d es tab q r, _ => ⟨x, d, t, rfl, rfl, q⟩
  | _, _, i + 1, .cons q r, h => by
    obtain ⟨k, d, t, h1, h2, h3⟩ := r.get (i := i) (Nat.lt_of_succ_lt_succ h)
    exact ⟨k, d, t, h1, h2, h3⟩
def ItK (tab : List (Str × D)) : L2.It :=
  ⟨fun i H => i < tab.length, fun i H x H' => ∃ T k d, tab[i]? = some (k, d) ∧ x = .ref T ∧ H T = none ∧ H' = upd H T (.tup [.str k, vOf d]) ∧ ∃ v, RelD d v, fun i H => tab.length ≤ i⟩
theorem turn_itK {P : Program} {w : World} {K : PySem.W.Frag} {elts : List Expr} {kk : Nat} {tpos : Pos} {a : Addr} {tab : List (Str × D)} {es : Array DictEntry} {n : Nat} (it : Addr) (hk : K.lookup a = some ⟨.type "dict", none, .dict es n, #[]⟩) (hr : KRows es.toList tab) :
    Turn P w K (.Tuple elts kk tpos) (ItK tab) [it] it (fun i h => ∃ ok ov, IsItemIter h it a i es.size n ok ov) where
  mem := by simp
  obj := fun i h st b hb => by
    have e : b = it := by simpa using hb
    subst e
    obtain ⟨ok, ov, e⟩ := st
    exact ⟨_, e, fun v z => nomatch z⟩
  keep := fun i h h' st k => let ⟨ok, ov, e⟩ := st; ⟨ok, ov, k it (by simp) _ e⟩
  item := by
    intro X hP hw hK hc i pins s σ H E I hf st hg
    subst hP hw hK
    have hl : es.size = tab.length := by rw [← hr.len, Array.length_toList]
    have hi : i < es.size := by rw [hl]; exact hg
    obtain ⟨ok, ov, he⟩ := st
    have raw : DT.Raw s.heap a es n := ⟨_, I.kIn _ _ hk, ⟨rfl, rfl, rfl⟩, rfl⟩
    obtain ⟨k, d, t, h1, h2, h3⟩ := hr.get (i := i) (by rw [Array.length_toList]; exact hi)
    rw [Array.getElem_toList] at h2 h3
    have hlt : it < s.heap.objs.size := Heap.lt_size he
    refine DT.nextI he raw hi fun h' ho hT hz hk' => ?_
    refine ⟨_, rfl, wpAny_letOwnedTupleGo_items (s := { s with heap := h' }) ho fun h'' he' sb => ?_⟩
    have hT2 : h''.get? s.heap.objs.size = some { cls := .type "tuple", data := .seq #[es[i].key, es[i].val] } := (sb.2 _ (Nat.ne_of_gt hlt)).trans hT
    have rv : RelV (vOf d) es[i].val := by
      generalize es[i].val = v at h3 ⊢
      cases h3 with
      | int j t => exact ⟨_, rfl⟩
      | str z t hz => exact ⟨_, rfl⟩
    have new : ObjOk X.prog X.w (upd H s.heap.objs.size (.tup [.str k, vOf d])) h'' s.heap.objs.size (.tup [.str k, vOf d]) :=
      ⟨by show 2 ≤ sizeLine; decide, [es[i].key, es[i].val], .cons ⟨t, h2⟩ (.cons rv .nil), ⟨_, hT2, rfl, _, rfl⟩⟩
    have I1 : Inv X pins σ (upd H s.heap.objs.size (.tup [.str k, vOf d])) { s with heap := h'' } :=
      I.turnedNew (t' := s.toks) (ch := [it]) (fun b ob hb e => (sb.2 b (by simpa using hb)).trans (hk' b ob (by simpa using hb) e)) hf (Nat.le_refl _) new
    refine ⟨.ref s.heap.objs.size, _, I1, rfl, ⟨_, k, d, h1, rfl, I.hok.fresh (Nat.le_refl _), rfl, _, h3⟩, ⟨_, _, he'⟩, fun b hb => ?_⟩
    have e : b = it := by simpa using hb
    rw [e, upd_ne (Nat.ne_of_lt hlt)]
    exact (hf it (by simp)).1
  done := by
    intro X hP hw hK hc i pins s σ H E I hf st hg
    subst hP hw hK
    have hl : es.size = tab.length := by rw [← hr.len, Array.length_toList]
    obtain ⟨f0, f1, f2, f3, f4, f5⟩ := hf it (by simp)
    obtain ⟨ok, ov, he⟩ := st
    have raw : DT.Raw s.heap a es n := ⟨_, I.kIn _ _ hk, ⟨rfl, rfl, rfl⟩, rfl⟩
    exact DT.endI (I.ok.hd hc) he raw (by rw [hl]; exact hg) fun h' eb => ⟨rfl, I.turned (t' := s.toks) (fun b ob hb e => eb b ob hb e) f0 f1 f3 f4 f5⟩
  self := fun A i s Q E st h => let ⟨_, _, e⟩ := st; PySem.W.kcp_self e h
def iItK (tab : List (Str × D)) : TI := fun σ H R => R (ItK tab) H
theorem pi_itK {X : Cx} {x : Str} {a : Addr} {tab : List (Str × D)} {elts : List Expr} {kk : Nat} {tpos p apos cpos : Pos} (T : KTb X.K a tab) (hg : Gl X x) (hm : X.mg x = some (.ref a)) (hd : (x == ("__debug__" : Str)) = false := by decide)
    (hbase : attributeBase (.Name x p) "items" X.env (eval (.Name x p) X.env) = eval (.Name x p) X.env := by rfl) (hline : (apos.endLine == cpos.line) = true := by rfl) :
    PI X (.Tuple elts kk tpos) (.Call (.Attribute (.Name x p) "items" apos) [] [] cpos) (iItK tab) := by
  obtain ⟨es, n, hk, hr⟩ := T.ex
  refine ⟨fun pins s σ H R I h => ?_⟩
  refine wpAny_Call_method (T := "dict") (id := "dict.items") hbase rfl hline PySem.F.plainAttrs_dict PySem.F.slot_dict_items PySem.F.type_dict_items (thn ((pe_glob (v := .ref a) hg hm rfl hd).run pins s σ H (fun y H1 => y = .ref a ∧ R (ItK tab) H1) I ⟨rfl, h⟩) fun u s1 ⟨y, H1, I1, ry, ey, q⟩ => ?_)
  subst ey
  obtain rfl : u = Value.ref a := ry
  have raw : DT.Raw s1.heap a es n := ⟨_, I1.kIn _ _ hk, ⟨rfl, rfl, rfl⟩, rfl⟩
  refine ⟨raw.typeIs, fun b e => ?_, ?_⟩
  · cases e
    exact ⟨_, I1.kIn _ _ hk, rfl⟩
  have I2 : Inv X pins σ H1 { s1 with heap := s1.heap.push { cls := .type "dict_items", data := .fields #[.ref a] } } := I1.kept (t' := s1.toks) fun b ob q => Heap.get?_push_of_some _ q
  have fin : wpAny (model X.prog X.w) X.A (pyIter (.ref s1.heap.objs.size)) (PIE X pins σ (.Tuple elts kk tpos) R) X.xe { s1 with heap := s1.heap.push { cls := .type "dict_items", data := .fields #[.ref a] } } :=
    DT.iterI (s := { s1 with heap := s1.heap.push { cls := .type "dict_items", data := .fields #[.ref a] } }) ⟨_, Heap.get?_push_size _ rfl, rfl, rfl⟩ (raw.push _) (pi_one (tk := s1.toks) I2 _ (turn_itK _ hk hr) ⟨.none, .none, Heap.get?_push_size _ rfl⟩ q)
  show wpAny _ _ (callWith cpos (.builtin "dict.items") [.ref a] [] []) _ X.xe s1
  exact method_meetsIn PySem.F.slot_dict_items PySem.F.entry_dict_items rfl (PySem.evalArgs_none ⟨rfl, raw.typeIs, PySem.F.args_dict_items_1 _, _, DT.meetsItems T.low, ⟨raw, fin⟩⟩)
def itmK (tab : List (Str × D)) : List D := tab.map fun p => .tup [.str p.1, p.2]
def dItmK (tab : List (Str × D)) : ENV → R (List D) := fun ρ => .ok (itmK tab) ρ
theorem wk_itK {K : PySem.W.Frag} {C : Nat → Addr} {G : Hp} {tab : List (Str × D)} (hs : ∀ p ∈ tab, p.1.length ≤ sizeLine) : Wk K C G (ItK tab) (itmK tab) := by
  refine ⟨fun _ => True, fun i H x H' => ∃ T k d, tab[i]? = some (k, d) ∧ x = .ref T ∧ H T = none ∧ H' = upd H T (.tup [.str k, vOf d]) ∧ ∃ v, RelD d v, ⟨fun i H hi _ => (show i < tab.length by simpa [itmK] using hi), fun H _ => by simp [itmK, ItK], fun i H x H' _ _ y => y⟩, fun _ _ _ _ => trivial, fun i G2 H2 x H3 hi s s2 y => ?_⟩
  obtain ⟨T, k, d, e1, rfl, nT, rfl, v, hv⟩ := y
  have g := Grow.new (o := .tup [V.str k, vOf d]) s2 nT
  have hk : k.length ≤ sizeLine := hs (k, d) (List.mem_of_getElem? e1)
  have pd : Rp K C (upd G2 T (.tup [V.str k, vOf d])) (vOf d) d := by
    cases hv with
    | int i t => exact .int i
    | str z t hz => exact .str z hz
  refine ⟨.tup [.str k, d], _, ?_, g, .tup (.inl (.inl upd_same)) (.cons (.str _ hk) (.cons pd .nil))⟩
  unfold itmK
  rw [List.getElem?_map, e1]
  rfl
theorem di_itK {X : Cx} {cc : Cc} {x : Str} {tab : List (Str × D)} {elts : List Expr} {kk : Nat} {tpos p apos cpos : Pos} (T : KG X.K X.mg x tab) (hg : Gl X x) (hs : ∀ p ∈ tab, p.1.length ≤ sizeLine) (hd : (x == ("__debug__" : Str)) = false := by decide)
    (hbase : attributeBase (.Name x p) "items" X.env (eval (.Name x p) X.env) = eval (.Name x p) X.env := by rfl) (hline : (apos.endLine == cpos.line) = true := by rfl) :
    DI X cc (.Tuple elts kk tpos) (.Call (.Attribute (.Name x p) "items" apos) [] [] cpos) (dItmK tab) := by
  obtain ⟨a, hm, t⟩ := T.ex
  refine PI.imp (pi_itK t hg hm hd hbase hline) fun σ H Q ⟨B, ρ, G, R0, h⟩ => ?_
  exact h (ItK tab) G H (Ext.refl _ _) R0 (wk_itK hs)
def fIntT : List D → Option D
  | [.str x] => if x.length ≤ 640 then (PySem.intText? x).map .int else none
  | _ => none
theorem vb_intT {K : PySem.W.Frag} {C : Nat → Addr} : VB K C fIntT (fun xs H Q => ∃ a n, xs = [V.str a] ∧ PySem.intText? a = some n ∧ a.length ≤ 640 ∧ Q (.int n) H) := by
  intro G H xs ds d Q s r e k
  unfold fIntT at e
  split at e
  · rename_i x
    by_cases h : x.length ≤ 640
    · rw [if_pos h] at e
      cases hx : PySem.intText? x with
      | none => rw [hx] at e; cases e
      | some n =>
        rw [hx] at e
        cases e
        cases r with
        | cons h1 h2 =>
          cases h2
          cases h1
          exact ⟨x, n, rfl, hx, h, Grow.here s k (.int _)⟩
    · rw [if_neg h] at e; cases e
  · cases e
def rStrA : List V → Hp → VK → Prop := fun xs H Q => (∃ i, xs = [V.int i] ∧ i.natAbs.log2 < 1920 ∧ Q (.str (toString i)) H) ∨ ∃ a, xs = [.str a] ∧ Q (.str a) H
theorem call_strA {X : Cx} : CallR X (.type "str") rStrA := by
  intro pins s σ H xs us Q I r h
  rcases h with h | h
  · exact call_str_int pins s σ H xs us Q I r h
  · exact SkE.call_str_str pins s σ H xs us Q I r h
def fStrA : List D → Option D
  | [.int i] => if i.natAbs.log2 < 1920 ∧ (toString i : Str).length ≤ sizeLine then some (.str (toString i)) else none
  | [.str x] => some (.str x)
  | _ => none
theorem vb_strA {K : PySem.W.Frag} {C : Nat → Addr} : VB K C fStrA rStrA := by
  intro G H xs ds d Q s r e k
  unfold fStrA at e
  split at e
  · rename_i i
    by_cases h : i.natAbs.log2 < 1920 ∧ (toString i : Str).length ≤ sizeLine
    · rw [if_pos h] at e
      injection e with e
      subst e
      cases r with
      | cons h1 h2 =>
        cases h2
        cases h1
        exact .inl ⟨i, rfl, h.1, Grow.here s k (.str _ h.2)⟩
    · rw [if_neg h] at e; cases e
  · rename_i x
    cases e
    cases r with
    | cons h1 h2 =>
      cases h2
      cases h1 with
      | str _ hz => exact .inr ⟨x, rfl, Grow.here s k (.str _ hz)⟩
  · cases e
def stw2 (z : Str) : D → ENV → R D := fun y ρ2 => match y with
  | .str z2 => .ok (.bl (Txt.startswith z z2)) ρ2
  | _ => .bot
def stw1 (db : ENV → R D) : D → ENV → R D := fun x ρ1 => match x with
  | .str z => (db ρ1).bind (stw2 z)
  | _ => .bot
def dStw (da db : ENV → R D) : ENV → R D := fun ρ => (da ρ).bind (stw1 db)
theorem de_stw {X : Cx} {cc : Cc} {o e : Expr} {da db : ENV → R D} {apos pos : Pos} (ha : DE X cc o da) (hb : DE X cc e db)
    (hs : starEach [e] X.env = [(false, eval e X.env)] := by rfl) (hbase : attributeBase o "startswith" X.env (eval o X.env) = eval o X.env := by rfl) (hline : (apos.endLine == pos.line) = true := by rfl) :
    DE X cc (.Call (.Attribute o "startswith" apos) [e] [] pos) (dStw da db) := by
  refine PE.imp (pe_m1 PySem.F.slot_str_startswith PySem.F.type_str_startswith mt_startswith ha hb hs hbase hline) fun σ H Q ⟨B, ρ, G, R0, h⟩ => ⟨B, ρ, G, R0, h.bind fun d1 ρ1 G1 H1 x e1 R1 p1 h1 => ?_⟩
  cases p1 with
  | str z hz =>
    refine ⟨⟨z, rfl⟩, B, ρ1, G1, R1, Post.bind (V1 := Rp X.K cc.C) (V2 := Rp X.K cc.C) (show Post X.K cc (Rp X.K cc.C) B G1 σ Q ((db ρ1).bind (stw2 z)) from h1) fun d2 ρ2 G2 H2 y e2 R2 p2 h2 => ?_⟩
    cases p2 with
    | str z2 hz2 => exact ⟨z, z2, rfl, rfl, h2 (.bl _) G2 H2 (Ext.refl _ _) R2 (.bl _)⟩
    | _ => exact h2.elim
  | _ => exact h1.elim
end Rf
set_option Elab.async false
set_option linter.all false
set_option maxRecDepth 100000
namespace Rf
open PySem PySem.Spec L2
section
variable {α β : Type}
theorem e_bind (a : α) (ρ : ENV) (f : α → ENV → R β) : (R.ok a ρ).bind f = f a ρ := rfl
theorem e_bindX (e : EX) (ρ : ENV) (f : α → ENV → R β) : (R.exc e ρ).bind f = .exc e ρ := rfl
theorem e_bindB (f : α → ENV → R β) : (R.bot : R α).bind f = .bot := rfl
theorem e_of (a : α) (ρ : ENV) : R.of (some a) ρ = .ok a ρ := rfl
def look (o : Option (Option DV)) (i : Nat) (ρ : ENV) : R D := match o with
  | some (some (.sh d)) => .ok d ρ
  | some (some (.ow m)) => .ok m.toD (ρ.set i (some (.sh m.toD)))
  | _ => .bot
theorem e_var (i : Nat) (ρ : ENV) : dVar i ρ = look ρ[i]? i ρ := rfl
theorem e_lookS (d : D) (i : Nat) (ρ : ENV) : look (some (some (.sh d))) i ρ = .ok d ρ := rfl
theorem e_lookO (m : M) (i : Nat) (ρ : ENV) : look (some (some (.ow m))) i ρ = .ok m.toD (ρ.set i (some (.sh m.toD))) := rfl
theorem e_C (d : D) (ρ : ENV) : dC d ρ = .ok d ρ := rfl
def op2 (f : D → D → Option D) (db : ENV → R D) : D → ENV → R D := fun x ρ1 => (db ρ1).bind fun y ρ2 => R.of (f x y) ρ2
theorem e_op (f : D → D → Option D) (da db : ENV → R D) (ρ : ENV) : dOp f da db ρ = (da ρ).bind (op2 f db) := rfl
def op1 (f : D → Option D) : D → ENV → R D := fun y ρ2 => R.of (f y) ρ2
theorem e_op2 (f : D → D → Option D) (db : ENV → R D) (x : D) (ρ : ENV) : op2 f db x ρ = (db ρ).bind (op1 (f x)) := rfl
theorem e_op1 (f : D → Option D) (y : D) (ρ : ENV) : op1 f y ρ = R.of (f y) ρ := rfl
theorem e_un (f : D → Option D) (da : ENV → R D) (ρ : ENV) : dUn f da ρ = (da ρ).bind (op1 f) := rfl
theorem e_is (f : D → Option Bool) (da : ENV → R D) (ρ : ENV) : dIs f da ρ = (da ρ).bind (op1 fun d => (f d).map D.bl) := rfl
def toB : D → ENV → R Bool
  | .bl b, ρ => .ok b ρ
  | _, _ => .bot
theorem e_T (da : ENV → R D) (ρ : ENV) : dT da ρ = (da ρ).bind toB := by
  unfold dT asT
  cases da ρ with
  | ok d ρ => cases d <;> rfl
  | exc e ρ => rfl
  | bot => rfl
theorem e_toB (b : Bool) (ρ : ENV) : toB (.bl b) ρ = .ok b ρ := rfl
def truB : D → ENV → R Bool := fun d ρ => R.of (tru d) ρ
theorem e_Tru (da : ENV → R D) (ρ : ENV) : dTru da ρ = (da ρ).bind truB := rfl
theorem e_truB (d : D) (ρ : ENV) : truB d ρ = R.of (tru d) ρ := rfl
def andK (db : ENV → R Bool) : Bool → ENV → R Bool := fun x ρ1 => if x = true then db ρ1 else .ok false ρ1
def orK (db : ENV → R Bool) : Bool → ENV → R Bool := fun x ρ1 => if x = true then .ok true ρ1 else db ρ1
theorem e_And (da db : ENV → R Bool) (ρ : ENV) : dAnd da db ρ = (da ρ).bind (andK db) := rfl
theorem e_Or (da db : ENV → R Bool) (ρ : ENV) : dOr da db ρ = (da ρ).bind (orK db) := rfl
theorem e_andT (db : ENV → R Bool) (ρ : ENV) : andK db true ρ = db ρ := rfl
theorem e_andF (db : ENV → R Bool) (ρ : ENV) : andK db false ρ = .ok false ρ := rfl
theorem e_orT (db : ENV → R Bool) (ρ : ENV) : orK db true ρ = .ok true ρ := rfl
theorem e_orF (db : ENV → R Bool) (ρ : ENV) : orK db false ρ = db ρ := rfl
def notK : Bool → ENV → R Bool := fun x ρ1 => .ok (!x) ρ1
theorem e_Not (da : ENV → R Bool) (ρ : ENV) : dNot da ρ = (da ρ).bind notK := rfl
theorem e_notK (x : Bool) (ρ : ENV) : notK x ρ = .ok (!x) ρ := rfl
def andVK (db : ENV → R D) : D → ENV → R D := fun x ρ1 => match tru x with
  | some true => db ρ1
  | some false => .ok x ρ1
  | none => .bot
def orVK (db : ENV → R D) : D → ENV → R D := fun x ρ1 => match tru x with
  | some true => .ok x ρ1
  | some false => db ρ1
  | none => .bot
theorem e_AndV (da db : ENV → R D) (ρ : ENV) : dAndV da db ρ = (da ρ).bind (andVK db) := rfl
theorem e_OrV (da db : ENV → R D) (ρ : ENV) : dOrV da db ρ = (da ρ).bind (orVK db) := rfl
theorem e_andVT (db : ENV → R D) (ρ : ENV) : andVK db (.bl true) ρ = db ρ := rfl
theorem e_andVF (db : ENV → R D) (ρ : ENV) : andVK db (.bl false) ρ = .ok (.bl false) ρ := rfl
theorem e_orVT (db : ENV → R D) (ρ : ENV) : orVK db (.bl true) ρ = .ok (.bl true) ρ := rfl
theorem e_orVF (db : ENV → R D) (ρ : ENV) : orVK db (.bl false) ρ = db ρ := rfl
def notVK : D → ENV → R D := fun x ρ1 => R.of ((tru x).map fun k => .bl (!k)) ρ1
theorem e_NotV (da : ENV → R D) (ρ : ENV) : dNotV da ρ = (da ρ).bind notVK := rfl
theorem e_notVK (x : Bool) (ρ : ENV) : notVK (.bl x) ρ = .ok (.bl (!x)) ρ := rfl
def ifK (da db : ENV → R D) : Bool → ENV → R D := fun x ρ1 => if x = true then da ρ1 else db ρ1
theorem e_If (t : ENV → R Bool) (da db : ENV → R D) (ρ : ENV) : dIf t da db ρ = (t ρ).bind (ifK da db) := rfl
theorem e_ifT (da db : ENV → R D) (ρ : ENV) : ifK da db true ρ = da ρ := rfl
theorem e_ifF (da db : ENV → R D) (ρ : ENV) : ifK da db false ρ = db ρ := rfl
theorem e_Nil (ρ : ENV) : dNil ρ = .ok [] ρ := rfl
def consK (dr : ENV → R (List D)) : D → ENV → R (List D) := fun x ρ1 => (dr ρ1).bind fun xs ρ2 => .ok (x :: xs) ρ2
def consK2 (x : D) : List D → ENV → R (List D) := fun xs ρ2 => .ok (x :: xs) ρ2
theorem e_Cons (da : ENV → R D) (dr : ENV → R (List D)) (ρ : ENV) : dCons da dr ρ = (da ρ).bind (consK dr) := rfl
theorem e_consK (dr : ENV → R (List D)) (x : D) (ρ : ENV) : consK dr x ρ = (dr ρ).bind (consK2 x) := rfl
theorem e_consK2 (x : D) (xs : List D) (ρ : ENV) : consK2 x xs ρ = .ok (x :: xs) ρ := rfl
def tupK : List D → ENV → R D := fun xs ρ1 => if xs.length ≤ sizeLine then .ok (.tup xs) ρ1 else .bot
def lstK : List D → ENV → R D := fun xs ρ1 => if xs.length ≤ sizeLine then .ok (.lst xs) ρ1 else .bot
def lstF : List D → ENV → R M := fun xs ρ1 => if xs.length ≤ sizeLine then .ok (.lst xs) ρ1 else .bot
theorem e_Tup (dr : ENV → R (List D)) (ρ : ENV) : dTup dr ρ = (dr ρ).bind tupK := rfl
theorem e_Lst (dr : ENV → R (List D)) (ρ : ENV) : dLst dr ρ = (dr ρ).bind lstK := rfl
theorem e_LstF (dr : ENV → R (List D)) (ρ : ENV) : fLst dr ρ = (dr ρ).bind lstF := rfl
theorem e_tupK (xs : List D) (ρ : ENV) (h : xs.length ≤ sizeLine) : tupK xs ρ = .ok (.tup xs) ρ := by unfold tupK; rw [if_pos h]
theorem e_lstK (xs : List D) (ρ : ENV) (h : xs.length ≤ sizeLine) : lstK xs ρ = .ok (.lst xs) ρ := by unfold lstK; rw [if_pos h]
theorem e_lstF (xs : List D) (ρ : ENV) (h : xs.length ≤ sizeLine) : lstF xs ρ = .ok (.lst xs) ρ := by unfold lstF; rw [if_pos h]
theorem e_tup0 (ρ : ENV) : tupK [] ρ = .ok (.tup []) ρ := rfl
theorem e_lst0 (ρ : ENV) : lstK [] ρ = .ok (.lst []) ρ := rfl
theorem e_lstF0 (ρ : ENV) : lstF [] ρ = .ok (.lst []) ρ := rfl
def bK (f : List D → Option D) : List D → ENV → R D := fun xs ρ1 => R.of (f xs) ρ1
theorem e_B (f : List D → Option D) (dr : ENV → R (List D)) (ρ : ENV) : dB f dr ρ = (dr ρ).bind (bK f) := rfl
theorem e_bK (f : List D → Option D) (xs : List D) (ρ : ENV) : bK f xs ρ = R.of (f xs) ρ := rfl
def ixO (i : Nat) : D → ENV → R D := fun k ρ1 => match k, ρ1[i]? with
  | .int k, some (some (.ow (.lst ds))) => R.of (atI ds k) ρ1
  | _, _ => .bot
theorem e_ixO (i : Nat) (dk : ENV → R D) (ρ : ENV) (ds : List D) (h : ρ[i]? = some (some (.ow (.lst ds)))) : dIxO i dk ρ = (dk ρ).bind (ixO i) := by
  unfold dIxO; rw [h]; rfl
theorem e_ixO2 (i : Nat) (k : Int) (ρ : ENV) (ds : List D) (h : ρ[i]? = some (some (.ow (.lst ds)))) : ixO i (.int k) ρ = R.of (atI ds k) ρ := by
  unfold ixO; rw [h]
theorem at0 {α : Type} (x : α) (xs : List α) : L2.atI (x :: xs) 0 = some x := by
  unfold L2.atI ixN
  rw [if_pos (Int.le_refl 0), if_pos (by simp only [List.length_cons]; omega)]; rfl
theorem at1 {α : Type} (x y : α) (xs : List α) : L2.atI (x :: y :: xs) 1 = some y := by
  unfold L2.atI ixN
  rw [if_pos (by decide), if_pos (by simp only [List.length_cons]; omega)]; rfl
theorem at2 {α : Type} (x y z : α) (xs : List α) : L2.atI (x :: y :: z :: xs) 2 = some z := by
  unfold L2.atI ixN
  rw [if_pos (by decide), if_pos (by simp only [List.length_cons]; omega)]; rfl
theorem at3 {α : Type} (x y z u : α) (xs : List α) : L2.atI (x :: y :: z :: u :: xs) 3 = some u := by
  unfold L2.atI ixN
  rw [if_pos (by decide), if_pos (by simp only [List.length_cons]; omega)]; rfl
theorem atN {α : Type} {xs : List α} {i : Int} {x : α} (h0 : 0 ≤ i) (h : xs[i.toNat]? = some x) : L2.atI xs i = some x := by
  obtain ⟨hl, _⟩ := List.getElem?_eq_some_iff.mp h
  unfold L2.atI ixN
  rw [if_pos h0, if_pos (by omega)]
  exact h
theorem e_eqI (i j : Int) : CK.f .eq (.int i) (.int j) = some (.bl (i == j)) := rfl
theorem e_neI (i j : Int) : CK.f .ne (.int i) (.int j) = some (.bl (!(i == j))) := rfl
theorem e_ltI (i j : Int) : CK.f .lt (.int i) (.int j) = some (.bl (decide (i < j))) := rfl
theorem e_leI (i j : Int) : CK.f .le (.int i) (.int j) = some (.bl (decide (i ≤ j))) := rfl
theorem e_gtI (i j : Int) : CK.f .gt (.int i) (.int j) = some (.bl (decide (j < i))) := rfl
theorem e_geI (i j : Int) : CK.f .ge (.int i) (.int j) = some (.bl (decide (j ≤ i))) := rfl
theorem e_add (i j : Int) : vAdd (.int i) (.int j) = some (.int (i + j)) := rfl
theorem e_vI (f : Int → Int → Int) (i j : Int) : vI f (.int i) (.int j) = some (.int (f i j)) := rfl
theorem e_vIc (c : Int → Int → Bool) (f : Int → Int → Int) (i j : Int) (h : c i j = true) : vIc c f (.int i) (.int j) = some (.int (f i j)) := by
  show (if c i j = true then some (D.int (f i j)) else none) = _
  rw [if_pos h]
theorem e_neg (i : Int) : vNeg (.int i) = some (.int (-i)) := rfl
theorem e_fInt (i : Int) : fInt [.int i] = some (.int i) := rfl
theorem e_fIntB (b : Bool) : fInt [.bl b] = some (.int (if b then 1 else 0)) := rfl
theorem e_lenL (ds : List D) : fLen [.lst ds] = some (.int ds.length) := rfl
theorem e_lenT (ds : List D) : fLen [.tup ds] = some (.int ds.length) := rfl
theorem e_lenR (ds : List D) : fLen [.scr ds] = some (.int ds.length) := rfl
theorem e_lenS (z : Str) : fLen [.str z] = some (.int z.length) := rfl
theorem e_ixL (ds : List D) (i : Int) : vIxI (.lst ds) (.int i) = atI ds i := rfl
theorem e_ixT (ds : List D) (i : Int) : vIxI (.tup ds) (.int i) = atI ds i := rfl
theorem e_tupL (ds : List D) : fTuple [.lst ds] = some (.tup ds) := rfl
theorem e_tupT (ds : List D) : fTuple [.tup ds] = some (.tup ds) := rfl
theorem e_lstT (ds : List D) : fList [.tup ds] = some (.lst ds) := rfl
def sqK (b : ENV → R Fl) : Fl → ENV → R Fl
  | .nx, ρ => b ρ
  | f, ρ => .ok f ρ
theorem e_Seq (a b : ENV → R Fl) (ρ : ENV) : sSeq a b ρ = (a ρ).bind (sqK b) := by
  unfold sSeq
  cases a ρ with
  | ok f ρ => cases f <;> rfl
  | exc e ρ => rfl
  | bot => rfl
theorem e_sqN (b : ENV → R Fl) (ρ : ENV) : sqK b .nx ρ = b ρ := rfl
theorem e_sqR (b : ENV → R Fl) (v : DV) (ρ : ENV) : sqK b (.ret v) ρ = .ok (.ret v) ρ := rfl
theorem e_sqB (b : ENV → R Fl) (ρ : ENV) : sqK b .bk ρ = .ok .bk ρ := rfl
theorem e_sqC (b : ENV → R Fl) (ρ : ENV) : sqK b .ct ρ = .ok .ct ρ := rfl
theorem e_sNil (ρ : ENV) : sNil ρ = .ok .nx ρ := rfl
def sifK (a b : ENV → R Fl) : Bool → ENV → R Fl := fun x ρ1 => if x = true then a ρ1 else b ρ1
theorem e_sIf (c : ENV → R Bool) (a b : ENV → R Fl) (ρ : ENV) : sIf c a b ρ = (c ρ).bind (sifK a b) := rfl
theorem e_sifT (a b : ENV → R Fl) (ρ : ENV) : sifK a b true ρ = a ρ := rfl
theorem e_sifF (a b : ENV → R Fl) (ρ : ENV) : sifK a b false ρ = b ρ := rfl
def retK : D → ENV → R Fl := fun d ρ1 => .ok (.ret (.sh d)) ρ1
def retFK : M → ENV → R Fl := fun d ρ1 => .ok (.ret (.ow d)) ρ1
theorem e_Ret (da : ENV → R D) (ρ : ENV) : sRet da ρ = (da ρ).bind retK := rfl
theorem e_retK (d : D) (ρ : ENV) : retK d ρ = .ok (.ret (.sh d)) ρ := rfl
theorem e_RetF (da : ENV → R M) (ρ : ENV) : sRetF da ρ = (da ρ).bind retFK := rfl
theorem e_retFK (d : M) (ρ : ENV) : retFK d ρ = .ok (.ret (.ow d)) ρ := rfl
def exprK : D → ENV → R Fl := fun _ ρ1 => .ok .nx ρ1
theorem e_Expr (da : ENV → R D) (ρ : ENV) : sExpr da ρ = (da ρ).bind exprK := rfl
theorem e_exprK (d : D) (ρ : ENV) : exprK d ρ = .ok .nx ρ := rfl
def stK (o : Option ENV) : R Fl := match o with
  | some ρ => .ok .nx ρ
  | none => .bot
def asgK (g : D → ENV → Option ENV) : D → ENV → R Fl := fun d ρ1 => stK (g d ρ1)
theorem e_Asg (da : ENV → R D) (g : D → ENV → Option ENV) (ρ : ENV) : sAsg da g ρ = (da ρ).bind (asgK g) := by
  unfold sAsg
  cases da ρ with
  | ok d ρ => show (match g d ρ with | some ρ2 => R.ok Fl.nx ρ2 | none => .bot) = stK (g d ρ); unfold stK; cases g d ρ <;> rfl
  | exc e ρ => rfl
  | bot => rfl
theorem e_asgK (g : D → ENV → Option ENV) (d : D) (ρ : ENV) : asgK g d ρ = stK (g d ρ) := rfl
theorem e_stK (ρ : ENV) : stK (some ρ) = .ok .nx ρ := rfl
theorem e_gSet (i : Nat) (d : D) (ρ : ENV) (h : i < ρ.length) : gSet i d ρ = some (ρ.set i (some (.sh d))) := by unfold gSet; rw [if_pos h]
def ownK (i : Nat) : M → ENV → R Fl := fun m ρ1 => if i < ρ1.length then .ok .nx (ρ1.set i (some (.ow m))) else .bot
theorem e_Own (fa : ENV → R M) (i : Nat) (ρ : ENV) : sOwn fa i ρ = (fa ρ).bind (ownK i) := rfl
theorem e_ownK (i : Nat) (m : M) (ρ : ENV) (h : i < ρ.length) : ownK i m ρ = .ok .nx (ρ.set i (some (.ow m))) := by unfold ownK; rw [if_pos h]
def subK (i : Nat) (di : ENV → R D) : D → ENV → R Fl := fun d ρ1 => match ρ1[i]? with
  | some (some (.ow (.lst _))) => (di ρ1).bind fun k ρ2 => match k, ρ2[i]? with
    | .int k, some (some (.ow (.lst ds))) => match ixN ds.length k with
      | some j => .ok .nx (ρ2.set i (some (.ow (.lst (ds.set j d)))))
      | none => .bot
    | _, _ => .bot
  | _ => .bot
theorem e_Sub (i : Nat) (da di : ENV → R D) (ρ : ENV) : sSub i da di ρ = (da ρ).bind (subK i di) := rfl
theorem e_subK (i : Nat) (k : Int) (d : D) (ρ : ENV) (ds : List D) (h : ρ[i]? = some (some (.ow (.lst ds)))) (hk : 0 ≤ k) (hl : k < ds.length) : subK i (dC (.int k)) d ρ = .ok .nx (ρ.set i (some (.ow (.lst (ds.set k.toNat d))))) := by
  unfold subK
  rw [h]
  dsimp only [dC, R.bind]
  rw [h]
  dsimp only [ixN]
  rw [if_pos hk, if_pos hl]
def appK (i : Nat) : D → ENV → R Fl := fun d ρ1 => match ρ1[i]? with
  | some (some (.ow (.lst ds))) => if ds.length < sizeLine then .ok .nx (ρ1.set i (some (.ow (.lst (ds ++ [d]))))) else .bot
  | _ => .bot
theorem e_App (i : Nat) (da : ENV → R D) (ρ : ENV) (ds : List D) (h : ρ[i]? = some (some (.ow (.lst ds)))) : sApp i da ρ = (da ρ).bind (appK i) := by
  unfold sApp; rw [h]; rfl
theorem e_appK (i : Nat) (d : D) (ρ : ENV) (ds : List D) (h : ρ[i]? = some (some (.ow (.lst ds)))) (hl : ds.length < sizeLine) : appK i d ρ = .ok .nx (ρ.set i (some (.ow (.lst (ds ++ [d]))))) := by
  unfold appK; rw [h]; dsimp only; rw [if_pos hl]
def forK (g : D → ENV → Option ENV) (body : ENV → R Fl) : List D → ENV → R Fl := fun ds ρ1 => forL g body ds ρ1
theorem e_For (di : ENV → R (List D)) (g : D → ENV → Option ENV) (body : ENV → R Fl) (ρ : ENV) : sFor di g body ρ = (di ρ).bind (forK g body) := rfl
def itK : D → ENV → R (List D) := fun x ρ1 => R.of (items x) ρ1
theorem e_Items (da : ENV → R D) (ρ : ENV) : dItems da ρ = (da ρ).bind itK := rfl
theorem e_itL (ds : List D) (ρ : ENV) : itK (.lst ds) ρ = .ok ds ρ := rfl
theorem e_itT (ds : List D) (ρ : ENV) : itK (.tup ds) ρ = .ok ds ρ := rfl
theorem e_itR (ds : List D) (ρ : ENV) : itK (.scr ds) ρ = .ok ds ρ := rfl
theorem e_Call (F : List DV → FO) (dr : ENV → R (List Ag)) (ρ : ENV) : dCall F dr ρ = ((dr ρ).bind (stepR F)).bind onSh := rfl
theorem e_CallF (F : List DV → FO) (dr : ENV → R (List Ag)) (ρ : ENV) : fCall F dr ρ = ((dr ρ).bind (stepR F)).bind onOw := rfl
theorem e_aNil (ρ : ENV) : aNil ρ = .ok [] ρ := rfl
def aVK (dr : ENV → R (List Ag)) : D → ENV → R (List Ag) := fun x ρ1 => (dr ρ1).bind fun xs ρ2 => .ok (.inl x :: xs) ρ2
def aVK2 (x : Ag) : List Ag → ENV → R (List Ag) := fun xs ρ2 => .ok (x :: xs) ρ2
theorem e_aVal (da : ENV → R D) (dr : ENV → R (List Ag)) (ρ : ENV) : aVal da dr ρ = (da ρ).bind (aVK dr) := rfl
theorem e_aVK (dr : ENV → R (List Ag)) (x : D) (ρ : ENV) : aVK dr x ρ = (dr ρ).bind (aVK2 (.inl x)) := rfl
theorem e_aVK2 (x : Ag) (xs : List Ag) (ρ : ENV) : aVK2 x xs ρ = .ok (x :: xs) ρ := rfl
theorem e_aIo (i : Nat) (dr : ENV → R (List Ag)) (ρ : ENV) (m : M) (h : ρ[i]? = some (some (.ow m))) : aIo i dr ρ = (dr ρ).bind (aVK2 (.inr i)) := by unfold aIo; rw [h]; rfl
def outK (as : List Ag) (ρ : ENV) : FO → R DV
  | .ok v ms => match putB as ms ρ with | some ρ2 => .ok v ρ2 | none => .bot
  | .exc e ms => match putB as ms ρ with | some ρ2 => .exc e ρ2 | none => .bot
  | .bot => .bot
theorem step0 (F : List DV → FO) (ρ : ENV) : stepR F [] ρ = outK [] ρ (F []) := by show (match F [] with | .ok v ms => _ | .exc e ms => _ | .bot => _) = _; cases F [] <;> rfl
theorem step1 (F : List DV → FO) (a : D) (ρ : ENV) : stepR F [.inl a] ρ = outK [.inl a] ρ (F [.sh a]) := by show (match F [.sh a] with | .ok v ms => _ | .exc e ms => _ | .bot => _) = _; cases F [.sh a] <;> rfl
theorem step2 (F : List DV → FO) (a b : D) (ρ : ENV) : stepR F [.inl a, .inl b] ρ = outK [.inl a, .inl b] ρ (F [.sh a, .sh b]) := by show (match F [.sh a, .sh b] with | .ok v ms => _ | .exc e ms => _ | .bot => _) = _; cases F [.sh a, .sh b] <;> rfl
theorem step3 (F : List DV → FO) (a b c : D) (ρ : ENV) : stepR F [.inl a, .inl b, .inl c] ρ = outK [.inl a, .inl b, .inl c] ρ (F [.sh a, .sh b, .sh c]) := by show (match F [.sh a, .sh b, .sh c] with | .ok v ms => _ | .exc e ms => _ | .bot => _) = _; cases F [.sh a, .sh b, .sh c] <;> rfl
theorem stepO1 (F : List DV → FO) (i : Nat) (ρ : ENV) (m : M) (h : ρ[i]? = some (some (.ow m))) : stepR F [.inr i] ρ = outK [.inr i] ρ (F [.ow m]) := by
  unfold stepR
  have e : (if nodupB (slots [Sum.inr i]) = true then reso ρ [Sum.inr i] else none) = some [.ow m] := by
    have : nodupB (slots [(Sum.inr i : Ag)]) = true := by simp [slots, nodupB]
    rw [if_pos this]; unfold reso; rw [h]; rfl
  rw [e]
  show (match F [.ow m] with | .ok v ms => (match putB [.inr i] ms ρ with | some ρ2 => R.ok v ρ2 | none => .bot) | .exc e ms => (match putB [.inr i] ms ρ with | some ρ2 => .exc e ρ2 | none => .bot) | .bot => .bot) = outK [.inr i] ρ (F [.ow m])
  cases F [.ow m] <;> rfl
theorem stepO2 (F : List DV → FO) (i : Nat) (a : D) (ρ : ENV) (m : M) (h : ρ[i]? = some (some (.ow m))) : stepR F [.inr i, .inl a] ρ = outK [.inr i, .inl a] ρ (F [.ow m, .sh a]) := by
  unfold stepR
  have e : (if nodupB (slots [Sum.inr i, Sum.inl a]) = true then reso ρ [Sum.inr i, Sum.inl a] else none) = some [.ow m, .sh a] := by
    have : nodupB (slots [(Sum.inr i : Ag), Sum.inl a]) = true := by simp [slots, nodupB]
    rw [if_pos this]; unfold reso; rw [h]; rfl
  rw [e]
  show (match F [.ow m, .sh a] with | .ok v ms => (match putB [.inr i, .inl a] ms ρ with | some ρ2 => R.ok v ρ2 | none => .bot) | .exc e ms => (match putB [.inr i, .inl a] ms ρ with | some ρ2 => .exc e ρ2 | none => .bot) | .bot => .bot) = outK [.inr i, .inl a] ρ (F [.ow m, .sh a])
  cases F [.ow m, .sh a] <;> rfl
theorem stepO3 (F : List DV → FO) (i : Nat) (a b : D) (ρ : ENV) (m : M) (h : ρ[i]? = some (some (.ow m))) : stepR F [.inr i, .inl a, .inl b] ρ = outK [.inr i, .inl a, .inl b] ρ (F [.ow m, .sh a, .sh b]) := by
  unfold stepR
  have e : (if nodupB (slots [Sum.inr i, Sum.inl a, Sum.inl b]) = true then reso ρ [Sum.inr i, Sum.inl a, Sum.inl b] else none) = some [.ow m, .sh a, .sh b] := by
    have : nodupB (slots [(Sum.inr i : Ag), Sum.inl a, Sum.inl b]) = true := by simp [slots, nodupB]
    rw [if_pos this]; unfold reso; rw [h]; rfl
  rw [e]
  show (match F [.ow m, .sh a, .sh b] with | .ok v ms => (match putB [.inr i, .inl a, .inl b] ms ρ with | some ρ2 => R.ok v ρ2 | none => .bot) | .exc e ms => (match putB [.inr i, .inl a, .inl b] ms ρ with | some ρ2 => .exc e ρ2 | none => .bot) | .bot => .bot) = outK [.inr i, .inl a, .inl b] ρ (F [.ow m, .sh a, .sh b])
  cases F [.ow m, .sh a, .sh b] <;> rfl
theorem out1 (a : D) (ρ : ENV) (v : DV) : outK [.inl a] ρ (.ok v []) = .ok v ρ := rfl
theorem out0 (ρ : ENV) (v : DV) : outK [] ρ (.ok v []) = .ok v ρ := rfl
theorem out2 (a b : D) (ρ : ENV) (v : DV) : outK [.inl a, .inl b] ρ (.ok v []) = .ok v ρ := rfl
theorem out3 (a b c : D) (ρ : ENV) (v : DV) : outK [.inl a, .inl b, .inl c] ρ (.ok v []) = .ok v ρ := rfl
theorem outX1 (a : D) (ρ : ENV) (v : EX) : outK [.inl a] ρ (.exc v []) = .exc v ρ := rfl
theorem outX2 (a b : D) (ρ : ENV) (v : EX) : outK [.inl a, .inl b] ρ (.exc v []) = .exc v ρ := rfl
theorem outO1 (i : Nat) (ρ : ENV) (v : DV) (m : M) : outK [.inr i] ρ (.ok v [m]) = .ok v (ρ.set i (some (.ow m))) := rfl
theorem outO2 (i : Nat) (a : D) (ρ : ENV) (v : DV) (m : M) : outK [.inr i, .inl a] ρ (.ok v [m]) = .ok v (ρ.set i (some (.ow m))) := rfl
theorem outO3 (i : Nat) (a b : D) (ρ : ENV) (v : DV) (m : M) : outK [.inr i, .inl a, .inl b] ρ (.ok v [m]) = .ok v (ρ.set i (some (.ow m))) := rfl
theorem e_onSh (d : D) (ρ : ENV) : onSh (.sh d) ρ = .ok d ρ := rfl
theorem e_onOw (d : M) (ρ : ENV) : onOw (.ow d) ρ = .ok d ρ := rfl
def finF (ds : List DV) : R Fl → FO
  | .ok (.ret v) ρ => match outsE 0 ds ρ with | some ms => .ok v ms | none => .bot
  | .ok .nx ρ => match outsE 0 ds ρ with | some ms => .ok (.sh .non) ms | none => .bot
  | .exc e ρ => match outsE 0 ds ρ with | some ms => .exc e ms | none => .bot
  | _ => .bot
theorem e_run (pr : List Nat) (n : Nat) (den : ENV → R Fl) (ds : List DV) (h : owPos 0 ds = pr) : runF pr n den ds = finF ds (den (startE n ds)) := by
  unfold runF
  rw [if_pos h]
  cases den (startE n ds) with
  | ok f ρ => cases f <;> rfl
  | exc e ρ => rfl
  | bot => rfl
end
end Rf
set_option Elab.async false
set_option linter.all false
set_option maxRecDepth 100000
namespace Rf
open PySem PySem.Spec L2
theorem set2 (ρ : ENV) (i : Nat) (x y : Option DV) : (ρ.set i x).set i y = ρ.set i y := List.set_set ..
theorem set_back (ρ : ENV) (i : Nat) (x : Option DV) (h : ρ[i]? = some none) : back ρ [i] (ρ.set i x) = ρ := by
  unfold back
  rw [h]
  dsimp only [back]
  rw [set2]
  refine List.ext_getElem? fun j => ?_
  by_cases e : i = j
  · subst e
    rw [List.getElem?_set_self (List.getElem?_eq_some_iff.mp h).1, h]
  · rw [List.getElem?_set_ne e]
theorem noOwn1 (ρ : ENV) (i : Nat) (h : ρ[i]? = some none) : noOwn ρ [i] = true := by
  unfold noOwn
  simp only [List.all_cons, List.all_nil, h, Bool.and_true]
theorem comp_map {ρ : ENV} {i : Nat} {te : ENV → R D} {f : D → D} (hi : i < ρ.length) : ∀ (ds acc : List D) (x : Option DV), (∀ d ∈ ds, te (ρ.set i (some (.sh d))) = .ok (f d) (ρ.set i (some (.sh d)))) → acc.length + ds.length ≤ sizeLine →
    ∃ y, compL (gSet i) dYes te [i] ds acc (ρ.set i x) = .ok (acc ++ ds.map f) (ρ.set i y)
  | [], acc, x, _, _ => ⟨x, by unfold compL; simp⟩
  | d :: ds, acc, x, h, hz => by
    obtain ⟨y, hy⟩ := comp_map hi ds (acc ++ [f d]) (some (.sh d)) (fun e he => h e (List.mem_cons_of_mem _ he)) (by simp only [List.length_append, List.length_cons, List.length_nil] at hz ⊢; omega)
    refine ⟨y, ?_⟩
    unfold compL
    have e1 : wipeE (ρ.set i x) [i] = ρ.set i none := by unfold wipeE; exact set2 ..
    have e2 : gSet i d (ρ.set i none) = some (ρ.set i (some (.sh d))) := by unfold gSet; rw [if_pos (by rw [List.length_set]; exact hi), set2]
    have e3 : acc.length < sizeLine := by simp only [List.length_cons] at hz; omega
    rw [e1, e2]
    simp only [dYes, h d List.mem_cons_self, if_pos e3, hy]
    simp
theorem lc_map {ρ : ENV} {i : Nat} {te : ENV → R D} {di : ENV → R (List D)} {ds : List D} (f : D → D) (hd : di ρ = .ok ds ρ) (hi : ρ[i]? = some none) (h : ∀ d ∈ ds, te (ρ.set i (some (.sh d))) = .ok (f d) (ρ.set i (some (.sh d)))) (hz : ds.length ≤ sizeLine) :
    fLc di (gSet i) dYes te [i] ρ = .ok (.lst (ds.map f)) ρ := by
  have e0 : ρ = ρ.set i none := by
    refine List.ext_getElem? fun j => ?_
    by_cases e : i = j
    · subst e; rw [List.getElem?_set_self (List.getElem?_eq_some_iff.mp hi).1, hi]
    · rw [List.getElem?_set_ne e]
  obtain ⟨y, hy⟩ := comp_map (List.getElem?_eq_some_iff.mp hi).1 ds [] none h (by simpa using hz)
  unfold fLc
  rw [hd]
  dsimp only [R.bind]
  rw [noOwn1 ρ i hi]
  rw [← e0] at hy
  rw [hy]
  dsimp only
  rw [set_back ρ i y hi]
  simp
theorem comp_filt {ρ : ENV} {i : Nat} {tt : ENV → R Bool} {te : ENV → R D} {p : D → Bool} {f : D → D} (hi : i < ρ.length) : ∀ (ds acc : List D) (x : Option DV), (∀ d ∈ ds, tt (ρ.set i (some (.sh d))) = .ok (p d) (ρ.set i (some (.sh d)))) → (∀ d ∈ ds, p d = true → te (ρ.set i (some (.sh d))) = .ok (f d) (ρ.set i (some (.sh d)))) → acc.length + ds.length ≤ sizeLine →
    ∃ y, compL (gSet i) tt te [i] ds acc (ρ.set i x) = .ok (acc ++ (ds.filter p).map f) (ρ.set i y)
  | [], acc, x, _, _, _ => ⟨x, by unfold compL; simp⟩
  | d :: ds, acc, x, h, h2, hz => by
    have e1 : wipeE (ρ.set i x) [i] = ρ.set i none := by unfold wipeE; exact set2 ..
    have e2 : gSet i d (ρ.set i none) = some (ρ.set i (some (.sh d))) := by unfold gSet; rw [if_pos (by rw [List.length_set]; exact hi), set2]
    have e3 : acc.length < sizeLine := by simp only [List.length_cons] at hz; omega
    cases hp : p d with
    | true =>
      obtain ⟨y, hy⟩ := comp_filt hi ds (acc ++ [f d]) (some (.sh d)) (fun e he => h e (List.mem_cons_of_mem _ he)) (fun e he => h2 e (List.mem_cons_of_mem _ he)) (by simp only [List.length_append, List.length_cons, List.length_nil] at hz ⊢; omega)
      refine ⟨y, ?_⟩
      unfold compL
      rw [e1, e2]
      simp only [h d List.mem_cons_self, hp, h2 d List.mem_cons_self hp, if_pos e3, hy]
      simp [hp]
    | false =>
      obtain ⟨y, hy⟩ := comp_filt hi ds acc (some (.sh d)) (fun e he => h e (List.mem_cons_of_mem _ he)) (fun e he => h2 e (List.mem_cons_of_mem _ he)) (by simp only [List.length_cons] at hz ⊢; omega)
      refine ⟨y, ?_⟩
      unfold compL
      rw [e1, e2]
      simp only [h d List.mem_cons_self, hp, hy]
      simp [hp]
theorem lc_filt {ρ : ENV} {i : Nat} {tt : ENV → R Bool} {te : ENV → R D} {di : ENV → R (List D)} {ds : List D} (p : D → Bool) (f : D → D) (hd : di ρ = .ok ds ρ) (hi : ρ[i]? = some none) (h : ∀ d ∈ ds, tt (ρ.set i (some (.sh d))) = .ok (p d) (ρ.set i (some (.sh d))))
    (h2 : ∀ d ∈ ds, p d = true → te (ρ.set i (some (.sh d))) = .ok (f d) (ρ.set i (some (.sh d)))) (hz : ds.length ≤ sizeLine) :
    fLc di (gSet i) tt te [i] ρ = .ok (.lst ((ds.filter p).map f)) ρ := by
  have e0 : ρ = ρ.set i none := by
    refine List.ext_getElem? fun j => ?_
    by_cases e : i = j
    · subst e; rw [List.getElem?_set_self (List.getElem?_eq_some_iff.mp hi).1, hi]
    · rw [List.getElem?_set_ne e]
  obtain ⟨y, hy⟩ := comp_filt (List.getElem?_eq_some_iff.mp hi).1 ds [] none h h2 (by simpa using hz)
  unfold fLc
  rw [hd]
  dsimp only [R.bind]
  rw [noOwn1 ρ i hi]
  rw [← e0] at hy
  rw [hy]
  dsimp only
  rw [set_back ρ i y hi]
  simp
theorem toPyL_map (f : Int → D) (g : Int → PyData) (h : ∀ i, (f i).toPy = g i) : ∀ l : List Int, toPyL (l.map f) = l.map g
  | [] => rfl
  | a :: l => by show (f a).toPy :: toPyL (l.map f) = _; rw [h, toPyL_map f g h l]; rfl
theorem lay_ints : ∀ l : List Int, PyData.canLayAll0 (l.map PyData.int) = true
  | [] => by simp [PyData.canLayAll0]
  | a :: l => by simp [PyData.canLayAll0, PyData.canLay0, lay_ints l]
theorem depth_ints : ∀ l : List Int, PyData.depthAll (l.map PyData.int) ≤ 1
  | [] => by simp [PyData.depthAll]
  | a :: l => by
    have := depth_ints l
    simp only [List.map_cons, PyData.depthAll, PyData.depth]
    omega
theorem eqv_ints : ∀ a b : List Int, PyData.eqvAll (a.map PyData.int) (b.map PyData.int) = decide (a = b)
  | [], [] => by simp [PyData.eqvAll]
  | [], b :: bs => by simp [PyData.eqvAll]
  | a :: as, [] => by simp [PyData.eqvAll]
  | a :: as, b :: bs => by
    simp only [List.map_cons, PyData.eqvAll, PyData.eqv, eqv_ints as bs]
    by_cases h1 : a = b <;> by_cases h2 : as = bs <;> simp [h1, h2]
theorem shaped_tup (l : List Int) : SeqAt.shaped (D.tup (l.map D.int)).toPy = true := by
  show ((PyData.tuple (toPyL (l.map D.int))).canLay0 && decide ((PyData.tuple (toPyL (l.map D.int))).depth ≤ 64)) = true
  rw [toPyL_map D.int PyData.int (fun _ => rfl)]
  refine Bool.and_eq_true_iff.mpr ⟨by rw [PyData.canLay0]; exact lay_ints l, decide_eq_true ?_⟩
  have := depth_ints l
  rw [PyData.depth]
  omega
theorem vEq_tup (neg : Bool) (a b : List Int) : vEq neg (.tup (a.map D.int)) (.tup (b.map D.int)) = some (.bl (if neg then !decide (a = b) else decide (a = b))) := by
  unfold vEq
  rw [if_pos ⟨shaped_tup a, shaped_tup b⟩]
  have : PyData.eqv (D.tup (a.map D.int)).toPy (D.tup (b.map D.int)).toPy = decide (a = b) := by
    show PyData.eqv (.tuple (toPyL (a.map D.int))) (.tuple (toPyL (b.map D.int))) = _
    rw [toPyL_map D.int PyData.int (fun _ => rfl), toPyL_map D.int PyData.int (fun _ => rfl), PyData.eqv, eqv_ints]
  rw [this]
theorem rng7 : rng 0 7 = [.int 0, .int 1, .int 2, .int 3, .int 4, .int 5, .int 6] := by kernel_rfl
def rng1K : D → ENV → R (List D) := fun x ρ1 => match x with
  | .int j => if rngOk j = true then .ok (rng 0 j) ρ1 else .bot
  | _ => .bot
theorem e_Rng1 (da : ENV → R D) (ρ : ENV) : dRng1 da ρ = (da ρ).bind rng1K := rfl
theorem e_rng1K (j : Int) (ρ : ENV) (h : rngOk j = true) : rng1K (.int j) ρ = .ok (rng 0 j) ρ := by
  show (if rngOk j = true then R.ok (rng 0 j) ρ else .bot) = _
  rw [if_pos h]
theorem rngOk7 : rngOk 7 = true := by decide
theorem d_rng7 (ρ : ENV) : dRng1 (dC (.int 7)) ρ = .ok [.int 0, .int 1, .int 2, .int 3, .int 4, .int 5, .int 6] ρ := by
  show (if rngOk 7 = true then R.ok (rng 0 7) ρ else .bot) = _
  rw [if_pos rngOk7, rng7]
def turnK (k : ENV → R Fl) : Fl → ENV → R Fl
  | .nx, ρ => k ρ
  | .ct, ρ => k ρ
  | .bk, ρ => .ok .nx ρ
  | .ret v, ρ => .ok (.ret v) ρ
theorem forL_cons (g : D → ENV → Option ENV) (body : ENV → R Fl) (d : D) (ds : List D) (ρ ρ1 : ENV) (h : g d ρ = some ρ1) : forL g body (d :: ds) ρ = (body ρ1).bind (turnK (forL g body ds)) := by
  unfold forL
  rw [h]
  dsimp only
  cases body ρ1 with
  | ok f ρ => cases f <;> rfl
  | exc e ρ => rfl
  | bot => rfl
theorem e_forK (g : D → ENV → Option ENV) (body : ENV → R Fl) (ds : List D) (ρ : ENV) : forK g body ds ρ = forL g body ds ρ := rfl
theorem forL_set (i : Nat) (body : ENV → R Fl) (d : D) (ds : List D) (ρ : ENV) (h : i < ρ.length) : forL (gSet i) body (d :: ds) ρ = (body (ρ.set i (some (.sh d)))).bind (turnK (forL (gSet i) body ds)) :=
  forL_cons _ _ _ _ _ _ (e_gSet i d ρ h)
theorem e_tnN (k : ENV → R Fl) (ρ : ENV) : turnK k .nx ρ = k ρ := rfl
theorem e_tnC (k : ENV → R Fl) (ρ : ENV) : turnK k .ct ρ = k ρ := rfl
theorem e_tnB (k : ENV → R Fl) (ρ : ENV) : turnK k .bk ρ = .ok .nx ρ := rfl
theorem e_tnR (k : ENV → R Fl) (v : DV) (ρ : ENV) : turnK k (.ret v) ρ = .ok (.ret v) ρ := rfl
theorem e_frz (m : M) (ρ : ENV) : frz (.ok m ρ) = .ok m.toD ρ := rfl
def whK (c : ENV → R Bool) (body : ENV → R Fl) (n : Nat) : Bool → ENV → R Fl := fun b ρ1 => if b = true then (body ρ1).bind (turnK (whileF c body n)) else .ok .nx ρ1
theorem e_whT (c : ENV → R Bool) (body : ENV → R Fl) (n : Nat) (ρ : ENV) : whK c body n true ρ = (body ρ).bind (turnK (whileF c body n)) := rfl
theorem e_whF (c : ENV → R Bool) (body : ENV → R Fl) (n : Nat) (ρ : ENV) : whK c body n false ρ = .ok .nx ρ := rfl
end Rf
set_option Elab.async false
set_option linter.all false
set_option maxRecDepth 100000
namespace Rf
open PySem PySem.Spec L2
theorem e_Raise (e : EX) (ρ : ENV) : sRaise e ρ = .exc e ρ := rfl
def parK (i j : Nat) (db : ENV → R D) : D → ENV → R Fl := fun x ρ1 => (db ρ1).bind fun y ρ2 => if i < ρ2.length ∧ j < ρ2.length then .ok .nx ((ρ2.set i (some (.sh x))).set j (some (.sh y))) else .bot
def parK2 (i j : Nat) (x : D) : D → ENV → R Fl := fun y ρ2 => if i < ρ2.length ∧ j < ρ2.length then .ok .nx ((ρ2.set i (some (.sh x))).set j (some (.sh y))) else .bot
theorem e_Par (i j : Nat) (da db : ENV → R D) (ρ : ENV) : sPar i j da db ρ = (da ρ).bind (parK i j db) := rfl
theorem e_parK (i j : Nat) (db : ENV → R D) (x : D) (ρ : ENV) : parK i j db x ρ = (db ρ).bind (parK2 i j x) := rfl
theorem e_parK2 (i j : Nat) (x y : D) (ρ : ENV) (hi : i < ρ.length) (hj : j < ρ.length) : parK2 i j x y ρ = .ok .nx ((ρ.set i (some (.sh x))).set j (some (.sh y))) := by unfold parK2; rw [if_pos ⟨hi, hj⟩]
def augK (i : Nat) (f : Int → Int → Int) (a : Int) : D → ENV → R Fl := fun d ρ1 => match d with
    | .int b => if i < ρ1.length then .ok .nx (ρ1.set i (some (.sh (.int (f a b))))) else .bot
    | _ => .bot
theorem e_augK (i : Nat) (f : Int → Int → Int) (a b : Int) (ρ : ENV) (hi : i < ρ.length) : augK i f a (.int b) ρ = .ok .nx (ρ.set i (some (.sh (.int (f a b))))) := by unfold augK; exact if_pos hi
def chK1 (f g : D → D → Option D) (db dc : ENV → R D) : D → ENV → R D := fun x ρ1 => (db ρ1).bind fun y ρ2 => match f x y with
  | some (.bl true) => (dc ρ2).bind fun z ρ3 => R.of (g y z) ρ3
  | some (.bl false) => .ok (.bl false) ρ2
  | _ => .bot
def chK3 (g : D → D → Option D) (dc : ENV → R D) (y : D) : Option D → ENV → R D := fun o ρ2 => match o with
  | some (.bl true) => (dc ρ2).bind (op1 (g y))
  | some (.bl false) => .ok (.bl false) ρ2
  | _ => .bot
def chK2 (f g : D → D → Option D) (dc : ENV → R D) (x : D) : D → ENV → R D := fun y ρ2 => chK3 g dc y (f x y) ρ2
theorem e_Ch (f g : D → D → Option D) (da db dc : ENV → R D) (ρ : ENV) : dChain f g da db dc ρ = (da ρ).bind (chK1 f g db dc) := rfl
theorem e_chK1 (f g : D → D → Option D) (db dc : ENV → R D) (x : D) (ρ : ENV) : chK1 f g db dc x ρ = (db ρ).bind (chK2 f g dc x) := by
  unfold chK1
  refine congrArg (fun k => (db ρ).bind k) ?_
  funext y ρ2
  unfold chK2 chK3
  cases f x y with
  | none => rfl
  | some d => cases d with
    | bl b => cases b <;> rfl
    | _ => rfl
theorem e_chK2 (f g : D → D → Option D) (dc : ENV → R D) (x y : D) (ρ : ENV) : chK2 f g dc x y ρ = chK3 g dc y (f x y) ρ := rfl
theorem e_chT (g : D → D → Option D) (dc : ENV → R D) (y : D) (ρ : ENV) : chK3 g dc y (some (.bl true)) ρ = (dc ρ).bind (op1 (g y)) := rfl
theorem e_chF (g : D → D → Option D) (dc : ENV → R D) (y : D) (ρ : ENV) : chK3 g dc y (some (.bl false)) ρ = .ok (.bl false) ρ := rfl
def tryK (sub : Nat → Nat → Option Bool) (c : Nat) (ss : ENV → R Fl) : R Fl → R Fl
  | .exc e ρ1 => match sub e.c c with
    | some true => match ss ρ1 with
      | .exc _ _ => .bot
      | r => r
    | some false => .exc e ρ1
    | none => .bot
  | r => r
theorem e_Try (sub : Nat → Nat → Option Bool) (sb : ENV → R Fl) (c : Nat) (ss : ENV → R Fl) (ρ : ENV) : sTry sub sb c ss ρ = tryK sub c ss (sb ρ) := by
  unfold sTry tryK
  cases sb ρ <;> rfl
theorem e_tryO (sub : Nat → Nat → Option Bool) (c : Nat) (ss : ENV → R Fl) (f : Fl) (ρ : ENV) : tryK sub c ss (.ok f ρ) = .ok f ρ := rfl
theorem e_tryX (sub : Nat → Nat → Option Bool) (c : Nat) (ss : ENV → R Fl) (e : EX) (ρ ρ' : ENV) (f : Fl) (h : sub e.c c = some true) (h2 : ss ρ = .ok f ρ') : tryK sub c ss (.exc e ρ) = .ok f ρ' := by
  show (match sub e.c c with
    | some true => match ss ρ with
      | .exc _ _ => R.bot
      | r => r
    | some false => .exc e ρ
    | none => .bot) = _
  rw [h]
  dsimp only
  rw [h2]
theorem e_tru (b : Bool) : tru (.bl b) = some b := rfl
theorem line8 : (8 : Nat) ≤ sizeLine := by rw [sizeLine_eq]; decide
theorem e_tup1 (a : D) (ρ : ENV) : tupK [a] ρ = .ok (.tup [a]) ρ := e_tupK _ ρ (Nat.le_trans (show 1 ≤ 8 by decide) line8)
theorem e_lst1 (a : D) (ρ : ENV) : lstK [a] ρ = .ok (.lst [a]) ρ := e_lstK _ ρ (Nat.le_trans (show 1 ≤ 8 by decide) line8)
theorem e_tup2 (a b : D) (ρ : ENV) : tupK [a, b] ρ = .ok (.tup [a, b]) ρ := e_tupK _ ρ (Nat.le_trans (show 2 ≤ 8 by decide) line8)
theorem e_lst2 (a b : D) (ρ : ENV) : lstK [a, b] ρ = .ok (.lst [a, b]) ρ := e_lstK _ ρ (Nat.le_trans (show 2 ≤ 8 by decide) line8)
theorem e_tup3 (a b c : D) (ρ : ENV) : tupK [a, b, c] ρ = .ok (.tup [a, b, c]) ρ := e_tupK _ ρ (Nat.le_trans (show 3 ≤ 8 by decide) line8)
theorem e_lst3 (a b c : D) (ρ : ENV) : lstK [a, b, c] ρ = .ok (.lst [a, b, c]) ρ := e_lstK _ ρ (Nat.le_trans (show 3 ≤ 8 by decide) line8)
theorem e_tup4 (a b c d : D) (ρ : ENV) : tupK [a, b, c, d] ρ = .ok (.tup [a, b, c, d]) ρ := e_tupK _ ρ (Nat.le_trans (show 4 ≤ 8 by decide) line8)
theorem e_lst4 (a b c d : D) (ρ : ENV) : lstK [a, b, c, d] ρ = .ok (.lst [a, b, c, d]) ρ := e_lstK _ ρ (Nat.le_trans (show 4 ≤ 8 by decide) line8)
theorem e_tup5 (a b c d e : D) (ρ : ENV) : tupK [a, b, c, d, e] ρ = .ok (.tup [a, b, c, d, e]) ρ := e_tupK _ ρ (Nat.le_trans (show 5 ≤ 8 by decide) line8)
theorem e_lst5 (a b c d e : D) (ρ : ENV) : lstK [a, b, c, d, e] ρ = .ok (.lst [a, b, c, d, e]) ρ := e_lstK _ ρ (Nat.le_trans (show 5 ≤ 8 by decide) line8)
theorem e_tup6 (a b c d e f : D) (ρ : ENV) : tupK [a, b, c, d, e, f] ρ = .ok (.tup [a, b, c, d, e, f]) ρ := e_tupK _ ρ (Nat.le_trans (show 6 ≤ 8 by decide) line8)
theorem e_lst6 (a b c d e f : D) (ρ : ENV) : lstK [a, b, c, d, e, f] ρ = .ok (.lst [a, b, c, d, e, f]) ρ := e_lstK _ ρ (Nat.le_trans (show 6 ≤ 8 by decide) line8)
theorem e_tup7 (a b c d e f g : D) (ρ : ENV) : tupK [a, b, c, d, e, f, g] ρ = .ok (.tup [a, b, c, d, e, f, g]) ρ := e_tupK _ ρ (Nat.le_trans (show 7 ≤ 8 by decide) line8)
theorem e_lst7 (a b c d e f g : D) (ρ : ENV) : lstK [a, b, c, d, e, f, g] ρ = .ok (.lst [a, b, c, d, e, f, g]) ρ := e_lstK _ ρ (Nat.le_trans (show 7 ≤ 8 by decide) line8)
theorem e_tup8 (a b c d e f g h : D) (ρ : ENV) : tupK [a, b, c, d, e, f, g, h] ρ = .ok (.tup [a, b, c, d, e, f, g, h]) ρ := e_tupK _ ρ (Nat.le_trans (show 8 ≤ 8 by decide) line8)
theorem e_lst8 (a b c d e f g h : D) (ρ : ENV) : lstK [a, b, c, d, e, f, g, h] ρ = .ok (.lst [a, b, c, d, e, f, g, h]) ρ := e_lstK _ ρ (Nat.le_trans (show 8 ≤ 8 by decide) line8)
theorem e_While (n : ENV → Nat) (c : ENV → R Bool) (body : ENV → R Fl) (ρ : ENV) : sWhile n c body ρ = whileF c body (n ρ) ρ := rfl
theorem e_abs (i : Int) : fAbs [.int i] = some (.int (if i < 0 then -i else i)) := rfl
theorem e_max2 (i j : Int) : fMax [.int i, .int j] = some (.int (if j > i then j else i)) := rfl
theorem e_min2 (i j : Int) : fMin [.int i, .int j] = some (.int (if j < i then j else i)) := rfl
theorem e_gSq2 (i j : Nat) (a b : D) (ρ : ENV) (hi : i < ρ.length) (hj : j < ρ.length) : gSeq 2 (gsCons (gSet i) (gsCons (gSet j) gsNil)) (.tup [a, b]) ρ = some ((ρ.set i (some (.sh a))).set j (some (.sh b))) := by
  show (gSet i a ρ).bind (fun ρ1 => (gSet j b ρ1).bind fun ρ2 => some ρ2) = _
  rw [e_gSet i a ρ hi]
  show (gSet j b _).bind _ = _
  rw [e_gSet j b _ (by rw [List.length_set]; exact hj)]
  rfl
def tupI (l : List Int) : D := .tup (l.map D.int)
theorem t_fld (l : List Int) : D.tup (l.map D.int) = tupI l := rfl
theorem t_eq (a b : List Int) : CK.f .eq (tupI a) (tupI b) = some (.bl (decide (a = b))) := vEq_tup false a b
theorem t_ne (a b : List Int) : CK.f .ne (tupI a) (tupI b) = some (.bl (!decide (a = b))) := vEq_tup true a b
theorem t_len (l : List Int) : fLen [tupI l] = some (.int l.length) := by unfold tupI; rw [e_lenT, List.length_map]
theorem t_is (l : List Int) : (isTy "tuple" (tupI l)) = some true := rfl
theorem t_itm (l : List Int) (ρ : ENV) : itK (tupI l) ρ = .ok (l.map D.int) ρ := rfl
theorem t_of (l : List Int) : fTuple [.lst (l.map D.int)] = some (tupI l) := rfl
theorem t_of2 (l : List Int) : fTuple [.tup (l.map D.int)] = some (tupI l) := rfl
theorem t_lst (l : List Int) : fList [tupI l] = some (.lst (l.map D.int)) := rfl
end Rf
set_option Elab.async false
set_option linter.all false
set_option maxRecDepth 100000
namespace Rf
open PySem PySem.Spec L2
theorem seq_ok {a b : ENV → R Fl} {ρ ρ1 : ENV} (h : a ρ = .ok .nx ρ1) : sSeq a b ρ = b ρ1 := by unfold sSeq; rw [h]
theorem seq_ret {a b : ENV → R Fl} {ρ ρ1 : ENV} {v : DV} (h : a ρ = .ok (.ret v) ρ1) : sSeq a b ρ = .ok (.ret v) ρ1 := by unfold sSeq; rw [h]
def raFK (c : Nat) (fs : List Str) : List D → ENV → R Fl := fun ds ρ1 => if ds.length = fs.length ∧ ds.length ≤ 1000 then .exc ⟨c, (fs.zip ds).reverse⟩ ρ1 else .bot
theorem e_RaF (c : Nat) (fs : List Str) (dr : ENV → R (List D)) (ρ : ENV) : sRaiseF c fs dr ρ = (dr ρ).bind (raFK c fs) := rfl
theorem e_raF1 (c : Nat) (f : Str) (d : D) (ρ : ENV) : raFK c [f] [d] ρ = .exc ⟨c, [(f, d)]⟩ ρ := rfl
theorem e_raF2 (c : Nat) (f g : Str) (d e : D) (ρ : ENV) : raFK c [f, g] [d, e] ρ = .exc ⟨c, [(g, e), (f, d)]⟩ ρ := rfl
def tryAK (sub : Nat → Nat → Option Bool) (c i : Nat) (ss : EX → ENV → R Fl) : R Fl → R Fl
  | .exc e ρ1 => match sub e.c c with
    | some true => if i < ρ1.length then match ss e (ρ1.set i none) with
      | .ok f ρ2 => .ok f (ρ2.set i none)
      | _ => .bot else .bot
    | some false => .exc e ρ1
    | none => .bot
  | r => r
def asgnK (i : Nat) : R Fl → R Fl
  | .ok f ρ2 => .ok f (ρ2.set i none)
  | _ => .bot
theorem e_TryA (sub : Nat → Nat → Option Bool) (sb : ENV → R Fl) (c i : Nat) (ss : EX → ENV → R Fl) (ρ : ENV) : sTryAs sub sb c i ss ρ = tryAK sub c i ss (sb ρ) := by
  unfold sTryAs tryAK
  cases sb ρ <;> rfl
theorem e_tryAO (sub : Nat → Nat → Option Bool) (c i : Nat) (ss : EX → ENV → R Fl) (f : Fl) (ρ : ENV) : tryAK sub c i ss (.ok f ρ) = .ok f ρ := rfl
theorem e_tryAX (sub : Nat → Nat → Option Bool) (c i : Nat) (ss : EX → ENV → R Fl) (e : EX) (ρ : ENV) (h : sub e.c c = some true) (hi : i < ρ.length) : tryAK sub c i ss (.exc e ρ) = asgnK i (ss e (ρ.set i none)) := by
  unfold tryAK
  dsimp only
  rw [h]
  dsimp only
  rw [if_pos hi]
  cases ss e (ρ.set i none) <;> rfl
theorem e_asgnK (i : Nat) (f : Fl) (ρ : ENV) : asgnK i (.ok f ρ) = .ok f (ρ.set i none) := rfl
theorem e_frzX (e : EX) (ρ : ENV) : frz (.exc e ρ) = .exc e ρ := rfl
theorem e_Fld (ok : Nat → Bool) (f : Str) (da : ENV → R D) (ρ : ENV) : dFld ok f da ρ = (da ρ).bind (op1 (vFld ok f)) := rfl
def fldK (ok : Nat → Bool) (f : Str) (i : Nat) : D → ENV → R Fl := fun d ρ1 => match ρ1[i]? with
  | some (some (.ow (.ins c fs))) => if ok c = true ∧ fs.length < 1000 then .ok .nx (ρ1.set i (some (.ow (.ins c (putD f d fs))))) else .bot
  | _ => .bot
theorem e_SFld (ok : Nat → Bool) (f : Str) (i : Nat) (da : ENV → R D) (ρ : ENV) : sFld ok f i da ρ = (da ρ).bind (fldK ok f i) := rfl
def mkK (c n : Nat) (F : List DV → FO) : List D → ENV → R M := fun ds ρ1 => if ds.length + 1 = n then mkR ρ1 (F (.ow (.ins c []) :: ds.map DV.sh)) else .bot
theorem e_Mk (c n : Nat) (F : List DV → FO) (da : ENV → R (List D)) (ρ : ENV) : fMake c n F da ρ = (da ρ).bind (mkK c n F) := rfl
theorem e_mkK1 (c : Nat) (F : List DV → FO) (x : D) (ρ : ENV) : mkK c 2 F [x] ρ = mkR ρ (F [.ow (.ins c []), .sh x]) := rfl
theorem e_mkK2 (c : Nat) (F : List DV → FO) (x y : D) (ρ : ENV) : mkK c 3 F [x, y] ρ = mkR ρ (F [.ow (.ins c []), .sh x, .sh y]) := rfl
theorem e_mkK3 (c : Nat) (F : List DV → FO) (x y z : D) (ρ : ENV) : mkK c 4 F [x, y, z] ρ = mkR ρ (F [.ow (.ins c []), .sh x, .sh y, .sh z]) := rfl
theorem e_mkK4 (c : Nat) (F : List DV → FO) (x y z u : D) (ρ : ENV) : mkK c 5 F [x, y, z, u] ρ = mkR ρ (F [.ow (.ins c []), .sh x, .sh y, .sh z, .sh u]) := rfl
theorem e_mkO (m : M) (ρ : ENV) : mkR ρ (.ok (.sh .non) [m]) = .ok m ρ := rfl
theorem e_mkX (e : EX) (ms : List M) (ρ : ENV) : mkR ρ (.exc e ms) = .exc e ρ := rfl
def metK2 (F : List DV → FO) (x : D) : List Ag → ENV → R DV := fun as ρ2 => stepR F (.inl x :: as) ρ2
theorem e_Met (tab : Nat → Option (List DV → FO)) (m : Str) (da : ENV → R D) (dr : ENV → R (List Ag)) (ρ : ENV) : dMet tab m da dr ρ = (da ρ).bind (metK tab m dr) := rfl
theorem e_metK2 (F : List DV → FO) (x : D) (as : List Ag) (ρ : ENV) : metK2 F x as ρ = stepR F (.inl x :: as) ρ := rfl
theorem e_Enum (da : ENV → R D) (ρ : ENV) : dEnumT da ρ = (da ρ).bind enumKT := rfl
theorem e_enumL (ds : List D) (ρ : ENV) : enumKT (.lst ds) ρ = .ok (pairs ds) ρ := rfl
theorem e_enumT (ds : List D) (ρ : ENV) : enumKT (.tup ds) ρ = .ok (pairs ds) ρ := rfl
theorem forL_gS2 (i j : Nat) (a b : D) (ds : List D) (body : ENV → R Fl) (ρ : ENV) (hi : i < ρ.length) (hj : j < ρ.length) : forL (gSeq 2 (gsCons (gSet i) (gsCons (gSet j) gsNil))) body (.tup [a, b] :: ds) ρ
    = (body ((ρ.set i (some (.sh a))).set j (some (.sh b)))).bind (turnK (forL (gSeq 2 (gsCons (gSet i) (gsCons (gSet j) gsNil))) body ds)) := forL_cons _ _ _ _ _ _ (e_gSq2 i j a b ρ hi hj)
theorem pairs2 (a b : D) : pairs [a, b] = [.tup [.int 0, a], .tup [.int 1, b]] := by kernel_rfl
theorem pairs3 (a b c : D) : pairs [a, b, c] = [.tup [.int 0, a], .tup [.int 1, b], .tup [.int 2, c]] := by kernel_rfl
theorem pairs4 (a b c d : D) : pairs [a, b, c, d] = [.tup [.int 0, a], .tup [.int 1, b], .tup [.int 2, c], .tup [.int 3, d]] := by kernel_rfl
theorem e_IfB (t a b : ENV → R Bool) (ρ : ENV) : dIfB t a b ρ = (t ρ).bind (ifBK a b) := rfl
theorem e_ifBT (a b : ENV → R Bool) (ρ : ENV) : ifBK a b true ρ = a ρ := rfl
theorem e_ifBF (a b : ENV → R Bool) (ρ : ENV) : ifBK a b false ρ = b ρ := rfl
theorem e_notB (a b : Bool) : CK.f .notB (.bl a) (.bl b) = some (.bl (!decide (a = b))) := rfl
theorem e_isB (a b : Bool) : CK.f .isB (.bl a) (.bl b) = some (.bl (decide (a = b))) := rfl
section
variable {tab : Nat → Option (List DV → FO)} {ok : Nat → Bool}
theorem o_int (i : Int) (y : D) : vEqO tab ok (.int i) y = vEq false (.int i) y := rfl
theorem o_str (i : Str) (y : D) : vEqO tab ok (.str i) y = vEqS false (.str i) y := rfl
theorem o_tup (i : List D) (y : D) : vEqO tab ok (.tup i) y = vEq false (.tup i) y := rfl
theorem o_lst (i : List D) (y : D) : vEqO tab ok (.lst i) y = vEq false (.lst i) y := rfl
theorem o_non (y : D) : vEqO tab ok .non y = vEq false .non y := rfl
theorem o_bl (i : Bool) (y : D) : vEqO tab ok (.bl i) y = vEq false (.bl i) y := rfl
theorem n_int (i : Int) (y : D) : vNeO tab ok (.int i) y = vEq true (.int i) y := rfl
theorem n_str (i : Str) (y : D) : vNeO tab ok (.str i) y = vEqS true (.str i) y := rfl
theorem n_tup (i : List D) (y : D) : vNeO tab ok (.tup i) y = vEq true (.tup i) y := rfl
theorem n_lst (i : List D) (y : D) : vNeO tab ok (.lst i) y = vEq true (.lst i) y := rfl
theorem n_non (y : D) : vNeO tab ok .non y = vEq true .non y := rfl
theorem n_bl (i : Bool) (y : D) : vNeO tab ok (.bl i) y = vEq true (.bl i) y := rfl
end
theorem e_lst9 (a0 a1 a2 a3 a4 a5 a6 a7 a8 : D) (ρ : ENV) : lstK [a0, a1, a2, a3, a4, a5, a6, a7, a8] ρ = .ok (.lst [a0, a1, a2, a3, a4, a5, a6, a7, a8]) ρ := e_lstK _ ρ (by rw [sizeLine_eq]; show 9 ≤ _; decide)
theorem e_tup9 (a0 a1 a2 a3 a4 a5 a6 a7 a8 : D) (ρ : ENV) : tupK [a0, a1, a2, a3, a4, a5, a6, a7, a8] ρ = .ok (.tup [a0, a1, a2, a3, a4, a5, a6, a7, a8]) ρ := e_tupK _ ρ (by rw [sizeLine_eq]; show 9 ≤ _; decide)
theorem e_lst10 (a0 a1 a2 a3 a4 a5 a6 a7 a8 a9 : D) (ρ : ENV) : lstK [a0, a1, a2, a3, a4, a5, a6, a7, a8, a9] ρ = .ok (.lst [a0, a1, a2, a3, a4, a5, a6, a7, a8, a9]) ρ := e_lstK _ ρ (by rw [sizeLine_eq]; show 10 ≤ _; decide)
theorem e_tup10 (a0 a1 a2 a3 a4 a5 a6 a7 a8 a9 : D) (ρ : ENV) : tupK [a0, a1, a2, a3, a4, a5, a6, a7, a8, a9] ρ = .ok (.tup [a0, a1, a2, a3, a4, a5, a6, a7, a8, a9]) ρ := e_tupK _ ρ (by rw [sizeLine_eq]; show 10 ≤ _; decide)
theorem e_lst11 (a0 a1 a2 a3 a4 a5 a6 a7 a8 a9 a10 : D) (ρ : ENV) : lstK [a0, a1, a2, a3, a4, a5, a6, a7, a8, a9, a10] ρ = .ok (.lst [a0, a1, a2, a3, a4, a5, a6, a7, a8, a9, a10]) ρ := e_lstK _ ρ (by rw [sizeLine_eq]; show 11 ≤ _; decide)
theorem e_tup11 (a0 a1 a2 a3 a4 a5 a6 a7 a8 a9 a10 : D) (ρ : ENV) : tupK [a0, a1, a2, a3, a4, a5, a6, a7, a8, a9, a10] ρ = .ok (.tup [a0, a1, a2, a3, a4, a5, a6, a7, a8, a9, a10]) ρ := e_tupK _ ρ (by rw [sizeLine_eq]; show 11 ≤ _; decide)
theorem e_lst12 (a0 a1 a2 a3 a4 a5 a6 a7 a8 a9 a10 a11 : D) (ρ : ENV) : lstK [a0, a1, a2, a3, a4, a5, a6, a7, a8, a9, a10, a11] ρ = .ok (.lst [a0, a1, a2, a3, a4, a5, a6, a7, a8, a9, a10, a11]) ρ := e_lstK _ ρ (by rw [sizeLine_eq]; show 12 ≤ _; decide)
theorem e_tup12 (a0 a1 a2 a3 a4 a5 a6 a7 a8 a9 a10 a11 : D) (ρ : ENV) : tupK [a0, a1, a2, a3, a4, a5, a6, a7, a8, a9, a10, a11] ρ = .ok (.tup [a0, a1, a2, a3, a4, a5, a6, a7, a8, a9, a10, a11]) ρ := e_tupK _ ρ (by rw [sizeLine_eq]; show 12 ≤ _; decide)
theorem e_lst13 (a0 a1 a2 a3 a4 a5 a6 a7 a8 a9 a10 a11 a12 : D) (ρ : ENV) : lstK [a0, a1, a2, a3, a4, a5, a6, a7, a8, a9, a10, a11, a12] ρ = .ok (.lst [a0, a1, a2, a3, a4, a5, a6, a7, a8, a9, a10, a11, a12]) ρ := e_lstK _ ρ (by rw [sizeLine_eq]; show 13 ≤ _; decide)
theorem e_lst14 (a0 a1 a2 a3 a4 a5 a6 a7 a8 a9 a10 a11 a12 a13 : D) (ρ : ENV) : lstK [a0, a1, a2, a3, a4, a5, a6, a7, a8, a9, a10, a11, a12, a13] ρ = .ok (.lst [a0, a1, a2, a3, a4, a5, a6, a7, a8, a9, a10, a11, a12, a13]) ρ := e_lstK _ ρ (by rw [sizeLine_eq]; show 14 ≤ _; decide)
theorem e_lst15 (a0 a1 a2 a3 a4 a5 a6 a7 a8 a9 a10 a11 a12 a13 a14 : D) (ρ : ENV) : lstK [a0, a1, a2, a3, a4, a5, a6, a7, a8, a9, a10, a11, a12, a13, a14] ρ = .ok (.lst [a0, a1, a2, a3, a4, a5, a6, a7, a8, a9, a10, a11, a12, a13, a14]) ρ := e_lstK _ ρ (by rw [sizeLine_eq]; show 15 ≤ _; decide)
theorem e_lst16 (a0 a1 a2 a3 a4 a5 a6 a7 a8 a9 a10 a11 a12 a13 a14 a15 : D) (ρ : ENV) : lstK [a0, a1, a2, a3, a4, a5, a6, a7, a8, a9, a10, a11, a12, a13, a14, a15] ρ = .ok (.lst [a0, a1, a2, a3, a4, a5, a6, a7, a8, a9, a10, a11, a12, a13, a14, a15]) ρ := e_lstK _ ρ (by rw [sizeLine_eq]; show 16 ≤ _; decide)
theorem for_run {g : D → ENV → Option ENV} {body : ENV → R Fl} (P : Nat → ENV → Prop) : ∀ (ds : List D) (k : Nat) (ρ : ENV), (∀ i d, ds[i]? = some d → ∀ ρ, P (k + i) ρ → ∃ ρ1 ρ2, g d ρ = some ρ1 ∧ (body ρ1 = .ok .nx ρ2 ∨ body ρ1 = .ok .ct ρ2) ∧ P (k + i + 1) ρ2) → P k ρ →
    ∃ ρ', forL g body ds ρ = .ok .nx ρ' ∧ P (k + ds.length) ρ'
  | [], k, ρ, _, h => ⟨ρ, rfl, h⟩
  | d :: ds, k, ρ, hb, h => by
    obtain ⟨ρ1, ρ2, e1, e2, h2⟩ := hb 0 d rfl ρ h
    obtain ⟨ρ', e3, h3⟩ := for_run P ds (k + 1) ρ2 (fun i d hd ρ hp => by
      have e : k + 1 + i = k + (i + 1) := by omega
      rw [e] at hp ⊢
      exact hb (i + 1) d (by simpa using hd) ρ hp) h2
    refine ⟨ρ', ?_, by rw [List.length_cons, show k + (ds.length + 1) = k + 1 + ds.length by omega]; exact h3⟩
    rw [forL_cons _ _ _ _ _ _ e1]
    rcases e2 with e2 | e2 <;> rw [e2] <;> exact e3
def listFK : D → ENV → R M := fun x ρ1 => match x with
  | .lst ds => .ok (.lst ds) ρ1
  | .scr ds => .ok (.lst ds) ρ1
  | .tup ds => .ok (.lst ds) ρ1
  | _ => .bot
theorem e_ListF (da : ENV → R D) (ρ : ENV) : fListF da ρ = (da ρ).bind listFK := rfl
theorem e_listFT (ds : List D) (ρ : ENV) : listFK (.tup ds) ρ = .ok (.lst ds) ρ := rfl
theorem e_listFL (ds : List D) (ρ : ENV) : listFK (.lst ds) ρ = .ok (.lst ds) ρ := rfl
theorem shaped_str {x : Str} (h : PyData.strOk x = true) : SeqAt.shaped (D.str x).toPy = true := by simp [SeqAt.shaped, D.toPy, PyData.canLay0, PyData.depth, h]
theorem e_GetK (tab : List (Str × D)) (da : ENV → R D) (ρ : ENV) : dGetK tab da ρ = (da ρ).bind (getK tab) := rfl
theorem e_getK (tab : List (Str × D)) (k : Str) (ρ : ENV) : getK tab (.str k) ρ = .ok ((lkS k tab).getD .non) ρ := rfl
theorem lenT1 (a : D) : fLen [.tup [a]] = some (.int 1) := rfl
theorem lenT2 (a b : D) : fLen [.tup [a, b]] = some (.int 2) := rfl
def SD (ws : List Str) : List D := ws.map D.str
theorem lay_strs : ∀ ws : List Str, (∀ n ∈ ws, PyData.strOk n = true) → PyData.canLayAll0 (toPyL (SD ws)) = true
  | [], _ => rfl
  | a :: r, h => by
    simp only [SD, List.map_cons, toPyL, D.toPy, PyData.canLayAll0, PyData.canLay0, h a List.mem_cons_self, Bool.true_and]
    exact lay_strs r fun n hn => h n (List.mem_cons_of_mem _ hn)
theorem any_strs (x : Str) : ∀ ws : List Str, ((toPyL (SD ws)).any fun z => PyData.eqv z (D.str x).toPy) = decide (x ∈ ws)
  | [] => rfl
  | a :: r => by
    have ih := any_strs x r
    simp only [SD, List.map_cons, toPyL, D.toPy, List.any_cons, PyData.eqv] at ih ⊢
    rw [ih]
    by_cases h : a = x
    · subst h; simp
    · have h' : ¬ x = a := fun z => h z.symm
      simp [h, h']
theorem in_tupS (neg : Bool) {x : Str} {ws : List Str} (hx : PyData.strOk x = true) (h : ws.all PyData.strOk = true) : vIn neg (.str x) (.tup (SD ws)) = some (.bl (if neg then !decide (x ∈ ws) else decide (x ∈ ws))) := by
  unfold vIn
  dsimp only
  rw [if_pos ⟨shaped_str hx, lay_strs ws (List.all_eq_true.mp h)⟩, any_strs x ws]
theorem e_eqS (a b : Str) : CK.f .eq (.str a) (.str b) = some (.bl (decide (a = b))) := rfl
theorem e_neS (a b : Str) : CK.f .ne (.str a) (.str b) = some (.bl (!decide (a = b))) := rfl
theorem e_addS (a b : Str) (h : a.length + b.length ≤ sizeLine) : vAdd (.str a) (.str b) = some (.str (a ++ b)) := if_pos h
theorem e_ixS (z : Str) (i : Int) : vIxI (.str z) (.int i) = (L2.atI z.cps.toList i).map fun c => .str ⟨#[c]⟩ := rfl
theorem bools_f {α : Type} (f : α → Bool) : ∀ l : List α, bools (l.map fun i => D.bl (f i)) = some (l.map f)
  | [] => rfl
  | a :: l => by show (bools (l.map fun i => D.bl (f i))).map (f a :: ·) = _; rw [bools_f f l]; rfl
theorem all_f {α : Type} (f : α → Bool) (l : List α) : fAll [.lst (l.map fun i => D.bl (f i))] = some (.bl (l.all f)) := by
  show (bools _).map _ = _
  rw [bools_f]
  show some (D.bl ((l.map f).all id)) = _
  rw [List.all_map]
  rfl
theorem lc_text {ρ : ENV} {i : Nat} {te : ENV → R D} {di : ENV → R (List D)} {z : Str} (f : Nat → D) (hd : di ρ = .ok (signs z) ρ) (hi : ρ[i]? = some none) (h : ∀ n, te (ρ.set i (some (.sh (.str ⟨#[n]⟩)))) = .ok (f n) (ρ.set i (some (.sh (.str ⟨#[n]⟩))))) (hz : z.length ≤ sizeLine) :
    fLc di (gSet i) dYes te [i] ρ = .ok (.lst (z.cps.toList.map f)) ρ := by
  have := lc_map (te := te) (fun d => match d with | .str x => f (x.cps.toList.headD 0) | d => d) hd hi (fun d hd => by
    obtain ⟨n, hn, rfl⟩ := List.mem_map.mp hd
    exact h n) (by unfold signs; rw [List.length_map, Array.length_toList]; exact hz)
  rw [this]
  unfold signs
  rw [List.map_map]
  rfl
end Rf
set_option Elab.async false
set_option linter.all false
set_option maxRecDepth 100000
namespace Rf
open PySem PySem.Spec L2
def sl3 (x : D) (l : Option Int) : Option Int → ENV → R D := fun h ρ => R.of (vSl x l h) ρ
def sl2 (dh : ENV → R (Option Int)) (x : D) : Option Int → ENV → R D := fun l ρ => (dh ρ).bind (sl3 x l)
def sl1 (dl dh : ENV → R (Option Int)) : D → ENV → R D := fun x ρ => (dl ρ).bind (sl2 dh x)
theorem e_Sl (da : ENV → R D) (dl dh : ENV → R (Option Int)) (ρ : ENV) : dSl da dl dh ρ = (da ρ).bind (sl1 dl dh) := rfl
theorem e_sl1 (dl dh : ENV → R (Option Int)) (x : D) (ρ : ENV) : sl1 dl dh x ρ = (dl ρ).bind (sl2 dh x) := rfl
theorem e_sl2 (dh : ENV → R (Option Int)) (x : D) (l : Option Int) (ρ : ENV) : sl2 dh x l ρ = (dh ρ).bind (sl3 x l) := rfl
theorem e_sl3 (x : D) (l h : Option Int) (ρ : ENV) : sl3 x l h ρ = R.of (vSl x l h) ρ := rfl
theorem e_NoPart (ρ : ENV) : dNoPart ρ = .ok none ρ := rfl
def prt : D → ENV → R (Option Int) := fun x ρ => match x with
  | .int i => .ok (some i) ρ
  | _ => .bot
theorem e_Part (da : ENV → R D) (ρ : ENV) : dPart da ρ = (da ρ).bind prt := rfl
theorem e_prt (i : Int) (ρ : ENV) : prt (.int i) ρ = .ok (some i) ρ := rfl
theorem step4 (F : List DV → FO) (a b c d : D) (ρ : ENV) : stepR F [.inl a, .inl b, .inl c, .inl d] ρ = outK [.inl a, .inl b, .inl c, .inl d] ρ (F [.sh a, .sh b, .sh c, .sh d]) := by show (match F [.sh a, .sh b, .sh c, .sh d] with | .ok v ms => _ | .exc e ms => _ | .bot => _) = _; cases F [.sh a, .sh b, .sh c, .sh d] <;> rfl
theorem out4 (a b c d : D) (ρ : ENV) (v : DV) : outK [.inl a, .inl b, .inl c, .inl d] ρ (.ok v []) = .ok v ρ := rfl
end Rf
set_option Elab.async false
set_option linter.all false
set_option maxRecDepth 100000
set_option maxHeartbeats 1000000
namespace Rf
open PySem L2
end Rf
set_option Elab.async false
set_option linter.all false
set_option maxRecDepth 100000
namespace Sv
open PySem L2 Rf
def evens (k : Int) : List Int := [k, k, k, k, k, k, k]
def sawAt (w m r : Int) : Int := m + ((w - (r + m) - 1) % 7 + 1)
def saws (w m : Int) : List Int := [sawAt w m 0, sawAt w m 1, sawAt w m 2, sawAt w m 3, sawAt w m 4, sawAt w m 5, sawAt w m 6]
def evenD (k : Int) : D := .tup [.str "even", .int k]
def sawD (w m : Int) : D := .tup [.str "saw", .int w, .int m]
def R7 : List Int := [0, 1, 2, 3, 4, 5, 6]
def at7 (l : List Int) (r : Int) : Int := l.getD r.toNat 0
theorem mem7 {r : Int} (h : r ∈ R7) : 0 ≤ r ∧ r ≤ 6 := by
  simp only [R7, List.mem_cons, List.not_mem_nil, or_false] at h
  omega
theorem at7_ok {l : List Int} (hl : l.length = 7) {r : Int} (h : r ∈ R7) : L2.atI l r = some (at7 l r) := by
  have := mem7 h
  refine atN this.1 ?_
  unfold at7
  rw [List.getD_eq_getElem?_getD, List.getElem?_eq_getElem (by omega)]
  rfl
theorem at7_evens (k : Int) {r : Int} (h : r ∈ R7) : at7 (evens k) r = k := by
  simp only [R7, List.mem_cons, List.not_mem_nil, or_false] at h
  rcases h with rfl | rfl | rfl | rfl | rfl | rfl | rfl <;> rfl
theorem at7_saws (w m : Int) {r : Int} (h : r ∈ R7) : at7 (saws w m) r = sawAt w m r := by
  simp only [R7, List.mem_cons, List.not_mem_nil, or_false] at h
  rcases h with rfl | rfl | rfl | rfl | rfl | rfl | rfl <;> rfl
theorem map7 {l : List Int} (hl : l.length = 7) : R7.map (at7 l) = l := by
  match l, hl with
  | [a, b, c, d, e, f, g], _ => rfl
inductive Sh
  | ev (k : Int)
  | sw (w m : Int)
def Sh.lst : Sh → List Int
  | .ev k => evens k
  | .sw w m => saws w m
def Sh.d : Sh → D
  | .ev k => evenD k
  | .sw w m => sawD w m
def Sh.at : Sh → Int → Int
  | .ev k, _ => k
  | .sw w m, r => sawAt w m r
def Sh.fit (B : Int) : Sh → Prop
  | .ev k => -B ≤ k ∧ k ≤ B
  | .sw w m => 0 ≤ w ∧ w ≤ 6 ∧ -B ≤ m ∧ m ≤ B
theorem Sh.len (s : Sh) : s.lst.length = 7 := by cases s <;> rfl
theorem Sh.at_eq (s : Sh) {r : Int} (h : r ∈ R7) : at7 s.lst r = s.at r := by
  cases s with
  | ev k => exact at7_evens k h
  | sw w m => exact at7_saws w m h
theorem Sh.atI (s : Sh) {r : Int} (h : r ∈ R7) : L2.atI s.lst r = some (s.at r) := by rw [← s.at_eq h]; exact at7_ok s.len h
theorem Sh.mono {B C : Int} {s : Sh} (h : s.fit B) (hb : B ≤ C) : s.fit C := by
  cases s with
  | ev k => obtain ⟨a, b⟩ := h; exact ⟨by omega, by omega⟩
  | sw w m => obtain ⟨a, b, c, d⟩ := h; exact ⟨a, b, by omega, by omega⟩
theorem Sh.map (s : Sh) : R7.map s.at = s.lst := by
  rw [← map7 s.len]
  exact (List.map_congr_left fun r h => (s.at_eq h).symm)
inductive Hop
  | pl (k : Int)
  | co (w : Int)
  | la (w : Int)
def Hop.d : Hop → D
  | .pl k => .tup [.str "plus", .int k]
  | .co w => .tup [.str "coming", .int w]
  | .la w => .tup [.str "last", .int w]
def Hop.fit : Hop → Prop
  | .pl k => -30 ≤ k ∧ k ≤ 30
  | .co w => 0 ≤ w ∧ w ≤ 6
  | .la w => 0 ≤ w ∧ w ≤ 6
def stp (k : Int) : Int := if (if k < 30 then k else 30) > -30 then (if k < 30 then k else 30) else -30
def up (k : Int) : Int := ((if k < 0 then -k else k) + 29) / 30
def few : Sh → Int
  | .ev k => up k
  | .sw _ m => 1 + (if up (m + 8) < up m then up (m + 8) else up m)
def most : Sh → Sh → Int
  | .ev k, .ev j => if k = j then 7 else 0
  | .sw w m, .sw v n => if w = v then (let x := 7 - (if m - n < 0 then -(m - n) else m - n); if x > 0 then x else 0) else 0
  | .ev k, .sw _ m => if m < k ∧ k ≤ m + 7 then 1 else 0
  | .sw _ m, .ev k => if m < k ∧ k ≤ m + 7 then 1 else 0
theorem in7 {r : Int} (h0 : 0 ≤ r) (h6 : r ≤ 6) : r ∈ R7 := by
  simp only [R7, List.mem_cons, List.not_mem_nil, or_false]
  omega
end Sv
set_option Elab.async false
set_option linter.all false
set_option maxRecDepth 100000
namespace L08
open PySem PySem.Spec L2 Rf
def subT (i j : Nat) : Option Bool := if i = 1 ∧ j = 1 then some true else if i = 1 ∧ j = 2 then some false else if i = 2 ∧ j = 1 then some false else if i = 2 ∧ j = 2 then some true else none
abbrev g_LETTERS : D := .str "abcdefghijklmnopqrstuvwxyz"
abbrev g_MOST_STEP : D := .int 30
def tab_SINGLE_WORDS : List (Str × D) := [("I", .str "person"), ("you", .str "person"), ("self", .str "person"), ("told", .str "person"), ("somebody", .str "person"), ("one day", .str "day"), ("here", .str "place"), ("there", .str "place"), ("somewhere", .str "place")]
abbrev g_STEP_WORDS : D := .tup [.str "today", .str "that day"]
abbrev g_WEEKDAY_WORDS : D := .tup [.str "coming", .str "last", .str "then coming", .str "then last"]
abbrev g_MOST_FIGURES : D := .int 100
def tab_SINGLE_TEXTS : List (Str × D) := [("I", .str "I"), ("you", .str "you"), ("self", .str "self"), ("told", .str "told"), ("somebody", .str "somebody"), ("one day", .str "someday"), ("here", .str "here"), ("there", .str "there"), ("somewhere", .str "somewhere")]
def tab_WORDS_OF_TEXTS : List (Str × D) := [("I", .str "I"), ("you", .str "you"), ("self", .str "self"), ("told", .str "told"), ("somebody", .str "somebody"), ("someday", .str "one day"), ("here", .str "here"), ("there", .str "there"), ("somewhere", .str "somewhere")]
def tab_SIGNED_TEXTS : List (Str × D) := [("name", .str "@"), ("place", .str "#"), ("date", .str "=")]
def tab_WEEKDAY_TEXTS : List (Str × D) := [("coming", .str "coming"), ("last", .str "last"), ("then coming", .str "thencoming"), ("then last", .str "thenlast")]
def tab_STEP_TEXTS : List (Str × D) := [("today", .str "today"), ("that day", .str "that")]
def b__law_hand : ENV → R Fl := sSeq (sAsg (dAdd (dB fLen (dCons (dVar 0) (dNil))) (dC (.int 17))) (gSet 1))
  (sSeq (sOwn (fLst (dNil)) 2)
  (sSeq (sFor (dItems (dVar 0)) (gSet 3) (sSeq (sAsg (dMod (dB fInt (dCons (dAdd (dMul (dVar 1) (dC (.int 1009))) (dB fInt (dCons (dVar 3) (dNil)))) (dNil))) (dC (.int 2147483629))) (gSet 1))
  (sApp 2 (dIf (dT (dCmp .ge (dVar 3) (dC (.int 0)))) (dB fInt (dCons (dVar 3) (dNil))) (dNeg (dB fInt (dCons (dVar 3) (dNil))))))))
  (sRetF (fLst (dCons (dVar 2) (dCons (dC (.int 0)) (dCons (dC (.int 0)) (dCons (dVar 1) (dNil)))))))))
def m__law_hand : List DV → FO := runF [] 4 b__law_hand
def b__law_mixed : ENV → R Fl := sSeq (sAsg (dMod (dB fInt (dCons (dAdd (dAdd (dMul (dVar 0) (dC (.int 48271))) (dMul (dVar 1) (dC (.int 7919)))) (dC (.int 12345))) (dNil))) (dC (.int 2147483647))) (gSet 2))
  (sSeq (sAsg (dMod (dB fInt (dCons (dAdd (dAdd (dMul (dVar 2) (dVar 2)) (dMul (dVar 1) (dC (.int 104729)))) (dDiv (dVar 2) (dC (.int 127)))) (dNil))) (dC (.int 2147483629))) (gSet 3))
  (sRet (dDiv (dB fInt (dCons (dMod (dB fInt (dCons (dAdd (dMul (dVar 3) (dC (.int 69621))) (dDiv (dVar 2) (dC (.int 3)))) (dNil))) (dC (.int 2147483587))) (dNil))) (dC (.int 8)))))
def m__law_mixed : List DV → FO := runF [] 4 b__law_mixed
def b__law_take : ENV → R Fl := sSeq (sIf (dAnd (dT (dCmp .eq (dIxO 0 (dC (.int 2))) (dC (.int 0)))) (dT (dCmp .lt (dIxO 0 (dC (.int 1))) (dB fLen (dCons (dIxO 0 (dC (.int 0))) (dNil)))))) (sSeq (sAsg (dIx (dIxO 0 (dC (.int 0))) (dIxO 0 (dC (.int 1)))) (gSet 2))
  (sSeq (sSub 0 (dAdd (dIxO 0 (dC (.int 1))) (dC (.int 1))) (dC (.int 1)))
  (sSeq (sIf (dT (dCmp .lt (dVar 2) (dPow (dC (.int 10)) (dC (.int 18))))) (sRet (dMod (dB fInt (dCons (dCall m__law_mixed (aVal (dMod (dB fInt (dCons (dVar 2) (dNil))) (dC (.int 2147483647))) (aVal (dIxO 0 (dC (.int 1))) (aNil)))) (dNil))) (dVar 1))) (sNil))
  (sSub 0 (dVar 2) (dC (.int 2)))))) (sNil))
  (sSeq (sIf (dT (dCmp .gt (dIxO 0 (dC (.int 2))) (dC (.int 0)))) (sSeq (sAsg (dIxO 0 (dC (.int 2))) (gSet 3))
  (sSeq (sSub 0 (dDiv (dB fInt (dCons (dVar 3) (dNil))) (dVar 1)) (dC (.int 2)))
  (sRet (dMod (dB fInt (dCons (dVar 3) (dNil))) (dVar 1))))) (sNil))
  (sSeq (sSub 0 (dMod (dB fInt (dCons (dAdd (dIxO 0 (dC (.int 3))) (dC (.int 1))) (dNil))) (dC (.int 2147483629))) (dC (.int 3)))
  (sRet (dMod (dB fInt (dCons (dCall m__law_mixed (aVal (dIxO 0 (dC (.int 3))) (aVal (dIxO 0 (dC (.int 1))) (aNil)))) (dNil))) (dVar 1)))))
def m__law_take : List DV → FO := runF [0] 4 b__law_take
def b__law_name : ENV → R Fl := sSeq (sAsg (dC (.str "")) (gSet 1))
  (sSeq (sFor (dRng1 (dAdd (dC (.int 1)) (dCall m__law_take (aIo 0 (aVal (dC (.int 8)) (aNil)))))) (gSet 2) (sAsg (dAdd (dVar 1) (dIx (dC (.str "abcdefghijklmnopqrstuvwxyz")) (dCall m__law_take (aIo 0 (aVal (dC (.int 26)) (aNil)))))) (gSet 1)))
  (sRet (dVar 1)))
def m__law_name : List DV → FO := runF [0] 3 b__law_name
def b__law_names : ENV → R Fl := sSeq (sOwn (fLst (dNil)) 2)
  (sSeq (sFor (dRng1 (dVar 1)) (gSet 3) (sSeq (sAsg (dCall m__law_name (aIo 0 (aNil))) (gSet 4))
  (sSeq (sIf (dT (dInO false (dVar 4) 2)) (sAsg (dIx ((fun ρ => frz ((fLc (dItems (dLst (dCons (dC (.str "q")) (dCons (dC (.str "r")) (dCons (dC (.str "s")) (dCons (dC (.str "t")) (dNil))))))) (gSet 5) (dT (dInO true (dVar 5) 2)) (dVar 5) [5]) ρ))) (dC (.int 0))) (gSet 4)) (sNil))
  (sApp 2 (dVar 4)))))
  (sRet (dVar 2)))
def m__law_names : List DV → FO := runF [0] 6 b__law_names
def b__law_world : ENV → R Fl := sRet (dLst (dCons (dCall m__law_names (aIo 0 (aVal (dC (.int 3)) (aNil)))) (dCons (dCall m__law_names (aIo 0 (aVal (dC (.int 2)) (aNil)))) (dNil))))
def m__law_world : List DV → FO := runF [0] 1 b__law_world
def b_is_whole : ENV → R Fl := sRet (dAndV (dIs (isTy "int") (dVar 0)) (dNotV (dIs (isTy "bool") (dVar 0))))
def m_is_whole : List DV → FO := runF [] 1 b_is_whole
def b_is_name : ENV → R Fl := sSeq (sIf (dOr (dNot (dTru (dIs (isTy "str") (dVar 0)))) (dNot (dT (dChain (CK.f .le) (CK.f .le) (dC (.int 1)) (dB fLen (dCons (dVar 0) (dNil))) (dC (.int 8)))))) (sRet (dC (.bl false))) (sNil))
  (sRet (dB fAll (dCons ((fun ρ => frz ((fLc (dItems (dVar 0)) (gSet 1) (dYes) (dCmp .in_ (dVar 1) (dC g_LETTERS)) [1]) ρ))) (dNil))))
def m_is_name : List DV → FO := runF [] 2 b_is_name
def b_find_kind : ENV → R Fl := sSeq (sIf (dOr (dNot (dTru (dIs (isTy "tuple") (dVar 0)))) (dOr (dNot (dT (dChain (CK.f .le) (CK.f .le) (dC (.int 1)) (dB fLen (dCons (dVar 0) (dNil))) (dC (.int 2))))) (dNot (dTru (dIs (isTy "str") (dIx (dVar 0) (dC (.int 0)))))))) (sRet (dC .non)) (sNil))
  (sSeq (sAsg (dIx (dVar 0) (dC (.int 0))) (gSet 1))
  (sSeq (sIf (dT (dCmp .eq (dB fLen (dCons (dVar 0) (dNil))) (dC (.int 1)))) (sRet (dGetK tab_SINGLE_WORDS (dVar 1))) (sNil))
  (sSeq (sAsg (dIx (dVar 0) (dC (.int 1))) (gSet 2))
  (sSeq (sIf (dT (dCmp .eq (dVar 1) (dC (.str "name")))) (sRet (dIf (dTru (dCall m_is_name (aVal (dVar 2) (aNil)))) (dC (.str "person")) (dC .non))) (sNil))
  (sSeq (sIf (dT (dCmp .eq (dVar 1) (dC (.str "place")))) (sRet (dIf (dTru (dCall m_is_name (aVal (dVar 2) (aNil)))) (dC (.str "place")) (dC .non))) (sNil))
  (sSeq (sIf (dNot (dTru (dCall m_is_whole (aVal (dVar 2) (aNil))))) (sRet (dC .non)) (sNil))
  (sSeq (sIf (dT (dCmp .eq (dVar 1) (dC (.str "date")))) (sRet (dC (.str "day"))) (sNil))
  (sSeq (sIf (dT (dCmp .in_ (dVar 1) (dC g_STEP_WORDS))) (sRet (dIf (dT (dChain (CK.f .le) (CK.f .le) (dNeg (dC g_MOST_STEP)) (dVar 2) (dC g_MOST_STEP))) (dC (.str "day")) (dC .non))) (sNil))
  (sSeq (sIf (dT (dCmp .in_ (dVar 1) (dC g_WEEKDAY_WORDS))) (sRet (dIf (dT (dChain (CK.f .le) (CK.f .le) (dC (.int 0)) (dVar 2) (dC (.int 6)))) (dC (.str "day")) (dC .non))) (sNil))
  (sRet (dC .non)))))))))))
def m_find_kind : List DV → FO := runF [] 3 b_find_kind
def b_kind_of : ENV → R Fl := sSeq (sAsg (dCall m_find_kind (aVal (dVar 0) (aNil))) (gSet 1))
  (sSeq (sIf (dT (dCmp .isN (dVar 1) (dC .non))) (sRaise ⟨1, []⟩) (sNil))
  (sRet (dVar 1)))
def m_kind_of : List DV → FO := runF [] 2 b_kind_of
def b_check_word : ENV → R Fl := sSeq (sExpr (dCall m_kind_of (aVal (dVar 0) (aNil))))
  (sRet (dVar 0))
def m_check_word : List DV → FO := runF [] 1 b_check_word
def b_word_text : ENV → R Fl := sSeq (sExpr (dCall m_check_word (aVal (dVar 0) (aNil))))
  (sSeq (sAsg (dIx (dVar 0) (dC (.int 0))) (gSet 1))
  (sSeq (sIf (dT (dCmp .eq (dB fLen (dCons (dVar 0) (dNil))) (dC (.int 1)))) (sRet (dSubK tab_SINGLE_TEXTS (dVar 1))) (sNil))
  (sSeq (sAsg (dIx (dVar 0) (dC (.int 1))) (gSet 2))
  (sSeq (sIf (dT (dInK tab_SIGNED_TEXTS (dVar 1))) (sRet (dAdd (dSubK tab_SIGNED_TEXTS (dVar 1)) (dB fStrA (dCons (dVar 2) (dNil))))) (sNil))
  (sSeq (sIf (dT (dInK tab_WEEKDAY_TEXTS (dVar 1))) (sRet (dAdd (dSubK tab_WEEKDAY_TEXTS (dVar 1)) (dB fStrA (dCons (dVar 2) (dNil))))) (sNil))
  (sSeq (sAsg (dSubK tab_STEP_TEXTS (dVar 1)) (gSet 3))
  (sSeq (sIf (dT (dCmp .eq (dVar 2) (dC (.int 0)))) (sRet (dVar 3)) (sNil))
  (sRet (dAdd (dAdd (dVar 3) (dIf (dT (dCmp .gt (dVar 2) (dC (.int 0)))) (dC (.str "+")) (dC (.str "")))) (dB fStrA (dCons (dVar 2) (dNil))))))))))))
def m_word_text : List DV → FO := runF [] 4 b_word_text
def b__law_written : ENV → R Fl := sSeq (sTry subT (sAsg (dCall m_word_text (aVal (dVar 0) (aNil))) (gSet 1)) 1 (sRet (dC .non)))
  (sRet (dVar 1))
def m__law_written : List DV → FO := runF [] 2 b__law_written
def b__law_number : ENV → R Fl := sSeq (sAsg (dIf (dT (dCmp .eq (dSl (dVar 0) (dNoPart) (dPart (dC (.int 1)))) (dC (.str "-")))) (dSl (dVar 0) (dPart (dC (.int 1))) (dNoPart)) (dVar 0)) (gSet 1))
  (sSeq (sIf (dOr (dT (dCmp .eq (dB fLen (dCons (dVar 1) (dNil))) (dC (.int 0)))) (dOr (dT (dCmp .gt (dB fLen (dCons (dVar 1) (dNil))) (dC (.int 100)))) (dNot (dTru (dB fAll (dCons ((fun ρ => frz ((fLc (dItems (dVar 1)) (gSet 2) (dYes) (dCmp .in_ (dVar 2) (dC (.str "0123456789"))) [2]) ρ))) (dNil))))))) (sRet (dC .non)) (sNil))
  (sSeq (sIf (dAnd (dT (dCmp .eq (dIx (dVar 1) (dC (.int 0))) (dC (.str "0")))) (dT (dCmp .ne (dVar 0) (dC (.str "0"))))) (sRet (dC .non)) (sNil))
  (sRet (dB fIntT (dCons (dVar 0) (dNil))))))
def m__law_number : List DV → FO := runF [] 3 b__law_number
def b__law_word_text : ENV → R Fl := sSeq (sIf (dT (dCmp .eq (dIx (dVar 0) (dC (.int 0))) (dC (.str "one day")))) (sRet (dC (.str "someday"))) (sNil))
  (sSeq (sIf (dT (dCmp .eq (dB fLen (dCons (dVar 0) (dNil))) (dC (.int 1)))) (sRet (dIx (dVar 0) (dC (.int 0)))) (sNil))
  (sSeq (sIf (dOr (dT (dCmp .eq (dIx (dVar 0) (dC (.int 0))) (dC (.str "name")))) (dOr (dT (dCmp .eq (dIx (dVar 0) (dC (.int 0))) (dC (.str "place")))) (dT (dCmp .eq (dIx (dVar 0) (dC (.int 0))) (dC (.str "date")))))) (sRet (dAdd (dDis [("name", "@"), ("place", "#"), ("date", "=")] (dIx (dVar 0) (dC (.int 0)))) (dB fStrA (dCons (dIx (dVar 0) (dC (.int 1))) (dNil))))) (sNil))
  (sSeq (sIf (dOr (dT (dCmp .eq (dIx (dVar 0) (dC (.int 0))) (dC (.str "today")))) (dT (dCmp .eq (dIx (dVar 0) (dC (.int 0))) (dC (.str "that day"))))) (sSeq (sAsg (dIf (dT (dCmp .eq (dIx (dVar 0) (dC (.int 0))) (dC (.str "that day")))) (dC (.str "that")) (dC (.str "today"))) (gSet 1))
  (sRet (dIf (dT (dCmp .eq (dIx (dVar 0) (dC (.int 1))) (dC (.int 0)))) (dVar 1) (dAdd (dAdd (dVar 1) (dIf (dT (dCmp .gt (dIx (dVar 0) (dC (.int 1))) (dC (.int 0)))) (dC (.str "+")) (dC (.str "")))) (dB fStrA (dCons (dIx (dVar 0) (dC (.int 1))) (dNil))))))) (sNil))
  (sRet (dAdd (dRepl (dIx (dVar 0) (dC (.int 0))) " " "") (dB fStrA (dCons (dIx (dVar 0) (dC (.int 1))) (dNil))))))))
def m__law_word_text : List DV → FO := runF [] 2 b__law_word_text
def b__law_letters : ENV → R Fl := sRet (dAndV (dIs (isTy "str") (dVar 0)) (dAndV (dChain (CK.f .lt) (CK.f .lt) (dC (.int 0)) (dB fLen (dCons (dVar 0) (dNil))) (dC (.int 9))) (dB fAll (dCons ((fun ρ => frz ((fLc (dItems (dVar 0)) (gSet 1) (dYes) (dCmp .in_ (dVar 1) (dC (.str "abcdefghijklmnopqrstuvwxyz"))) [1]) ρ))) (dNil)))))
def m__law_letters : List DV → FO := runF [] 2 b__law_letters
def b__law_due : ENV → R Fl := sSeq (sFor (dItems (dLst (dCons (dTup (dCons (dC (.str "I")) (dNil))) (dCons (dTup (dCons (dC (.str "you")) (dNil))) (dCons (dTup (dCons (dC (.str "self")) (dNil))) (dCons (dTup (dCons (dC (.str "told")) (dNil))) (dCons (dTup (dCons (dC (.str "somebody")) (dNil))) (dCons (dTup (dCons (dC (.str "one day")) (dNil))) (dCons (dTup (dCons (dC (.str "here")) (dNil))) (dCons (dTup (dCons (dC (.str "there")) (dNil))) (dCons (dTup (dCons (dC (.str "somewhere")) (dNil))) (dNil)))))))))))) (gSet 1) (sIf (dT (dCmp .eq (dVar 0) (dCall m__law_word_text (aVal (dVar 1) (aNil))))) (sRet (dVar 1)) (sNil)))
  (sSeq (sIf (dOr (dT (dCmp .eq (dSl (dVar 0) (dNoPart) (dPart (dC (.int 1)))) (dC (.str "@")))) (dT (dCmp .eq (dSl (dVar 0) (dNoPart) (dPart (dC (.int 1)))) (dC (.str "#"))))) (sRet (dIf (dTru (dCall m__law_letters (aVal (dSl (dVar 0) (dPart (dC (.int 1))) (dNoPart)) (aNil)))) (dTup (dCons (dOp vIxB (dLst (dCons (dC (.str "name")) (dCons (dC (.str "place")) (dNil)))) (dCmp .eq (dIx (dVar 0) (dC (.int 0))) (dC (.str "#")))) (dCons (dSl (dVar 0) (dPart (dC (.int 1))) (dNoPart)) (dNil)))) (dC .non))) (sNil))
  (sSeq (sIf (dT (dCmp .eq (dSl (dVar 0) (dNoPart) (dPart (dC (.int 1)))) (dC (.str "=")))) (sSeq (sAsg (dCall m__law_number (aVal (dSl (dVar 0) (dPart (dC (.int 1))) (dNoPart)) (aNil))) (gSet 2))
  (sRet (dIf (dT (dCmp .isN (dVar 2) (dC .non))) (dC .non) (dTup (dCons (dC (.str "date")) (dCons (dVar 2) (dNil))))))) (sNil))
  (sSeq (sFor (dItems (dLst (dCons (dC (.str "coming")) (dCons (dC (.str "last")) (dCons (dC (.str "then coming")) (dCons (dC (.str "then last")) (dNil))))))) (gSet 3) (sFor (dRng1 (dC (.int 7))) (gSet 4) (sIf (dT (dCmp .eq (dVar 0) (dAdd (dRepl (dVar 3) " " "") (dB fStrA (dCons (dVar 4) (dNil)))))) (sRet (dTup (dCons (dVar 3) (dCons (dVar 4) (dNil))))) (sNil))))
  (sSeq (sIf (dAnd (dT (dCmp .ne (dSl (dVar 0) (dNoPart) (dPart (dC (.int 5)))) (dC (.str "today")))) (dT (dCmp .ne (dSl (dVar 0) (dNoPart) (dPart (dC (.int 4)))) (dC (.str "that"))))) (sRet (dC .non)) (sNil))
  (sSeq (sFor (dItems (dLst (dCons (dC (.str "today")) (dCons (dC (.str "that day")) (dNil))))) (gSet 3) (sFor (dRng2 (dNeg (dC (.int 30))) (dC (.int 31))) (gSet 5) (sIf (dT (dCmp .eq (dVar 0) (dCall m__law_word_text (aVal (dTup (dCons (dVar 3) (dCons (dVar 5) (dNil)))) (aNil))))) (sRet (dTup (dCons (dVar 3) (dCons (dVar 5) (dNil))))) (sNil))))
  (sRet (dC .non)))))))
def m__law_due : List DV → FO := runF [] 6 b__law_due
def b_is_figures : ENV → R Fl := sSeq (sIf (dOr (dNot (dT (dChain (CK.f .le) (CK.f .le) (dC (.int 1)) (dB fLen (dCons (dVar 0) (dNil))) (dC g_MOST_FIGURES)))) (dNot (dTru (dB fAll (dCons ((fun ρ => frz ((fLc (dItems (dVar 0)) (gSet 1) (dYes) (dCmp .in_ (dVar 1) (dC (.str "0123456789"))) [1]) ρ))) (dNil)))))) (sRet (dC (.bl false))) (sNil))
  (sRet (dOrV (dCmp .eq (dVar 0) (dC (.str "0"))) (dCmp .ne (dIx (dVar 0) (dC (.int 0))) (dC (.str "0")))))
def m_is_figures : List DV → FO := runF [] 2 b_is_figures
def b_number_from : ENV → R Fl := sSeq (sIf (dTru (dCall m_is_figures (aVal (dVar 0) (aNil)))) (sRet (dB fIntT (dCons (dVar 0) (dNil)))) (sNil))
  (sSeq (sIf (dAnd (dT (dCmp .eq (dSl (dVar 0) (dNoPart) (dPart (dC (.int 1)))) (dC (.str "-")))) (dAnd (dTru (dCall m_is_figures (aVal (dSl (dVar 0) (dPart (dC (.int 1))) (dNoPart)) (aNil)))) (dT (dCmp .ne (dVar 0) (dC (.str "-0")))))) (sRet (dNeg (dB fIntT (dCons (dSl (dVar 0) (dPart (dC (.int 1))) (dNoPart)) (dNil))))) (sNil))
  (sRet (dC .non)))
def m_number_from : List DV → FO := runF [] 1 b_number_from
def b_find_signed : ENV → R Fl := sSeq (sAsg (dSl (dVar 0) (dPart (dC (.int 1))) (dNoPart)) (gSet 1))
  (sSeq (sIf (dT (dCmp .eq (dIx (dVar 0) (dC (.int 0))) (dC (.str "=")))) (sSeq (sAsg (dCall m_number_from (aVal (dVar 1) (aNil))) (gSet 2))
  (sRet (dIf (dT (dCmp .isN (dVar 2) (dC .non))) (dC .non) (dTup (dCons (dC (.str "date")) (dCons (dVar 2) (dNil))))))) (sNil))
  (sSeq (sIf (dNot (dTru (dCall m_is_name (aVal (dVar 1) (aNil))))) (sRet (dC .non)) (sNil))
  (sRet (dIf (dT (dCmp .eq (dIx (dVar 0) (dC (.int 0))) (dC (.str "@")))) (dTup (dCons (dC (.str "name")) (dCons (dVar 1) (dNil)))) (dTup (dCons (dC (.str "place")) (dCons (dVar 1) (dNil))))))))
def m_find_signed : List DV → FO := runF [] 3 b_find_signed
def b_find_word : ENV → R Fl := sSeq (sIf (dT (dInK tab_WORDS_OF_TEXTS (dVar 0))) (sRet (dTup (dCons (dSubK tab_WORDS_OF_TEXTS (dVar 0)) (dNil)))) (sNil))
  (sSeq (sIf (dT (dCmp .in_ (dSl (dVar 0) (dNoPart) (dPart (dC (.int 1)))) (dTup (dCons (dC (.str "@")) (dCons (dC (.str "#")) (dCons (dC (.str "=")) (dNil))))))) (sRet (dCall m_find_signed (aVal (dVar 0) (aNil)))) (sNil))
  (sSeq (sFor (dItmK tab_STEP_TEXTS) (gSeq 2 (gsCons (gSet 1) (gsCons (gSet 2) (gsNil)))) (sSeq (sIf (dT (dCmp .eq (dVar 0) (dVar 2))) (sRet (dTup (dCons (dVar 1) (dCons (dC (.int 0)) (dNil))))) (sNil))
  (sIf (dTru (dStw (dVar 0) (dVar 2))) (sSeq (sAsg (dSl (dVar 0) (dPart (dB fLen (dCons (dVar 2) (dNil)))) (dNoPart)) (gSet 3))
  (sSeq (sAsg (dCall m_number_from (aVal (dIf (dT (dCmp .eq (dIx (dVar 3) (dC (.int 0))) (dC (.str "+")))) (dSl (dVar 3) (dPart (dC (.int 1))) (dNoPart)) (dVar 3)) (aNil))) (gSet 4))
  (sSeq (sIf (dOr (dT (dCmp .isN (dVar 4) (dC .non))) (dOr (dT (dCmp .eq (dVar 4) (dC (.int 0)))) (dT (dCmp .ne (dCmp .gt (dVar 4) (dC (.int 0))) (dCmp .eq (dIx (dVar 3) (dC (.int 0))) (dC (.str "+"))))))) (sRet (dC .non)) (sNil))
  (sSeq (sAsg (dTup (dCons (dVar 1) (dCons (dVar 4) (dNil)))) (gSet 5))
  (sRet (dIf (dT (dCmp .isN (dCall m_find_kind (aVal (dVar 5) (aNil))) (dC .non))) (dC .non) (dVar 5))))))) (sNil))))
  (sSeq (sFor (dItmK tab_WEEKDAY_TEXTS) (gSeq 2 (gsCons (gSet 1) (gsCons (gSet 2) (gsNil)))) (sSeq (sAsg (dSl (dVar 0) (dPart (dB fLen (dCons (dVar 2) (dNil)))) (dNoPart)) (gSet 3))
  (sIf (dAnd (dTru (dStw (dVar 0) (dVar 2))) (dAnd (dT (dCmp .eq (dB fLen (dCons (dVar 3) (dNil))) (dC (.int 1)))) (dT (dCmp .in_ (dVar 3) (dC (.str "0123456")))))) (sRet (dTup (dCons (dVar 1) (dCons (dB fIntT (dCons (dVar 3) (dNil))) (dNil))))) (sNil))))
  (sRet (dC .non)))))
def m_find_word : List DV → FO := runF [] 6 b_find_word
def b_read_word : ENV → R Fl := sSeq (sIf (dNot (dTru (dIs (isTy "str") (dVar 0)))) (sRaiseF 2 ["position", "what"] (dCons (dC (.int 0)) (dCons (dC (.str "text")) (dNil)))) (sNil))
  (sSeq (sAsg (dCall m_find_word (aVal (dVar 0) (aNil))) (gSet 1))
  (sSeq (sIf (dT (dCmp .isN (dVar 1) (dC .non))) (sRaiseF 2 ["position", "what"] (dCons (dC (.int 0)) (dCons (dC (.str "word")) (dNil)))) (sNil))
  (sRet (dVar 1))))
def m_read_word : List DV → FO := runF [] 2 b_read_word
def b__law_read : ENV → R Fl := sSeq (sTryAs subT (sAsg (dCall m_read_word (aVal (dVar 0) (aNil))) (gSet 1)) 2 2 (fun ex_ => sRet (dLst (dCons (dC (.str "no")) (dCons (dXf (fun c => c == 2) "position" ex_) (dCons (dXf (fun c => c == 2) "what" ex_) (dNil)))))))
  (sRet (dVar 1))
def m__law_read : List DV → FO := runF [] 3 b__law_read
def b__law_right : ENV → R Fl := sSeq (sAsg (dCall m__law_due (aVal (dVar 0) (aNil))) (gSet 1))
  (sSeq (sAsg (dCall m__law_read (aVal (dVar 0) (aNil))) (gSet 2))
  (sSeq (sIf (dT (dCmp .isN (dVar 1) (dC .non))) (sRet (dCmp .eq (dVar 2) (dLst (dCons (dC (.str "no")) (dCons (dC (.int 0)) (dCons (dC (.str "word")) (dNil))))))) (sNil))
  (sRet (dAndV (dCmp .eq (dVar 2) (dVar 1)) (dAndV (dIs (isTy "tuple") (dVar 2)) (dCmp .eq (dCall m__law_written (aVal (dVar 1) (aNil))) (dVar 0)))))))
def m__law_right : List DV → FO := runF [] 3 b__law_right
def b__law_person : ENV → R Fl := sSeq (sAsg (dCall m__law_take (aIo 0 (aVal (dIf (dTru (dVar 2)) (dC (.int 6)) (dC (.int 4))) (aNil)))) (gSet 3))
  (sSeq (sIf (dOr (dT (dCmp .eq (dVar 3) (dC (.int 2)))) (dT (dCmp .eq (dVar 3) (dC (.int 3))))) (sRet (dTup (dCons (dC (.str "name")) (dCons (dIx (dIx (dVar 1) (dC (.int 0))) (dCall m__law_take (aIo 0 (aVal (dB fLen (dCons (dIx (dVar 1) (dC (.int 0))) (dNil))) (aNil))))) (dNil))))) (sNil))
  (sRet (dIx (dLst (dCons (dTup (dCons (dC (.str "I")) (dNil))) (dCons (dTup (dCons (dC (.str "you")) (dNil))) (dCons (dC (.str "")) (dCons (dC (.str "")) (dCons (dTup (dCons (dC (.str "self")) (dNil))) (dCons (dTup (dCons (dC (.str "told")) (dNil))) (dNil)))))))) (dVar 3))))
def m__law_person : List DV → FO := runF [0] 4 b__law_person
def b__law_place : ENV → R Fl := sSeq (sAsg (dCall m__law_take (aIo 0 (aVal (dIf (dTru (dVar 2)) (dC (.int 4)) (dC (.int 3))) (aNil)))) (gSet 3))
  (sSeq (sIf (dT (dCmp .eq (dVar 3) (dC (.int 0)))) (sRet (dTup (dCons (dC (.str "here")) (dNil)))) (sNil))
  (sRet (dIf (dT (dCmp .eq (dVar 3) (dC (.int 3)))) (dTup (dCons (dC (.str "there")) (dNil))) (dTup (dCons (dC (.str "place")) (dCons (dIx (dIx (dVar 1) (dC (.int 1))) (dCall m__law_take (aIo 0 (aVal (dB fLen (dCons (dIx (dVar 1) (dC (.int 1))) (dNil))) (aNil))))) (dNil)))))))
def m__law_place : List DV → FO := runF [0] 4 b__law_place
def b__law_step : ENV → R Fl := sRet (dIf (dT (dCmp .eq (dCall m__law_take (aIo 0 (aVal (dC (.int 8)) (aNil)))) (dC (.int 0)))) (dSub (dCall m__law_take (aIo 0 (aVal (dC (.int 61)) (aNil)))) (dC (.int 30))) (dSub (dCall m__law_take (aIo 0 (aVal (dC (.int 7)) (aNil)))) (dC (.int 3))))
def m__law_step : List DV → FO := runF [0] 1 b__law_step
def b__law_date : ENV → R Fl := sRet (dIf (dT (dCmp .eq (dCall m__law_take (aIo 0 (aVal (dC (.int 8)) (aNil)))) (dC (.int 0)))) (dSub (dCall m__law_take (aIo 0 (aVal (dMul (dC (.int 2)) (dPow (dC (.int 10)) (dC (.int 12)))) (aNil)))) (dPow (dC (.int 10)) (dC (.int 12)))) (dSub (dCall m__law_take (aIo 0 (aVal (dC (.int 17)) (aNil)))) (dC (.int 3))))
def m__law_date : List DV → FO := runF [0] 1 b__law_date
def b__law_day : ENV → R Fl := sSeq (sAsg (dCall m__law_take (aIo 0 (aVal (dIf (dTru (dVar 1)) (dC (.int 10)) (dC (.int 6))) (aNil)))) (gSet 2))
  (sSeq (sIf (dT (dCmp .lt (dVar 2) (dC (.int 3)))) (sRet (dTup (dCons (dC (.str "today")) (dCons (dCall m__law_step (aIo 0 (aNil))) (dNil))))) (sNil))
  (sSeq (sIf (dT (dCmp .eq (dVar 2) (dC (.int 3)))) (sRet (dTup (dCons (dC (.str "date")) (dCons (dCall m__law_date (aIo 0 (aNil))) (dNil))))) (sNil))
  (sSeq (sIf (dOr (dT (dCmp .eq (dVar 2) (dC (.int 6)))) (dT (dCmp .eq (dVar 2) (dC (.int 7))))) (sRet (dTup (dCons (dC (.str "that day")) (dCons (dCall m__law_step (aIo 0 (aNil))) (dNil))))) (sNil))
  (sRet (dTup (dCons (dIx (dLst (dCons (dC (.str "")) (dCons (dC (.str "")) (dCons (dC (.str "")) (dCons (dC (.str "")) (dCons (dC (.str "coming")) (dCons (dC (.str "last")) (dCons (dC (.str "")) (dCons (dC (.str "")) (dCons (dC (.str "then coming")) (dCons (dC (.str "then last")) (dNil)))))))))))) (dVar 2)) (dCons (dCall m__law_take (aIo 0 (aVal (dC (.int 7)) (aNil)))) (dNil))))))))
def m__law_day : List DV → FO := runF [0] 3 b__law_day
def b__law_word : ENV → R Fl := sSeq (sAsg (dCall m__law_take (aIo 0 (aVal (dC (.int 4)) (aNil)))) (gSet 3))
  (sSeq (sIf (dT (dCmp .eq (dVar 3) (dC (.int 0)))) (sRet (dCall m__law_person (aIo 0 (aVal (dVar 1) (aVal (dVar 2) (aNil)))))) (sNil))
  (sRet (dIf (dT (dCmp .eq (dVar 3) (dC (.int 1)))) (dCall m__law_place (aIo 0 (aVal (dVar 1) (aVal (dVar 2) (aNil))))) (dCall m__law_day (aIo 0 (aVal (dVar 2) (aNil)))))))
def m__law_word : List DV → FO := runF [0] 4 b__law_word
def b__law_odd_word : ENV → R Fl := sSeq (sAsg (dCall m__law_take (aIo 0 (aVal (dC (.int 20)) (aNil)))) (gSet 1))
  (sSeq (sIf (dT (dCmp .lt (dVar 1) (dC (.int 10)))) (sRet (dIx (dLst (dCons (dC .non) (dCons (dC (.bl true)) (dCons (dC (.int 3)) (dCons (dC (.str "I")) (dCons (dLst (dCons (dC (.str "I")) (dNil))) (dCons (dTup (dCons (dC (.str "I")) (dCons (dC (.str "I")) (dNil)))) (dCons (dTup (dNil)) (dCons (dTup (dCons (dC (.str "it")) (dNil))) (dCons (dTup (dCons (dC (.str "today")) (dNil))) (dCons (dTup (dCons (dC (.str "today")) (dCons (dC (.int 31)) (dNil)))) (dNil)))))))))))) (dVar 1))) (sNil))
  (sSeq (sIf (dT (dCmp .lt (dVar 1) (dC (.int 15)))) (sRet (dIx (dLst (dCons (dTup (dCons (dC (.str "that day")) (dCons (dNeg (dC (.int 31))) (dNil)))) (dCons (dTup (dCons (dC (.str "coming")) (dCons (dC (.int 7)) (dNil)))) (dCons (dTup (dCons (dC (.str "last")) (dCons (dNeg (dC (.int 1))) (dNil)))) (dCons (dTup (dCons (dC (.str "date")) (dCons (dC (.str "1")) (dNil)))) (dCons (dTup (dCons (dC (.str "name")) (dCons (dC (.str "Ann")) (dNil)))) (dNil))))))) (dSub (dVar 1) (dC (.int 10))))) (sNil))
  (sRet (dIx (dLst (dCons (dTup (dCons (dC (.str "place")) (dCons (dC (.str "")) (dNil)))) (dCons (dTup (dCons (dC (.str "name")) (dCons (dC (.str "abcdefghi")) (dNil)))) (dCons (dTup (dCons (dC (.str "today")) (dCons (dC .non) (dNil)))) (dCons (dTup (dCons (dC (.int 1)) (dNil))) (dCons (dTup (dCons (dC (.str "here")) (dCons (dC (.int 0)) (dNil)))) (dNil))))))) (dSub (dVar 1) (dC (.int 15)))))))
def m__law_odd_word : List DV → FO := runF [0] 2 b__law_odd_word
def b__law_near : ENV → R Fl := sSeq (sAsg (dCall m__law_take (aIo 0 (aVal (dAdd (dB fLen (dCons (dVar 1) (dNil))) (dC (.int 1))) (aNil)))) (gSet 2))
  (sSeq (sAsg (dIx (dC (.str "+-=@#0123456789abcdefghijklmnopqrstuvwxyzIAZ /")) (dCall m__law_take (aIo 0 (aVal (dC (.int 46)) (aNil))))) (gSet 3))
  (sSeq (sAsg (dCall m__law_take (aIo 0 (aVal (dC (.int 4)) (aNil)))) (gSet 4))
  (sSeq (sIf (dT (dCmp .eq (dVar 4) (dC (.int 0)))) (sRet (dAdd (dAdd (dSl (dVar 1) (dNoPart) (dPart (dVar 2))) (dVar 3)) (dSl (dVar 1) (dPart (dVar 2)) (dNoPart)))) (sNil))
  (sSeq (sIf (dT (dCmp .eq (dVar 4) (dC (.int 1)))) (sRet (dAdd (dSl (dVar 1) (dNoPart) (dPart (dVar 2))) (dSl (dVar 1) (dPart (dAdd (dVar 2) (dC (.int 1)))) (dNoPart)))) (sNil))
  (sRet (dIf (dT (dCmp .eq (dVar 4) (dC (.int 2)))) (dAdd (dAdd (dSl (dVar 1) (dNoPart) (dPart (dVar 2))) (dVar 3)) (dSl (dVar 1) (dPart (dAdd (dVar 2) (dC (.int 1)))) (dNoPart))) (dAdd (dVar 1) (dSl (dVar 1) (dPart (dVar 2)) (dNoPart)))))))))
def m__law_near : List DV → FO := runF [0] 5 b__law_near
def b_law : ENV → R Fl := sSeq (sOwn (fCall m__law_hand (aVal (dVar 0) (aNil))) 1)
  (sSeq (sAsg (dCall m__law_world (aIo 1 (aNil))) (gSet 2))
  (sSeq (sFor (dRng1 (dC (.int 10))) (gSet 3) (sSeq (sAsg (dIx (dLst (dCons (dCall m__law_word (aIo 1 (aVal (dVar 2) (aVal (dC (.bl true)) (aNil))))) (dCons (dTup (dCons (dC (.str "somebody")) (dNil))) (dCons (dTup (dCons (dC (.str "one day")) (dNil))) (dCons (dTup (dCons (dC (.str "somewhere")) (dNil))) (dCons (dTup (dCons (dC (.str "date")) (dCons (dSub (dCall m__law_take (aIo 1 (aVal (dMul (dC (.int 2)) (dPow (dC (.int 10)) (dC (.int 60)))) (aNil)))) (dPow (dC (.int 10)) (dC (.int 60)))) (dNil)))) (dCons (dTup (dCons (dC (.str "name")) (dCons (dCall m__law_name (aIo 1 (aNil))) (dNil)))) (dNil)))))))) (dCall m__law_take (aIo 1 (aVal (dC (.int 6)) (aNil))))) (gSet 4))
  (sSeq (sAsg (dCall m__law_written (aVal (dVar 4) (aNil))) (gSet 5))
  (sSeq (sIf (dOr (dT (dCmp .ne (dVar 5) (dCall m__law_word_text (aVal (dVar 4) (aNil))))) (dOr (dNot (dTru (dIs (isTy "str") (dVar 5)))) (dT (dCmp .ne (dCall m__law_read (aVal (dVar 5) (aNil))) (dVar 4))))) (sRet (dC (.bl false))) (sNil))
  (sSeq (sIf (dOr (dNot (dTru (dCall m__law_right (aVal (dCall m__law_near (aIo 1 (aVal (dVar 5) (aNil)))) (aNil))))) (dNot (dTru (dCall m__law_right (aVal (dCall m__law_near (aIo 1 (aVal (dCall m__law_near (aIo 1 (aVal (dVar 5) (aNil)))) (aNil)))) (aNil)))))) (sRet (dC (.bl false))) (sNil))
  (sIf (dT (dCmp .notN (dCall m__law_written (aVal (dCall m__law_odd_word (aIo 1 (aNil))) (aNil))) (dC .non))) (sRet (dC (.bl false))) (sNil)))))))
  (sSeq (sFor (dItems (dLst (dCons (dC (.str "coming")) (dCons (dC (.str "last")) (dCons (dC (.str "thencoming")) (dCons (dC (.str "thenlast")) (dCons (dC (.str "today")) (dCons (dC (.str "that")) (dCons (dC (.str "today+")) (dCons (dC (.str "today-")) (dCons (dC (.str "that+")) (dCons (dC (.str "that-")) (dCons (dC (.str "=")) (dCons (dC (.str "=-")) (dCons (dC (.str "@")) (dCons (dC (.str "#")) (dCons (dC (.str "")) (dNil)))))))))))))))))) (gSet 6) (sSeq (sAsg (dCall m__law_take (aIo 1 (aVal (dC (.int 67)) (aNil)))) (gSet 7))
  (sFor (dItems (dLst (dCons (dVar 6) (dCons (dAdd (dVar 6) (dB fStrA (dCons (dVar 7) (dNil)))) (dCons (dAdd (dAdd (dVar 6) (dC (.str "0"))) (dB fStrA (dCons (dVar 7) (dNil)))) (dCons (dAdd (dVar 6) (dC (.str "7"))) (dCons (dAdd (dVar 6) (dC (.str "00"))) (dCons (dAdd (dVar 6) (dIx (dIx (dVar 2) (dC (.int 0))) (dC (.int 0)))) (dCons (dAdd (dC (.str " ")) (dVar 6)) (dNil)))))))))) (gSet 5) (sIf (dNot (dTru (dCall m__law_right (aVal (dVar 5) (aNil))))) (sRet (dC (.bl false))) (sNil)))))
  (sSeq (sAsg (dIx (dC (.str "123456789")) (dCall m__law_take (aIo 1 (aVal (dC (.int 9)) (aNil))))) (gSet 8))
  (sSeq (sAsg (dOp vMulS (dAdd (dAdd (dIx (dC (.str "0123456789")) (dCall m__law_take (aIo 1 (aVal (dC (.int 10)) (aNil))))) (dIx (dC (.str "0123456789")) (dCall m__law_take (aIo 1 (aVal (dC (.int 10)) (aNil)))))) (dIx (dC (.str "0123456789")) (dCall m__law_take (aIo 1 (aVal (dC (.int 10)) (aNil)))))) (dC (.int 33))) (gSet 9))
  (sSeq (sFor (dItems (dLst (dCons (dAdd (dAdd (dC (.str "=")) (dVar 8)) (dVar 9)) (dCons (dAdd (dAdd (dC (.str "=-")) (dVar 8)) (dVar 9)) (dCons (dAdd (dAdd (dAdd (dC (.str "=")) (dVar 8)) (dVar 9)) (dC (.str "5"))) (dCons (dAdd (dAdd (dAdd (dC (.str "=-")) (dVar 8)) (dVar 9)) (dC (.str "0"))) (dCons (dAdd (dC (.str "=0")) (dVar 9)) (dCons (dAdd (dC (.str "=")) (dVar 9)) (dNil))))))))) (gSet 5) (sIf (dNot (dTru (dCall m__law_right (aVal (dVar 5) (aNil))))) (sRet (dC (.bl false))) (sNil)))
  (sSeq (sAsg (dAdd (dC (.int 4301)) (dCall m__law_take (aIo 1 (aVal (dC (.int 60)) (aNil))))) (gSet 10))
  (sSeq (sFor (dItems (dLst (dCons (dAdd (dC (.str "=")) (dOp vMulS (dVar 8) (dVar 10))) (dCons (dAdd (dC (.str "=-")) (dOp vMulS (dVar 8) (dVar 10))) (dCons (dAdd (dC (.str "today+")) (dOp vMulS (dVar 8) (dVar 10))) (dCons (dAdd (dC (.str "coming")) (dOp vMulS (dVar 8) (dVar 10))) (dNil))))))) (gSet 5) (sIf (dNot (dTru (dCall m__law_right (aVal (dVar 5) (aNil))))) (sRet (dC (.bl false))) (sNil)))
  (sSeq (sFor (dItems (dLst (dCons (dC .non) (dCons (dC (.int 5)) (dCons (dC (.bl true)) (dCons (dLst (dCons (dC (.str "I")) (dNil))) (dCons (dTup (dCons (dC (.str "I")) (dNil))) (dNil)))))))) (gSet 11) (sIf (dT (dCmp .ne (dCall m__law_read (aVal (dVar 11) (aNil))) (dLst (dCons (dC (.str "no")) (dCons (dC (.int 0)) (dCons (dC (.str "text")) (dNil))))))) (sRet (dC (.bl false))) (sNil)))
  (sRet (dC (.bl true))))))))))))
def m_law : List DV → FO := runF [] 12 b_law
end L08
set_option Elab.async false
set_option linter.all false
set_option maxRecDepth 100000
set_option maxHeartbeats 4000000
namespace L08
open PySem PySem.Spec L2 Rf
def top (i : Nat) : Stmt := PySem.Challenge.pw_whosetomorrow_k08_whole_texts_of_words.main.body.getD i (.Pass ⟨0, 0, 0, 0⟩)
structure Txt (K : PySem.W.Frag) (mg : Str → Option Value) (C : Nat → Addr) : Prop where
  b_all : mg "all" = none
  b_bool : mg "bool" = none
  b_int : mg "int" = none
  b_isinstance : mg "isinstance" = none
  b_len : mg "len" = none
  b_range : mg "range" = none
  b_str : mg "str" = none
  b_tuple : mg "tuple" = none
  x_BadWord : ExF K mg (C 1) "BadWord"
  x_BadText : ExN K mg (C 2) "BadText"
  xo_BadText : OexC K (C 2)
  xh_BadText_position : PySem.W.findIn K (.ref (C 2)) "position" = some none
  xh_BadText_what : PySem.W.findIn K (.ref (C 2)) "what" = some none
  d_BadText : Dm K (C 2) "__init__" "BadText.__init__" (inClass (top 3) 0) ["self", "position", "what"]
  bi_TalkError : BaseI K mg "TalkError"
  xf_what : XfOk K C "what" (fun c => c == 2)
  xf_position : XfOk K C "position" (fun c => c == 2)
  sb : ∀ i j b, subT i j = some b → PySem.W.exmOne K (.ref (C i)) (.ref (C j)) = some b
  g_LETTERS : GC K mg C "LETTERS" g_LETTERS
  g_MOST_STEP : GC K mg C "MOST_STEP" g_MOST_STEP
  t_SINGLE_WORDS : KG K mg "SINGLE_WORDS" tab_SINGLE_WORDS
  g_STEP_WORDS : GC K mg C "STEP_WORDS" g_STEP_WORDS
  g_WEEKDAY_WORDS : GC K mg C "WEEKDAY_WORDS" g_WEEKDAY_WORDS
  g_MOST_FIGURES : GC K mg C "MOST_FIGURES" g_MOST_FIGURES
  t_SINGLE_TEXTS : KG K mg "SINGLE_TEXTS" tab_SINGLE_TEXTS
  t_WORDS_OF_TEXTS : KG K mg "WORDS_OF_TEXTS" tab_WORDS_OF_TEXTS
  t_SIGNED_TEXTS : KG K mg "SIGNED_TEXTS" tab_SIGNED_TEXTS
  t_WEEKDAY_TEXTS : KG K mg "WEEKDAY_TEXTS" tab_WEEKDAY_TEXTS
  t_STEP_TEXTS : KG K mg "STEP_TEXTS" tab_STEP_TEXTS
  d__law_hand : Df K mg "_law_hand" (top 29) ["_law_script"]
  d__law_mixed : Df K mg "_law_mixed" (top 30) ["_law_number_here", "_law_turn"]
  d__law_take : Df K mg "_law_take" (top 31) ["_law_hand_here", "_law_many"]
  d__law_name : Df K mg "_law_name" (top 32) ["_law_hand_here"]
  d__law_names : Df K mg "_law_names" (top 33) ["_law_hand_here", "_law_many"]
  d__law_world : Df K mg "_law_world" (top 34) ["_law_hand_here"]
  d_is_whole : Df K mg "is_whole" (top 10) ["thing"]
  d_is_name : Df K mg "is_name" (top 11) ["thing"]
  d_find_kind : Df K mg "find_kind" (top 12) ["thing"]
  d_kind_of : Df K mg "kind_of" (top 13) ["word"]
  d_check_word : Df K mg "check_word" (top 14) ["word"]
  d_word_text : Df K mg "word_text" (top 22) ["word"]
  d__law_written : Df K mg "_law_written" (top 45) ["_law_word_here"]
  d__law_number : Df K mg "_law_number" (top 46) ["_law_text"]
  d__law_word_text : Df K mg "_law_word_text" (top 43) ["_law_word_here"]
  d__law_letters : Df K mg "_law_letters" (top 41) ["_law_thing"]
  d__law_due : Df K mg "_law_due" (top 47) ["_law_text"]
  d_is_figures : Df K mg "is_figures" (top 23) ["text"]
  d_number_from : Df K mg "number_from" (top 24) ["text"]
  d_find_signed : Df K mg "find_signed" (top 25) ["text"]
  d_find_word : Df K mg "find_word" (top 26) ["text"]
  d_read_word : Df K mg "read_word" (top 27) ["text"]
  d__law_read : Df K mg "_law_read" (top 44) ["_law_text"]
  d__law_right : Df K mg "_law_right" (top 49) ["_law_text"]
  d__law_person : Df K mg "_law_person" (top 37) ["_law_hand_here", "_law_world_here", "_law_inner"]
  d__law_place : Df K mg "_law_place" (top 39) ["_law_hand_here", "_law_world_here", "_law_inner"]
  d__law_step : Df K mg "_law_step" (top 35) ["_law_hand_here"]
  d__law_date : Df K mg "_law_date" (top 36) ["_law_hand_here"]
  d__law_day : Df K mg "_law_day" (top 38) ["_law_hand_here", "_law_inner"]
  d__law_word : Df K mg "_law_word" (top 40) ["_law_hand_here", "_law_world_here", "_law_inner"]
  d__law_odd_word : Df K mg "_law_odd_word" (top 42) ["_law_hand_here"]
  d__law_near : Df K mg "_law_near" (top 48) ["_law_hand_here", "_law_text"]
  d_law : Df K mg "law" (top 50) ["_law_script"]
section
variable {P : Program} {w : World} {K : PySem.W.Frag} {mg : Str → Option Value} {base : Heap} {C : Nat → Addr}
abbrev s__law_hand : Stmt := top 29
def N__law_hand : List Str := ["_law_script", "_law_total", "_law_cells", "_law_cell"]
theorem sc__law_hand : FnScope N__law_hand ["_law_script"] (defScope s__law_hand) := ⟨rfl, rfl, rfl, by decide +kernel, rfl, by decide +kernel, by decide +kernel⟩
theorem k__law_hand (T : Txt K mg C) : Fk P w K mg base C "_law_hand" 1 1 m__law_hand := fk_of T.d__law_hand sc__law_hand [] (by decide) fun f cdv A outer s H E ad hr =>
  dss_cons (ds_set (i := 1) sc__law_hand.nd (de_add (de_B cr_lenS vb_len rfl T.b_len (by decide +kernel) (da_cons (de_var 0) (da_nil))) (de_int)))
  (dss_cons (ds_own (i := 2) sc__law_hand.nd (df_list (da_nil)))
  (dss_cons (ds_for (passes_of rfl) rfl (di_seq (de_var 0)) (dg_name (i := 3) sc__law_hand.nd rfl (by first | exact Or.inl rfl | exact Or.inr rfl) rfl) (dss_cons (ds_set (i := 1) sc__law_hand.nd (de_mod (de_T call_int1 vb_int rfl T.b_int (by decide +kernel) (da_cons (de_add (de_mul (de_var 1) (de_int)) (de_T call_int1 vb_int rfl T.b_int (by decide +kernel) (da_cons (de_var 3) (da_nil)))) (da_nil))) (de_int)))
  (dss_one (ds_app 2 (de_if (dt_c .ge (hu65 hr) (de_var 3) (de_int)) (de_T call_int1 vb_int rfl T.b_int (by decide +kernel) (da_cons (de_var 3) (da_nil))) (de_neg (de_T call_int1 vb_int rfl T.b_int (by decide +kernel) (da_cons (de_var 3) (da_nil)))))))))
  (dss_one (ds_retF (df_list (da_cons (de_var 2) (da_cons (de_int) (da_cons (de_int) (da_cons (de_var 1) (da_nil))))))))))
abbrev s__law_mixed : Stmt := top 30
def N__law_mixed : List Str := ["_law_number_here", "_law_turn", "_law_once", "_law_twice"]
theorem sc__law_mixed : FnScope N__law_mixed ["_law_number_here", "_law_turn"] (defScope s__law_mixed) := ⟨rfl, rfl, rfl, by decide +kernel, rfl, by decide +kernel, by decide +kernel⟩
theorem k__law_mixed (T : Txt K mg C) : Fk P w K mg base C "_law_mixed" 2 1 m__law_mixed := fk_of T.d__law_mixed sc__law_mixed [] (by decide) fun f cdv A outer s H E ad hr =>
  dss_cons (ds_set (i := 2) sc__law_mixed.nd (de_mod (de_T call_int1 vb_int rfl T.b_int (by decide +kernel) (da_cons (de_add (de_add (de_mul (de_var 0) (de_int)) (de_mul (de_var 1) (de_int))) (de_int)) (da_nil))) (de_int)))
  (dss_cons (ds_set (i := 3) sc__law_mixed.nd (de_mod (de_T call_int1 vb_int rfl T.b_int (by decide +kernel) (da_cons (de_add (de_add (de_mul (de_var 2) (de_var 2)) (de_mul (de_var 1) (de_int))) (de_div (de_var 2) (de_int))) (da_nil))) (de_int)))
  (dss_one (ds_ret (de_div (de_T call_int1 vb_int rfl T.b_int (by decide +kernel) (da_cons (de_mod (de_T call_int1 vb_int rfl T.b_int (by decide +kernel) (da_cons (de_add (de_mul (de_var 3) (de_int)) (de_div (de_var 2) (de_int))) (da_nil))) (de_int)) (da_nil))) (de_int)))))
abbrev s__law_take : Stmt := top 31
def N__law_take : List Str := ["_law_hand_here", "_law_many", "_law_cell", "_law_rest"]
theorem sc__law_take : FnScope N__law_take ["_law_hand_here", "_law_many"] (defScope s__law_take) := ⟨rfl, rfl, rfl, by decide +kernel, rfl, by decide +kernel, by decide +kernel⟩
theorem k__law_take (T : Txt K mg C) (K__law_mixed : Fk P w K mg base C "_law_mixed" 2 1 m__law_mixed) : Fk P w K mg base C "_law_take" 2 2 m__law_take := fk_of T.d__law_take sc__law_take [0] (by decide) fun f cdv A outer s H E ad hr =>
  dss_cons (ds_if (dt_w (dw_and (dt_c .eq (hu65 hr) (de_ixO 0 (de_int)) (de_int)) (dw_and1 (dt_c .lt (hu65 hr) (de_ixO 0 (de_int)) (de_B cr_lenS vb_len rfl T.b_len (by decide +kernel) (da_cons (de_ixO 0 (de_int)) (da_nil))))))) (dss_cons (ds_set (i := 2) sc__law_take.nd (de_ix (de_ixO 0 (de_int)) (de_ixO 0 (de_int))))
  (dss_cons (ds_sub 0 (de_add (de_ixO 0 (de_int)) (de_int)) (de_int))
  (dss_cons (ds_if (dt_c .lt (hu65 hr) (de_var 2) (de_pow (de_int) (de_int))) (dss_one (ds_ret (de_mod (de_T call_int1 vb_int rfl T.b_int (by decide +kernel) (da_cons (de_call (K__law_mixed.callee (hr.mono (by decide))) (takes_of rfl rfl rfl rfl) (dag_val (de_mod (de_T call_int1 vb_int rfl T.b_int (by decide +kernel) (da_cons (de_var 2) (da_nil))) (de_int)) (dag_val (de_ixO 0 (de_int)) (dag_nil))) (many_val (many_val (many_nil)))) (da_nil))) (de_var 1)))) (dss_nil))
  (dss_one (ds_sub 0 (de_var 2) (de_int)))))) (dss_nil))
  (dss_cons (ds_if (dt_c .gt (hu65 hr) (de_ixO 0 (de_int)) (de_int)) (dss_cons (ds_set (i := 3) sc__law_take.nd (de_ixO 0 (de_int)))
  (dss_cons (ds_sub 0 (de_div (de_T call_int1 vb_int rfl T.b_int (by decide +kernel) (da_cons (de_var 3) (da_nil))) (de_var 1)) (de_int))
  (dss_one (ds_ret (de_mod (de_T call_int1 vb_int rfl T.b_int (by decide +kernel) (da_cons (de_var 3) (da_nil))) (de_var 1)))))) (dss_nil))
  (dss_cons (ds_sub 0 (de_mod (de_T call_int1 vb_int rfl T.b_int (by decide +kernel) (da_cons (de_add (de_ixO 0 (de_int)) (de_int)) (da_nil))) (de_int)) (de_int))
  (dss_one (ds_ret (de_mod (de_T call_int1 vb_int rfl T.b_int (by decide +kernel) (da_cons (de_call (K__law_mixed.callee (hr.mono (by decide))) (takes_of rfl rfl rfl rfl) (dag_val (de_ixO 0 (de_int)) (dag_val (de_ixO 0 (de_int)) (dag_nil))) (many_val (many_val (many_nil)))) (da_nil))) (de_var 1))))))
abbrev s__law_name : Stmt := top 32
def N__law_name : List Str := ["_law_hand_here", "_law_text", "_law_turn"]
theorem sc__law_name : FnScope N__law_name ["_law_hand_here"] (defScope s__law_name) := ⟨rfl, rfl, rfl, by decide +kernel, rfl, by decide +kernel, by decide +kernel⟩
theorem k__law_name (T : Txt K mg C) (K__law_take : Fk P w K mg base C "_law_take" 2 2 m__law_take) : Fk P w K mg base C "_law_name" 1 3 m__law_name := fk_of T.d__law_name sc__law_name [0] (by decide) fun f cdv A outer s H E ad hr =>
  dss_cons (ds_set (i := 1) sc__law_name.nd (de_str))
  (dss_cons (ds_for (passes_of rfl) rfl (di_rng1 rfl T.b_range (de_add (de_int) (de_call (K__law_take.callee (hr.mono (by decide))) (takes_of rfl rfl rfl rfl) (dag_io 0 (dag_val (de_int) (dag_nil))) (many_io (many_val (many_nil)))))) (dg_name (i := 2) sc__law_name.nd rfl (by first | exact Or.inl rfl | exact Or.inr rfl) rfl) (dss_one (ds_set (i := 1) sc__law_name.nd (de_add (de_var 1) (de_ix (de_str) (de_call (K__law_take.callee (hr.mono (by decide))) (takes_of rfl rfl rfl rfl) (dag_io 0 (dag_val (de_int) (dag_nil))) (many_io (many_val (many_nil)))))))))
  (dss_one (ds_ret (de_var 1))))
abbrev s__law_names : Stmt := top 33
def N__law_names : List Str := ["_law_hand_here", "_law_many", "_law_names_here", "_law_turn", "_law_name_here", "_law_near_here"]
theorem sc__law_names : FnScope N__law_names ["_law_hand_here", "_law_many"] (defScope s__law_names) := ⟨rfl, rfl, rfl, by decide +kernel, rfl, by decide +kernel, by decide +kernel⟩
theorem k__law_names (T : Txt K mg C) (K__law_name : Fk P w K mg base C "_law_name" 1 3 m__law_name) : Fk P w K mg base C "_law_names" 2 4 m__law_names := fk_of T.d__law_names sc__law_names [0] (by decide) fun f cdv A outer s H E ad hr =>
  dss_cons (ds_own (i := 2) sc__law_names.nd (df_list (da_nil)))
  (dss_cons (ds_for (passes_of rfl) rfl (di_rng1 rfl T.b_range (de_var 1)) (dg_name (i := 3) sc__law_names.nd rfl (by first | exact Or.inl rfl | exact Or.inr rfl) rfl) (dss_cons (ds_set (i := 4) sc__law_names.nd (de_call (K__law_name.callee (hr.mono (by decide))) (takes_of rfl rfl rfl rfl) (dag_io 0 (dag_nil)) (many_io (many_nil))))
  (dss_cons (ds_if (dt_inO false 2 (hu65 hr) (de_var 4)) (dss_one (ds_set (i := 4) sc__law_names.nd (de_ix (de_of (df_lc (own := [("_law_near_here", 5)]) (sl := [5]) rfl sc__law_names.nd (di_seq (de_list (da_cons (de_str) (da_cons (de_str) (da_cons (de_str) (da_cons (de_str) (da_nil))))))) (blkOk_by (N := N__law_names) (sc := defScope s__law_names) (by decide +kernel)) (by decide) (fun _ _ _ _ _ => dg_name (i := 5) sc__law_names.nd rfl (by first | exact Or.inl rfl | exact Or.inr rfl) rfl) (fun _ _ _ _ _ => dts_one (dt_inO true 2 (hu65 hr) (de_var 5))) (fun _ _ _ _ _ => de_var 5))) (de_int)))) (dss_nil))
  (dss_one (ds_app 2 (de_var 4))))))
  (dss_one (ds_ret (de_var 2))))
abbrev s__law_world : Stmt := top 34
def N__law_world : List Str := ["_law_hand_here"]
theorem sc__law_world : FnScope N__law_world ["_law_hand_here"] (defScope s__law_world) := ⟨rfl, rfl, rfl, by decide +kernel, rfl, by decide +kernel, by decide +kernel⟩
theorem k__law_world (T : Txt K mg C) (K__law_names : Fk P w K mg base C "_law_names" 2 4 m__law_names) : Fk P w K mg base C "_law_world" 1 5 m__law_world := fk_of T.d__law_world sc__law_world [0] (by decide) fun f cdv A outer s H E ad hr =>
  dss_one (ds_ret (de_list (da_cons (de_call (K__law_names.callee (hr.mono (by decide))) (takes_of rfl rfl rfl rfl) (dag_io 0 (dag_val (de_int) (dag_nil))) (many_io (many_val (many_nil)))) (da_cons (de_call (K__law_names.callee (hr.mono (by decide))) (takes_of rfl rfl rfl rfl) (dag_io 0 (dag_val (de_int) (dag_nil))) (many_io (many_val (many_nil)))) (da_nil)))))
abbrev s_is_whole : Stmt := top 10
def N_is_whole : List Str := ["thing"]
theorem sc_is_whole : FnScope N_is_whole ["thing"] (defScope s_is_whole) := ⟨rfl, rfl, rfl, by decide +kernel, rfl, by decide +kernel, by decide +kernel⟩
theorem k_is_whole (T : Txt K mg C) : Fk P w K mg base C "is_whole" 1 1 m_is_whole := fk_of T.d_is_whole sc_is_whole [] (by decide) fun f cdv A outer s H E ad hr =>
  dss_one (ds_ret (de_and (de_isT (T := "int") rfl T.b_isinstance (by decide +kernel) rfl T.b_int (by decide +kernel) (de_var 0)) (de_one (de_not (de_isT (T := "bool") rfl T.b_isinstance (by decide +kernel) rfl T.b_bool (by decide +kernel) (de_var 0))))))
abbrev s_is_name : Stmt := top 11
def N_is_name : List Str := ["thing", "sign"]
theorem sc_is_name : FnScope N_is_name ["thing"] (defScope s_is_name) := ⟨rfl, rfl, rfl, by decide +kernel, rfl, by decide +kernel, by decide +kernel⟩
theorem k_is_name (T : Txt K mg C) : Fk P w K mg base C "is_name" 1 1 m_is_name := fk_of T.d_is_name sc_is_name [] (by decide) fun f cdv A outer s H E ad hr =>
  dss_cons (ds_if (dt_w (dw_or (dt_not (dt_tru (de_isT (T := "str") rfl T.b_isinstance (by decide +kernel) rfl T.b_str (by decide +kernel) (de_var 0)))) (dw_or1 (dt_not (dt_chain .le .le (hu65 hr) (de_int) (de_B cr_lenS vb_len rfl T.b_len (by decide +kernel) (da_cons (de_var 0) (da_nil))) (de_int)))))) (dss_one (ds_ret (de_bl))) (dss_nil))
  (dss_one (ds_ret (de_B (cr_all rfl) vb_all rfl T.b_all (by decide +kernel) (da_cons (de_of (df_lc (own := [("sign", 1)]) (sl := [1]) rfl sc_is_name.nd (di_seq (de_var 0)) (blkOk_by (N := N_is_name) (sc := defScope s_is_name) (by decide +kernel)) (by decide) (fun _ _ _ _ _ => dg_name (i := 1) sc_is_name.nd rfl (by first | exact Or.inl rfl | exact Or.inr rfl) rfl) (fun _ _ _ _ _ => dts_nil) (fun _ _ _ _ _ => de_c .in_ (hu65 hr) (de_var 1) (de_glob T.g_LETTERS)))) (da_nil)))))
abbrev s_find_kind : Stmt := top 12
def N_find_kind : List Str := ["thing", "head", "rest"]
theorem sc_find_kind : FnScope N_find_kind ["thing"] (defScope s_find_kind) := ⟨rfl, rfl, rfl, by decide +kernel, rfl, by decide +kernel, by decide +kernel⟩
theorem k_find_kind (T : Txt K mg C) (K_is_whole : Fk P w K mg base C "is_whole" 1 1 m_is_whole) (K_is_name : Fk P w K mg base C "is_name" 1 1 m_is_name) : Fk P w K mg base C "find_kind" 1 2 m_find_kind := fk_of T.d_find_kind sc_find_kind [] (by decide) fun f cdv A outer s H E ad hr =>
  dss_cons (ds_if (dt_w (dw_or (dt_not (dt_tru (de_isT (T := "tuple") rfl T.b_isinstance (by decide +kernel) rfl T.b_tuple (by decide +kernel) (de_var 0)))) (dw_or (dt_not (dt_chain .le .le (hu65 hr) (de_int) (de_B cr_lenS vb_len rfl T.b_len (by decide +kernel) (da_cons (de_var 0) (da_nil))) (de_int))) (dw_or1 (dt_not (dt_tru (de_isT (T := "str") rfl T.b_isinstance (by decide +kernel) rfl T.b_str (by decide +kernel) (de_ix (de_var 0) (de_int))))))))) (dss_one (ds_ret (de_non))) (dss_nil))
  (dss_cons (ds_set (i := 1) sc_find_kind.nd (de_ix (de_var 0) (de_int)))
  (dss_cons (ds_if (dt_c .eq (hu65 hr) (de_B cr_lenS vb_len rfl T.b_len (by decide +kernel) (da_cons (de_var 0) (da_nil))) (de_int)) (dss_one (ds_ret (de_kgetG T.t_SINGLE_WORDS rfl (de_var 1) ⟨rfl, rfl, rfl, rfl⟩))) (dss_nil))
  (dss_cons (ds_set (i := 2) sc_find_kind.nd (de_ix (de_var 0) (de_int)))
  (dss_cons (ds_if (dt_c .eq (hu65 hr) (de_var 1) (de_str)) (dss_one (ds_ret (de_if (dt_tru (de_call (K_is_name.callee (hr.mono (by decide))) (takes_of rfl rfl rfl rfl) (dag_val (de_var 2) (dag_nil)) (many_val (many_nil)))) (de_str) (de_non)))) (dss_nil))
  (dss_cons (ds_if (dt_c .eq (hu65 hr) (de_var 1) (de_str)) (dss_one (ds_ret (de_if (dt_tru (de_call (K_is_name.callee (hr.mono (by decide))) (takes_of rfl rfl rfl rfl) (dag_val (de_var 2) (dag_nil)) (many_val (many_nil)))) (de_str) (de_non)))) (dss_nil))
  (dss_cons (ds_if (dt_not (dt_tru (de_call (K_is_whole.callee (hr.mono (by decide))) (takes_of rfl rfl rfl rfl) (dag_val (de_var 2) (dag_nil)) (many_val (many_nil))))) (dss_one (ds_ret (de_non))) (dss_nil))
  (dss_cons (ds_if (dt_c .eq (hu65 hr) (de_var 1) (de_str)) (dss_one (ds_ret (de_str))) (dss_nil))
  (dss_cons (ds_if (dt_c .in_ (hu65 hr) (de_var 1) (de_glob T.g_STEP_WORDS)) (dss_one (ds_ret (de_if (dt_chain .le .le (hu65 hr) (de_neg (de_glob T.g_MOST_STEP)) (de_var 2) (de_glob T.g_MOST_STEP)) (de_str) (de_non)))) (dss_nil))
  (dss_cons (ds_if (dt_c .in_ (hu65 hr) (de_var 1) (de_glob T.g_WEEKDAY_WORDS)) (dss_one (ds_ret (de_if (dt_chain .le .le (hu65 hr) (de_int) (de_var 2) (de_int)) (de_str) (de_non)))) (dss_nil))
  (dss_one (ds_ret (de_non))))))))))))
abbrev s_kind_of : Stmt := top 13
def N_kind_of : List Str := ["word", "kind"]
theorem sc_kind_of : FnScope N_kind_of ["word"] (defScope s_kind_of) := ⟨rfl, rfl, rfl, by decide +kernel, rfl, by decide +kernel, by decide +kernel⟩
theorem k_kind_of (T : Txt K mg C) (K_find_kind : Fk P w K mg base C "find_kind" 1 2 m_find_kind) : Fk P w K mg base C "kind_of" 1 3 m_kind_of := fk_of T.d_kind_of sc_kind_of [] (by decide) fun f cdv A outer s H E ad hr =>
  dss_cons (ds_set (i := 1) sc_kind_of.nd (de_call (K_find_kind.callee (hr.mono (by decide))) (takes_of rfl rfl rfl rfl) (dag_val (de_var 0) (dag_nil)) (many_val (many_nil))))
  (dss_cons (ds_if (dt_c .isN (hu65 hr) (de_var 1) (de_non)) (dss_one (ds_raise0 (c := 1) rfl (takes_of rfl rfl rfl rfl) (T.x_BadWord.pmk rfl))) (dss_nil))
  (dss_one (ds_ret (de_var 1))))
abbrev s_check_word : Stmt := top 14
def N_check_word : List Str := ["word"]
theorem sc_check_word : FnScope N_check_word ["word"] (defScope s_check_word) := ⟨rfl, rfl, rfl, by decide +kernel, rfl, by decide +kernel, by decide +kernel⟩
theorem k_check_word (T : Txt K mg C) (K_kind_of : Fk P w K mg base C "kind_of" 1 3 m_kind_of) : Fk P w K mg base C "check_word" 1 4 m_check_word := fk_of T.d_check_word sc_check_word [] (by decide) fun f cdv A outer s H E ad hr =>
  dss_cons (ds_expr (de_call (K_kind_of.callee (hr.mono (by decide))) (takes_of rfl rfl rfl rfl) (dag_val (de_var 0) (dag_nil)) (many_val (many_nil))))
  (dss_one (ds_ret (de_var 0)))
abbrev s_word_text : Stmt := top 22
def N_word_text : List Str := ["word", "head", "rest", "text"]
theorem sc_word_text : FnScope N_word_text ["word"] (defScope s_word_text) := ⟨rfl, rfl, rfl, by decide +kernel, rfl, by decide +kernel, by decide +kernel⟩
theorem k_word_text (T : Txt K mg C) (K_check_word : Fk P w K mg base C "check_word" 1 4 m_check_word) : Fk P w K mg base C "word_text" 1 5 m_word_text := fk_of T.d_word_text sc_word_text [] (by decide) fun f cdv A outer s H E ad hr =>
  dss_cons (ds_expr (de_call (K_check_word.callee (hr.mono (by decide))) (takes_of rfl rfl rfl rfl) (dag_val (de_var 0) (dag_nil)) (many_val (many_nil))))
  (dss_cons (ds_set (i := 1) sc_word_text.nd (de_ix (de_var 0) (de_int)))
  (dss_cons (ds_if (dt_c .eq (hu65 hr) (de_B cr_lenS vb_len rfl T.b_len (by decide +kernel) (da_cons (de_var 0) (da_nil))) (de_int)) (dss_one (ds_ret (de_ksubG T.t_SINGLE_TEXTS rfl (de_var 1)))) (dss_nil))
  (dss_cons (ds_set (i := 2) sc_word_text.nd (de_ix (de_var 0) (de_int)))
  (dss_cons (ds_if (dt_inK T.t_SIGNED_TEXTS rfl (de_var 1)) (dss_one (ds_ret (de_add (de_ksubG T.t_SIGNED_TEXTS rfl (de_var 1)) (de_T call_strA vb_strA rfl T.b_str (by decide +kernel) (da_cons (de_var 2) (da_nil)))))) (dss_nil))
  (dss_cons (ds_if (dt_inK T.t_WEEKDAY_TEXTS rfl (de_var 1)) (dss_one (ds_ret (de_add (de_ksubG T.t_WEEKDAY_TEXTS rfl (de_var 1)) (de_T call_strA vb_strA rfl T.b_str (by decide +kernel) (da_cons (de_var 2) (da_nil)))))) (dss_nil))
  (dss_cons (ds_set (i := 3) sc_word_text.nd (de_ksubG T.t_STEP_TEXTS rfl (de_var 1)))
  (dss_cons (ds_if (dt_c .eq (hu65 hr) (de_var 2) (de_int)) (dss_one (ds_ret (de_var 3))) (dss_nil))
  (dss_one (ds_ret (de_add (de_add (de_var 3) (de_if (dt_c .gt (hu65 hr) (de_var 2) (de_int)) (de_str) (de_str))) (de_T call_strA vb_strA rfl T.b_str (by decide +kernel) (da_cons (de_var 2) (da_nil)))))))))))))
abbrev s__law_written : Stmt := top 45
def N__law_written : List Str := ["_law_word_here", "_law_told"]
theorem sc__law_written : FnScope N__law_written ["_law_word_here"] (defScope s__law_written) := ⟨rfl, rfl, rfl, by decide +kernel, rfl, by decide +kernel, by decide +kernel⟩
theorem k__law_written (T : Txt K mg C) (K_word_text : Fk P w K mg base C "word_text" 1 5 m_word_text) : Fk P w K mg base C "_law_written" 1 6 m__law_written := fk_of T.d__law_written sc__law_written [] (by decide) fun f cdv A outer s H E ad hr =>
  dss_cons (ds_try (c := 1) rfl rfl (T.x_BadWord.names rfl) (takes_of rfl rfl rfl rfl) T.sb (fun W_ pn_ xe_ tk_ po_ => dss_one (ds_set (i := 1) sc__law_written.nd (de_call (K_word_text.callee (hr.mono (by decide))) tk_ (dag_val (de_var 0) (dag_nil)) (many_val (many_nil))))) (fun a_ oe_ pn_ => dss_one (ds_ret (de_non))))
  (dss_one (ds_ret (de_var 1)))
abbrev s__law_number : Stmt := top 46
def N__law_number : List Str := ["_law_text", "_law_figures", "_law_sign"]
theorem sc__law_number : FnScope N__law_number ["_law_text"] (defScope s__law_number) := ⟨rfl, rfl, rfl, by decide +kernel, rfl, by decide +kernel, by decide +kernel⟩
theorem k__law_number (T : Txt K mg C) : Fk P w K mg base C "_law_number" 1 1 m__law_number := fk_of T.d__law_number sc__law_number [] (by decide) fun f cdv A outer s H E ad hr =>
  dss_cons (ds_set (i := 1) sc__law_number.nd (de_if (dt_c .eq (hu65 hr) (de_sl (de_var 0) (do_none) (do_some (de_int))) (de_str)) (de_sl (de_var 0) (do_some (de_int)) (do_none)) (de_var 0)))
  (dss_cons (ds_if (dt_w (dw_or (dt_c .eq (hu65 hr) (de_B cr_lenS vb_len rfl T.b_len (by decide +kernel) (da_cons (de_var 1) (da_nil))) (de_int)) (dw_or (dt_c .gt (hu65 hr) (de_B cr_lenS vb_len rfl T.b_len (by decide +kernel) (da_cons (de_var 1) (da_nil))) (de_int)) (dw_or1 (dt_not (dt_tru (de_B (cr_all rfl) vb_all rfl T.b_all (by decide +kernel) (da_cons (de_of (df_lc (own := [("_law_sign", 2)]) (sl := [2]) rfl sc__law_number.nd (di_seq (de_var 1)) (blkOk_by (N := N__law_number) (sc := defScope s__law_number) (by decide +kernel)) (by decide) (fun _ _ _ _ _ => dg_name (i := 2) sc__law_number.nd rfl (by first | exact Or.inl rfl | exact Or.inr rfl) rfl) (fun _ _ _ _ _ => dts_nil) (fun _ _ _ _ _ => de_c .in_ (hu65 hr) (de_var 2) (de_str)))) (da_nil))))))))) (dss_one (ds_ret (de_non))) (dss_nil))
  (dss_cons (ds_if (dt_w (dw_and (dt_c .eq (hu65 hr) (de_ix (de_var 1) (de_int)) (de_str)) (dw_and1 (dt_c .ne (hu65 hr) (de_var 0) (de_str))))) (dss_one (ds_ret (de_non))) (dss_nil))
  (dss_one (ds_ret (de_T call_int_str vb_intT rfl T.b_int (by decide +kernel) (da_cons (de_var 0) (da_nil)))))))
abbrev s__law_word_text : Stmt := top 43
def N__law_word_text : List Str := ["_law_word_here", "_law_head"]
theorem sc__law_word_text : FnScope N__law_word_text ["_law_word_here"] (defScope s__law_word_text) := ⟨rfl, rfl, rfl, by decide +kernel, rfl, by decide +kernel, by decide +kernel⟩
theorem k__law_word_text (T : Txt K mg C) : Fk P w K mg base C "_law_word_text" 1 1 m__law_word_text := fk_of T.d__law_word_text sc__law_word_text [] (by decide) fun f cdv A outer s H E ad hr =>
  dss_ifg (dtg_c .eq (hu65 hr) (de_ix (de_var 0) (de_int))) (dssT_of (dss_one (ds_ret (de_str)))) (dssT_of (dss_nil))
  (dssT_cons (dst_of (ds_if (dt_c .eq (hu65 hr) (de_B cr_lenS vb_len rfl T.b_len (by decide +kernel) (da_cons (de_var 0) (da_nil))) (de_int)) (dss_one (ds_ret (de_ix (de_var 0) (de_int)))) (dss_nil)))
  (dssT_cons (dst_of (ds_if (dt_w (dw_or (dt_c .eq (hu65 hr) (de_ix (de_var 0) (de_int)) (de_str)) (dw_or (dt_c .eq (hu65 hr) (de_ix (de_var 0) (de_int)) (de_str)) (dw_or1 (dt_c .eq (hu65 hr) (de_ix (de_var 0) (de_int)) (de_str)))))) (dss_one (ds_ret (de_add (de_dis (hu_1 (hu65 hr)) (pps_cons pe_str pe_str (pps_cons pe_str pe_str (pps_cons pe_str pe_str pps_nil))) (de_ix (de_var 0) (de_int))) (de_T call_strA vb_strA rfl T.b_str (by decide +kernel) (da_cons (de_ix (de_var 0) (de_int)) (da_nil)))))) (dss_nil)))
  (dssT_cons (dst_of (ds_if (dt_w (dw_or (dt_c .eq (hu65 hr) (de_ix (de_var 0) (de_int)) (de_str)) (dw_or1 (dt_c .eq (hu65 hr) (de_ix (de_var 0) (de_int)) (de_str))))) (dss_cons (ds_set (i := 1) sc__law_word_text.nd (de_if (dt_c .eq (hu65 hr) (de_ix (de_var 0) (de_int)) (de_str)) (de_str) (de_str)))
  (dss_one (ds_ret (de_if (dt_c .eq (hu65 hr) (de_ix (de_var 0) (de_int)) (de_int)) (de_var 1) (de_add (de_add (de_var 1) (de_if (dt_c .gt (hu65 hr) (de_ix (de_var 0) (de_int)) (de_int)) (de_str) (de_str))) (de_T call_strA vb_strA rfl T.b_str (by decide +kernel) (da_cons (de_ix (de_var 0) (de_int)) (da_nil)))))))) (dss_nil)))
  (dssT_one (dst_ret (det_add (det_repl (de_ix (de_var 0) (de_int))) (det_of (de_T call_strA vb_strA rfl T.b_str (by decide +kernel) (da_cons (de_ix (de_var 0) (de_int)) (da_nil))))))))))
abbrev s__law_letters : Stmt := top 41
def N__law_letters : List Str := ["_law_thing", "_law_sign"]
theorem sc__law_letters : FnScope N__law_letters ["_law_thing"] (defScope s__law_letters) := ⟨rfl, rfl, rfl, by decide +kernel, rfl, by decide +kernel, by decide +kernel⟩
theorem k__law_letters (T : Txt K mg C) : Fk P w K mg base C "_law_letters" 1 1 m__law_letters := fk_of T.d__law_letters sc__law_letters [] (by decide) fun f cdv A outer s H E ad hr =>
  dss_one (ds_ret (de_and (de_isT (T := "str") rfl T.b_isinstance (by decide +kernel) rfl T.b_str (by decide +kernel) (de_var 0)) (de_and (de_chain .lt .lt (hu65 hr) (de_int) (de_B cr_lenS vb_len rfl T.b_len (by decide +kernel) (da_cons (de_var 0) (da_nil))) (de_int)) (de_one (de_B (cr_all rfl) vb_all rfl T.b_all (by decide +kernel) (da_cons (de_of (df_lc (own := [("_law_sign", 1)]) (sl := [1]) rfl sc__law_letters.nd (di_seq (de_var 0)) (blkOk_by (N := N__law_letters) (sc := defScope s__law_letters) (by decide +kernel)) (by decide) (fun _ _ _ _ _ => dg_name (i := 1) sc__law_letters.nd rfl (by first | exact Or.inl rfl | exact Or.inr rfl) rfl) (fun _ _ _ _ _ => dts_nil) (fun _ _ _ _ _ => de_c .in_ (hu65 hr) (de_var 1) (de_str)))) (da_nil)))))))
abbrev s__law_due : Stmt := top 47
def N__law_due : List Str := ["_law_text", "_law_word_here", "_law_number_here", "_law_head", "_law_weekday", "_law_step_here"]
theorem sc__law_due : FnScope N__law_due ["_law_text"] (defScope s__law_due) := ⟨rfl, rfl, rfl, by decide +kernel, rfl, by decide +kernel, by decide +kernel⟩
theorem k__law_due (T : Txt K mg C) (K__law_number : Fk P w K mg base C "_law_number" 1 1 m__law_number) (K__law_word_text : Fk P w K mg base C "_law_word_text" 1 1 m__law_word_text) (K__law_letters : Fk P w K mg base C "_law_letters" 1 1 m__law_letters) : Fk P w K mg base C "_law_due" 1 2 m__law_due := fk_of T.d__law_due sc__law_due [] (by decide) fun f cdv A outer s H E ad hr =>
  dss_cons (ds_for (passes_of rfl) rfl (di_seq (de_list (da_cons (de_tuple (da_cons (de_str) (da_nil))) (da_cons (de_tuple (da_cons (de_str) (da_nil))) (da_cons (de_tuple (da_cons (de_str) (da_nil))) (da_cons (de_tuple (da_cons (de_str) (da_nil))) (da_cons (de_tuple (da_cons (de_str) (da_nil))) (da_cons (de_tuple (da_cons (de_str) (da_nil))) (da_cons (de_tuple (da_cons (de_str) (da_nil))) (da_cons (de_tuple (da_cons (de_str) (da_nil))) (da_cons (de_tuple (da_cons (de_str) (da_nil))) (da_nil)))))))))))) (dg_name (i := 1) sc__law_due.nd rfl (by first | exact Or.inl rfl | exact Or.inr rfl) rfl) (dss_one (ds_if (dt_c .eq (hu65 hr) (de_var 0) (de_call (K__law_word_text.callee (hr.mono (by decide))) (takes_of rfl rfl rfl rfl) (dag_val (de_var 1) (dag_nil)) (many_val (many_nil)))) (dss_one (ds_ret (de_var 1))) (dss_nil))))
  (dss_cons (ds_if (dt_w (dw_or (dt_c .eq (hu65 hr) (de_sl (de_var 0) (do_none) (do_some (de_int))) (de_str)) (dw_or1 (dt_c .eq (hu65 hr) (de_sl (de_var 0) (do_none) (do_some (de_int))) (de_str))))) (dss_one (ds_ret (de_if (dt_tru (de_call (K__law_letters.callee (hr.mono (by decide))) (takes_of rfl rfl rfl rfl) (dag_val (de_sl (de_var 0) (do_some (de_int)) (do_none)) (dag_nil)) (many_val (many_nil)))) (de_tuple (da_cons (de_ixB (de_list (da_cons (de_str) (da_cons (de_str) (da_nil)))) (de_c .eq (hu65 hr) (de_ix (de_var 0) (de_int)) (de_str))) (da_cons (de_sl (de_var 0) (do_some (de_int)) (do_none)) (da_nil)))) (de_non)))) (dss_nil))
  (dss_ifg (dtg_c .eq (hu65 hr) (de_sl (de_var 0) (do_none) (do_some (de_int)))) (dssT_of (dss_cons (ds_set (i := 2) sc__law_due.nd (de_call (K__law_number.callee (hr.mono (by decide))) (takes_of rfl rfl rfl rfl) (dag_val (de_sl (de_var 0) (do_some (de_int)) (do_none)) (dag_nil)) (many_val (many_nil))))
  (dss_one (ds_ret (de_if (dt_c .isN (hu65 hr) (de_var 2) (de_non)) (de_non) (de_tuple (da_cons (de_str) (da_cons (de_var 2) (da_nil))))))))) (dssT_of (dss_nil))
  (dssT_cons (dst_for (passes_of rfl) rfl (di_seq (de_list (da_cons (de_str) (da_cons (de_str) (da_cons (de_str) (da_cons (de_str) (da_nil))))))) (dg_name (i := 3) sc__law_due.nd rfl (by first | exact Or.inl rfl | exact Or.inr rfl) rfl) (dssT_one (dst_for (passes_of rfl) rfl (di_rng1 rfl T.b_range (de_int)) (dg_name (i := 4) sc__law_due.nd rfl (by first | exact Or.inl rfl | exact Or.inr rfl) rfl) (dssT_one (dst_if (dtt_c .eq (hu65 hr) (det_of (de_var 0)) (det_add (det_repl (de_var 3)) (det_of (de_T call_strA vb_strA rfl T.b_str (by decide +kernel) (da_cons (de_var 4) (da_nil)))))) (dssT_one (dst_of (ds_ret (de_tuple (da_cons (de_var 3) (da_cons (de_var 4) (da_nil))))))) (dssT_nil))))))
  (dssT_cons (dst_of (ds_if (dt_w (dw_and (dt_c .ne (hu65 hr) (de_sl (de_var 0) (do_none) (do_some (de_int))) (de_str)) (dw_and1 (dt_c .ne (hu65 hr) (de_sl (de_var 0) (do_none) (do_some (de_int))) (de_str))))) (dss_one (ds_ret (de_non))) (dss_nil)))
  (dssT_cons (dst_of (ds_for (passes_of rfl) rfl (di_seq (de_list (da_cons (de_str) (da_cons (de_str) (da_nil))))) (dg_name (i := 3) sc__law_due.nd rfl (by first | exact Or.inl rfl | exact Or.inr rfl) rfl) (dss_one (ds_for (passes_of rfl) rfl (di_rng2 rfl T.b_range (de_neg (de_int)) (de_int)) (dg_name (i := 5) sc__law_due.nd rfl (by first | exact Or.inl rfl | exact Or.inr rfl) rfl) (dss_one (ds_if (dt_c .eq (hu65 hr) (de_var 0) (de_call (K__law_word_text.callee (hr.mono (by decide))) (takes_of rfl rfl rfl rfl) (dag_val (de_tuple (da_cons (de_var 3) (da_cons (de_var 5) (da_nil)))) (dag_nil)) (many_val (many_nil)))) (dss_one (ds_ret (de_tuple (da_cons (de_var 3) (da_cons (de_var 5) (da_nil)))))) (dss_nil)))))))
  (dssT_one (dst_of (ds_ret (de_non)))))))))
abbrev s_is_figures : Stmt := top 23
def N_is_figures : List Str := ["text", "sign"]
theorem sc_is_figures : FnScope N_is_figures ["text"] (defScope s_is_figures) := ⟨rfl, rfl, rfl, by decide +kernel, rfl, by decide +kernel, by decide +kernel⟩
theorem k_is_figures (T : Txt K mg C) : Fk P w K mg base C "is_figures" 1 1 m_is_figures := fk_of T.d_is_figures sc_is_figures [] (by decide) fun f cdv A outer s H E ad hr =>
  dss_cons (ds_if (dt_w (dw_or (dt_not (dt_chain .le .le (hu65 hr) (de_int) (de_B cr_lenS vb_len rfl T.b_len (by decide +kernel) (da_cons (de_var 0) (da_nil))) (de_glob T.g_MOST_FIGURES))) (dw_or1 (dt_not (dt_tru (de_B (cr_all rfl) vb_all rfl T.b_all (by decide +kernel) (da_cons (de_of (df_lc (own := [("sign", 1)]) (sl := [1]) rfl sc_is_figures.nd (di_seq (de_var 0)) (blkOk_by (N := N_is_figures) (sc := defScope s_is_figures) (by decide +kernel)) (by decide) (fun _ _ _ _ _ => dg_name (i := 1) sc_is_figures.nd rfl (by first | exact Or.inl rfl | exact Or.inr rfl) rfl) (fun _ _ _ _ _ => dts_nil) (fun _ _ _ _ _ => de_c .in_ (hu65 hr) (de_var 1) (de_str)))) (da_nil)))))))) (dss_one (ds_ret (de_bl))) (dss_nil))
  (dss_one (ds_ret (de_or (de_c .eq (hu65 hr) (de_var 0) (de_str)) (de_one (de_c .ne (hu65 hr) (de_ix (de_var 0) (de_int)) (de_str))))))
abbrev s_number_from : Stmt := top 24
def N_number_from : List Str := ["text"]
theorem sc_number_from : FnScope N_number_from ["text"] (defScope s_number_from) := ⟨rfl, rfl, rfl, by decide +kernel, rfl, by decide +kernel, by decide +kernel⟩
theorem k_number_from (T : Txt K mg C) (K_is_figures : Fk P w K mg base C "is_figures" 1 1 m_is_figures) : Fk P w K mg base C "number_from" 1 2 m_number_from := fk_of T.d_number_from sc_number_from [] (by decide) fun f cdv A outer s H E ad hr =>
  dss_cons (ds_if (dt_tru (de_call (K_is_figures.callee (hr.mono (by decide))) (takes_of rfl rfl rfl rfl) (dag_val (de_var 0) (dag_nil)) (many_val (many_nil)))) (dss_one (ds_ret (de_T call_int_str vb_intT rfl T.b_int (by decide +kernel) (da_cons (de_var 0) (da_nil))))) (dss_nil))
  (dss_cons (ds_if (dt_w (dw_and (dt_c .eq (hu65 hr) (de_sl (de_var 0) (do_none) (do_some (de_int))) (de_str)) (dw_and (dt_tru (de_call (K_is_figures.callee (hr.mono (by decide))) (takes_of rfl rfl rfl rfl) (dag_val (de_sl (de_var 0) (do_some (de_int)) (do_none)) (dag_nil)) (many_val (many_nil)))) (dw_and1 (dt_c .ne (hu65 hr) (de_var 0) (de_str)))))) (dss_one (ds_ret (de_neg (de_T call_int_str vb_intT rfl T.b_int (by decide +kernel) (da_cons (de_sl (de_var 0) (do_some (de_int)) (do_none)) (da_nil)))))) (dss_nil))
  (dss_one (ds_ret (de_non))))
abbrev s_find_signed : Stmt := top 25
def N_find_signed : List Str := ["text", "rest", "number"]
theorem sc_find_signed : FnScope N_find_signed ["text"] (defScope s_find_signed) := ⟨rfl, rfl, rfl, by decide +kernel, rfl, by decide +kernel, by decide +kernel⟩
theorem k_find_signed (T : Txt K mg C) (K_number_from : Fk P w K mg base C "number_from" 1 2 m_number_from) (K_is_name : Fk P w K mg base C "is_name" 1 1 m_is_name) : Fk P w K mg base C "find_signed" 1 3 m_find_signed := fk_of T.d_find_signed sc_find_signed [] (by decide) fun f cdv A outer s H E ad hr =>
  dss_cons (ds_set (i := 1) sc_find_signed.nd (de_sl (de_var 0) (do_some (de_int)) (do_none)))
  (dss_cons (ds_if (dt_c .eq (hu65 hr) (de_ix (de_var 0) (de_int)) (de_str)) (dss_cons (ds_set (i := 2) sc_find_signed.nd (de_call (K_number_from.callee (hr.mono (by decide))) (takes_of rfl rfl rfl rfl) (dag_val (de_var 1) (dag_nil)) (many_val (many_nil))))
  (dss_one (ds_ret (de_if (dt_c .isN (hu65 hr) (de_var 2) (de_non)) (de_non) (de_tuple (da_cons (de_str) (da_cons (de_var 2) (da_nil)))))))) (dss_nil))
  (dss_cons (ds_if (dt_not (dt_tru (de_call (K_is_name.callee (hr.mono (by decide))) (takes_of rfl rfl rfl rfl) (dag_val (de_var 1) (dag_nil)) (many_val (many_nil))))) (dss_one (ds_ret (de_non))) (dss_nil))
  (dss_one (ds_ret (de_if (dt_c .eq (hu65 hr) (de_ix (de_var 0) (de_int)) (de_str)) (de_tuple (da_cons (de_str) (da_cons (de_var 1) (da_nil)))) (de_tuple (da_cons (de_str) (da_cons (de_var 1) (da_nil)))))))))
abbrev s_find_word : Stmt := top 26
def N_find_word : List Str := ["text", "head", "start", "rest", "number", "word"]
theorem sc_find_word : FnScope N_find_word ["text"] (defScope s_find_word) := ⟨rfl, rfl, rfl, by decide +kernel, rfl, by decide +kernel, by decide +kernel⟩
theorem k_find_word (T : Txt K mg C) (K_find_signed : Fk P w K mg base C "find_signed" 1 3 m_find_signed) (K_number_from : Fk P w K mg base C "number_from" 1 2 m_number_from) (K_find_kind : Fk P w K mg base C "find_kind" 1 2 m_find_kind) : Fk P w K mg base C "find_word" 1 4 m_find_word := fk_of T.d_find_word sc_find_word [] (by decide) fun f cdv A outer s H E ad hr =>
  dss_cons (ds_if (dt_inK T.t_WORDS_OF_TEXTS rfl (de_var 0)) (dss_one (ds_ret (de_tuple (da_cons (de_ksubG T.t_WORDS_OF_TEXTS rfl (de_var 0)) (da_nil))))) (dss_nil))
  (dss_cons (ds_if (dt_c .in_ (hu65 hr) (de_sl (de_var 0) (do_none) (do_some (de_int))) (de_tuple (da_cons (de_str) (da_cons (de_str) (da_cons (de_str) (da_nil)))))) (dss_one (ds_ret (de_call (K_find_signed.callee (hr.mono (by decide))) (takes_of rfl rfl rfl rfl) (dag_val (de_var 0) (dag_nil)) (many_val (many_nil))))) (dss_nil))
  (dss_cons (ds_for (passes_of rfl) rfl (di_itK T.t_STEP_TEXTS rfl (by decide +kernel)) (dg_seq rfl (dgs_cons (dg_name (i := 1) sc_find_word.nd rfl (by first | exact Or.inl rfl | exact Or.inr rfl) rfl) (dgs_cons (dg_name (i := 2) sc_find_word.nd rfl (by first | exact Or.inl rfl | exact Or.inr rfl) rfl) (dgs_nil)))) (dss_cons (ds_if (dt_c .eq (hu65 hr) (de_var 0) (de_var 2)) (dss_one (ds_ret (de_tuple (da_cons (de_var 1) (da_cons (de_int) (da_nil)))))) (dss_nil))
  (dss_one (ds_if (dt_tru (de_stw (de_var 0) (de_var 2))) (dss_cons (ds_set (i := 3) sc_find_word.nd (de_sl (de_var 0) (do_some (de_B cr_lenS vb_len rfl T.b_len (by decide +kernel) (da_cons (de_var 2) (da_nil)))) (do_none)))
  (dss_cons (ds_set (i := 4) sc_find_word.nd (de_call (K_number_from.callee (hr.mono (by decide))) (takes_of rfl rfl rfl rfl) (dag_val (de_if (dt_c .eq (hu65 hr) (de_ix (de_var 3) (de_int)) (de_str)) (de_sl (de_var 3) (do_some (de_int)) (do_none)) (de_var 3)) (dag_nil)) (many_val (many_nil))))
  (dss_cons (ds_if (dt_w (dw_or (dt_c .isN (hu65 hr) (de_var 4) (de_non)) (dw_or (dt_c .eq (hu65 hr) (de_var 4) (de_int)) (dw_or1 (dt_c .ne (hu65 hr) (de_c .gt (hu65 hr) (de_var 4) (de_int)) (de_c .eq (hu65 hr) (de_ix (de_var 3) (de_int)) (de_str))))))) (dss_one (ds_ret (de_non))) (dss_nil))
  (dss_cons (ds_set (i := 5) sc_find_word.nd (de_tuple (da_cons (de_var 1) (da_cons (de_var 4) (da_nil)))))
  (dss_one (ds_ret (de_if (dt_c .isN (hu65 hr) (de_call (K_find_kind.callee (hr.mono (by decide))) (takes_of rfl rfl rfl rfl) (dag_val (de_var 5) (dag_nil)) (many_val (many_nil))) (de_non)) (de_non) (de_var 5)))))))) (dss_nil)))))
  (dss_cons (ds_for (passes_of rfl) rfl (di_itK T.t_WEEKDAY_TEXTS rfl (by decide +kernel)) (dg_seq rfl (dgs_cons (dg_name (i := 1) sc_find_word.nd rfl (by first | exact Or.inl rfl | exact Or.inr rfl) rfl) (dgs_cons (dg_name (i := 2) sc_find_word.nd rfl (by first | exact Or.inl rfl | exact Or.inr rfl) rfl) (dgs_nil)))) (dss_cons (ds_set (i := 3) sc_find_word.nd (de_sl (de_var 0) (do_some (de_B cr_lenS vb_len rfl T.b_len (by decide +kernel) (da_cons (de_var 2) (da_nil)))) (do_none)))
  (dss_one (ds_if (dt_w (dw_and (dt_tru (de_stw (de_var 0) (de_var 2))) (dw_and (dt_c .eq (hu65 hr) (de_B cr_lenS vb_len rfl T.b_len (by decide +kernel) (da_cons (de_var 3) (da_nil))) (de_int)) (dw_and1 (dt_c .in_ (hu65 hr) (de_var 3) (de_str)))))) (dss_one (ds_ret (de_tuple (da_cons (de_var 1) (da_cons (de_T call_int_str vb_intT rfl T.b_int (by decide +kernel) (da_cons (de_var 3) (da_nil))) (da_nil)))))) (dss_nil)))))
  (dss_one (ds_ret (de_non))))))
abbrev s_read_word : Stmt := top 27
def N_read_word : List Str := ["text", "word"]
theorem sc_read_word : FnScope N_read_word ["text"] (defScope s_read_word) := ⟨rfl, rfl, rfl, by decide +kernel, rfl, by decide +kernel, by decide +kernel⟩
theorem k_read_word (T : Txt K mg C) (K_find_word : Fk P w K mg base C "find_word" 1 4 m_find_word) (X_BadText : ExI P w K mg base (C 2) "BadText" ["position", "what"] 1) : Fk P w K mg base C "read_word" 1 5 m_read_word := fk_of T.d_read_word sc_read_word [] (by decide) fun f cdv A outer s H E ad hr =>
  dss_cons (ds_if (dt_not (dt_tru (de_isT (T := "str") rfl T.b_isinstance (by decide +kernel) rfl T.b_str (by decide +kernel) (de_var 0)))) (dss_one (ds_raiseF (c := 2) rfl (takes_of rfl rfl rfl rfl) X_BadText (hr.mono (by decide)) rfl T.x_BadText.raises (da_cons (de_int) (da_cons (de_str) (da_nil))))) (dss_nil))
  (dss_cons (ds_set (i := 1) sc_read_word.nd (de_call (K_find_word.callee (hr.mono (by decide))) (takes_of rfl rfl rfl rfl) (dag_val (de_var 0) (dag_nil)) (many_val (many_nil))))
  (dss_cons (ds_if (dt_c .isN (hu65 hr) (de_var 1) (de_non)) (dss_one (ds_raiseF (c := 2) rfl (takes_of rfl rfl rfl rfl) X_BadText (hr.mono (by decide)) rfl T.x_BadText.raises (da_cons (de_int) (da_cons (de_str) (da_nil))))) (dss_nil))
  (dss_one (ds_ret (de_var 1)))))
abbrev s__law_read : Stmt := top 44
def N__law_read : List Str := ["_law_text", "_law_told", "raised"]
theorem sc__law_read : FnScope N__law_read ["_law_text"] (defScope s__law_read) := ⟨rfl, rfl, rfl, by decide +kernel, rfl, by decide +kernel, by decide +kernel⟩
theorem k__law_read (T : Txt K mg C) (K_read_word : Fk P w K mg base C "read_word" 1 5 m_read_word) : Fk P w K mg base C "_law_read" 1 6 m__law_read := fk_of T.d__law_read sc__law_read [] (by decide) fun f cdv A outer s H E ad hr =>
  dss_cons (ds_try_as (c := 2) (i := 2) rfl rfl sc__law_read.nd (T.x_BadText.names rfl) (takes_of rfl rfl rfl rfl) T.sb (fun W_ pn_ xe_ tk_ po_ => dss_one (ds_set (i := 1) sc__law_read.nd (de_call (K_read_word.callee (hr.mono (by decide))) tk_ (dag_val (de_var 0) (dag_nil)) (many_val (many_nil))))) (fun ex_ a_ oe_ d_ pn_ G0_ hz_ hf_ er_ => dss_one (ds_ret (de_list (da_cons (de_str) (da_cons (de_xf (i := 2) T.xf_position hz_ hf_ er_) (da_cons (de_xf (i := 2) T.xf_what hz_ hf_ er_) (da_nil))))))))
  (dss_one (ds_ret (de_var 1)))
abbrev s__law_right : Stmt := top 49
def N__law_right : List Str := ["_law_text", "_law_due_here", "_law_told"]
theorem sc__law_right : FnScope N__law_right ["_law_text"] (defScope s__law_right) := ⟨rfl, rfl, rfl, by decide +kernel, rfl, by decide +kernel, by decide +kernel⟩
theorem k__law_right (T : Txt K mg C) (K__law_due : Fk P w K mg base C "_law_due" 1 2 m__law_due) (K__law_read : Fk P w K mg base C "_law_read" 1 6 m__law_read) (K__law_written : Fk P w K mg base C "_law_written" 1 6 m__law_written) : Fk P w K mg base C "_law_right" 1 7 m__law_right := fk_of T.d__law_right sc__law_right [] (by decide) fun f cdv A outer s H E ad hr =>
  dss_cons (ds_set (i := 1) sc__law_right.nd (de_call (K__law_due.callee (hr.mono (by decide))) (takes_of rfl rfl rfl rfl) (dag_val (de_var 0) (dag_nil)) (many_val (many_nil))))
  (dss_cons (ds_set (i := 2) sc__law_right.nd (de_call (K__law_read.callee (hr.mono (by decide))) (takes_of rfl rfl rfl rfl) (dag_val (de_var 0) (dag_nil)) (many_val (many_nil))))
  (dss_cons (ds_if (dt_c .isN (hu65 hr) (de_var 1) (de_non)) (dss_one (ds_ret (de_c .eq (hu65 hr) (de_var 2) (de_list (da_cons (de_str) (da_cons (de_int) (da_cons (de_str) (da_nil)))))))) (dss_nil))
  (dss_one (ds_ret (de_and (de_c .eq (hu65 hr) (de_var 2) (de_var 1)) (de_and (de_isT (T := "tuple") rfl T.b_isinstance (by decide +kernel) rfl T.b_tuple (by decide +kernel) (de_var 2)) (de_one (de_c .eq (hu65 hr) (de_call (K__law_written.callee (hr.mono (by decide))) (takes_of rfl rfl rfl rfl) (dag_val (de_var 1) (dag_nil)) (many_val (many_nil))) (de_var 0)))))))))
abbrev s__law_person : Stmt := top 37
def N__law_person : List Str := ["_law_hand_here", "_law_world_here", "_law_inner", "_law_way"]
theorem sc__law_person : FnScope N__law_person ["_law_hand_here", "_law_world_here", "_law_inner"] (defScope s__law_person) := ⟨rfl, rfl, rfl, by decide +kernel, rfl, by decide +kernel, by decide +kernel⟩
theorem k__law_person (T : Txt K mg C) (K__law_take : Fk P w K mg base C "_law_take" 2 2 m__law_take) : Fk P w K mg base C "_law_person" 3 3 m__law_person := fk_of T.d__law_person sc__law_person [0] (by decide) fun f cdv A outer s H E ad hr =>
  dss_cons (ds_set (i := 3) sc__law_person.nd (de_call (K__law_take.callee (hr.mono (by decide))) (takes_of rfl rfl rfl rfl) (dag_io 0 (dag_val (de_if (dt_tru (de_var 2)) (de_int) (de_int)) (dag_nil))) (many_io (many_val (many_nil)))))
  (dss_cons (ds_if (dt_w (dw_or (dt_c .eq (hu65 hr) (de_var 3) (de_int)) (dw_or1 (dt_c .eq (hu65 hr) (de_var 3) (de_int))))) (dss_one (ds_ret (de_tuple (da_cons (de_str) (da_cons (de_ix (de_ix (de_var 1) (de_int)) (de_call (K__law_take.callee (hr.mono (by decide))) (takes_of rfl rfl rfl rfl) (dag_io 0 (dag_val (de_B cr_lenS vb_len rfl T.b_len (by decide +kernel) (da_cons (de_ix (de_var 1) (de_int)) (da_nil))) (dag_nil))) (many_io (many_val (many_nil))))) (da_nil)))))) (dss_nil))
  (dss_one (ds_ret (de_ix (de_list (da_cons (de_tuple (da_cons (de_str) (da_nil))) (da_cons (de_tuple (da_cons (de_str) (da_nil))) (da_cons (de_str) (da_cons (de_str) (da_cons (de_tuple (da_cons (de_str) (da_nil))) (da_cons (de_tuple (da_cons (de_str) (da_nil))) (da_nil)))))))) (de_var 3)))))
abbrev s__law_place : Stmt := top 39
def N__law_place : List Str := ["_law_hand_here", "_law_world_here", "_law_inner", "_law_way"]
theorem sc__law_place : FnScope N__law_place ["_law_hand_here", "_law_world_here", "_law_inner"] (defScope s__law_place) := ⟨rfl, rfl, rfl, by decide +kernel, rfl, by decide +kernel, by decide +kernel⟩
theorem k__law_place (T : Txt K mg C) (K__law_take : Fk P w K mg base C "_law_take" 2 2 m__law_take) : Fk P w K mg base C "_law_place" 3 3 m__law_place := fk_of T.d__law_place sc__law_place [0] (by decide) fun f cdv A outer s H E ad hr =>
  dss_cons (ds_set (i := 3) sc__law_place.nd (de_call (K__law_take.callee (hr.mono (by decide))) (takes_of rfl rfl rfl rfl) (dag_io 0 (dag_val (de_if (dt_tru (de_var 2)) (de_int) (de_int)) (dag_nil))) (many_io (many_val (many_nil)))))
  (dss_cons (ds_if (dt_c .eq (hu65 hr) (de_var 3) (de_int)) (dss_one (ds_ret (de_tuple (da_cons (de_str) (da_nil))))) (dss_nil))
  (dss_one (ds_ret (de_if (dt_c .eq (hu65 hr) (de_var 3) (de_int)) (de_tuple (da_cons (de_str) (da_nil))) (de_tuple (da_cons (de_str) (da_cons (de_ix (de_ix (de_var 1) (de_int)) (de_call (K__law_take.callee (hr.mono (by decide))) (takes_of rfl rfl rfl rfl) (dag_io 0 (dag_val (de_B cr_lenS vb_len rfl T.b_len (by decide +kernel) (da_cons (de_ix (de_var 1) (de_int)) (da_nil))) (dag_nil))) (many_io (many_val (many_nil))))) (da_nil))))))))
abbrev s__law_step : Stmt := top 35
def N__law_step : List Str := ["_law_hand_here"]
theorem sc__law_step : FnScope N__law_step ["_law_hand_here"] (defScope s__law_step) := ⟨rfl, rfl, rfl, by decide +kernel, rfl, by decide +kernel, by decide +kernel⟩
theorem k__law_step (T : Txt K mg C) (K__law_take : Fk P w K mg base C "_law_take" 2 2 m__law_take) : Fk P w K mg base C "_law_step" 1 3 m__law_step := fk_of T.d__law_step sc__law_step [0] (by decide) fun f cdv A outer s H E ad hr =>
  dss_one (ds_ret (de_if (dt_c .eq (hu65 hr) (de_call (K__law_take.callee (hr.mono (by decide))) (takes_of rfl rfl rfl rfl) (dag_io 0 (dag_val (de_int) (dag_nil))) (many_io (many_val (many_nil)))) (de_int)) (de_sub (de_call (K__law_take.callee (hr.mono (by decide))) (takes_of rfl rfl rfl rfl) (dag_io 0 (dag_val (de_int) (dag_nil))) (many_io (many_val (many_nil)))) (de_int)) (de_sub (de_call (K__law_take.callee (hr.mono (by decide))) (takes_of rfl rfl rfl rfl) (dag_io 0 (dag_val (de_int) (dag_nil))) (many_io (many_val (many_nil)))) (de_int))))
abbrev s__law_date : Stmt := top 36
def N__law_date : List Str := ["_law_hand_here"]
theorem sc__law_date : FnScope N__law_date ["_law_hand_here"] (defScope s__law_date) := ⟨rfl, rfl, rfl, by decide +kernel, rfl, by decide +kernel, by decide +kernel⟩
theorem k__law_date (T : Txt K mg C) (K__law_take : Fk P w K mg base C "_law_take" 2 2 m__law_take) : Fk P w K mg base C "_law_date" 1 3 m__law_date := fk_of T.d__law_date sc__law_date [0] (by decide) fun f cdv A outer s H E ad hr =>
  dss_one (ds_ret (de_if (dt_c .eq (hu65 hr) (de_call (K__law_take.callee (hr.mono (by decide))) (takes_of rfl rfl rfl rfl) (dag_io 0 (dag_val (de_int) (dag_nil))) (many_io (many_val (many_nil)))) (de_int)) (de_sub (de_call (K__law_take.callee (hr.mono (by decide))) (takes_of rfl rfl rfl rfl) (dag_io 0 (dag_val (de_mul (de_int) (de_pow (de_int) (de_int))) (dag_nil))) (many_io (many_val (many_nil)))) (de_pow (de_int) (de_int))) (de_sub (de_call (K__law_take.callee (hr.mono (by decide))) (takes_of rfl rfl rfl rfl) (dag_io 0 (dag_val (de_int) (dag_nil))) (many_io (many_val (many_nil)))) (de_int))))
abbrev s__law_day : Stmt := top 38
def N__law_day : List Str := ["_law_hand_here", "_law_inner", "_law_way"]
theorem sc__law_day : FnScope N__law_day ["_law_hand_here", "_law_inner"] (defScope s__law_day) := ⟨rfl, rfl, rfl, by decide +kernel, rfl, by decide +kernel, by decide +kernel⟩
theorem k__law_day (T : Txt K mg C) (K__law_take : Fk P w K mg base C "_law_take" 2 2 m__law_take) (K__law_step : Fk P w K mg base C "_law_step" 1 3 m__law_step) (K__law_date : Fk P w K mg base C "_law_date" 1 3 m__law_date) : Fk P w K mg base C "_law_day" 2 4 m__law_day := fk_of T.d__law_day sc__law_day [0] (by decide) fun f cdv A outer s H E ad hr =>
  dss_cons (ds_set (i := 2) sc__law_day.nd (de_call (K__law_take.callee (hr.mono (by decide))) (takes_of rfl rfl rfl rfl) (dag_io 0 (dag_val (de_if (dt_tru (de_var 1)) (de_int) (de_int)) (dag_nil))) (many_io (many_val (many_nil)))))
  (dss_cons (ds_if (dt_c .lt (hu65 hr) (de_var 2) (de_int)) (dss_one (ds_ret (de_tuple (da_cons (de_str) (da_cons (de_call (K__law_step.callee (hr.mono (by decide))) (takes_of rfl rfl rfl rfl) (dag_io 0 (dag_nil)) (many_io (many_nil))) (da_nil)))))) (dss_nil))
  (dss_cons (ds_if (dt_c .eq (hu65 hr) (de_var 2) (de_int)) (dss_one (ds_ret (de_tuple (da_cons (de_str) (da_cons (de_call (K__law_date.callee (hr.mono (by decide))) (takes_of rfl rfl rfl rfl) (dag_io 0 (dag_nil)) (many_io (many_nil))) (da_nil)))))) (dss_nil))
  (dss_cons (ds_if (dt_w (dw_or (dt_c .eq (hu65 hr) (de_var 2) (de_int)) (dw_or1 (dt_c .eq (hu65 hr) (de_var 2) (de_int))))) (dss_one (ds_ret (de_tuple (da_cons (de_str) (da_cons (de_call (K__law_step.callee (hr.mono (by decide))) (takes_of rfl rfl rfl rfl) (dag_io 0 (dag_nil)) (many_io (many_nil))) (da_nil)))))) (dss_nil))
  (dss_one (ds_ret (de_tuple (da_cons (de_ix (de_list (da_cons (de_str) (da_cons (de_str) (da_cons (de_str) (da_cons (de_str) (da_cons (de_str) (da_cons (de_str) (da_cons (de_str) (da_cons (de_str) (da_cons (de_str) (da_cons (de_str) (da_nil)))))))))))) (de_var 2)) (da_cons (de_call (K__law_take.callee (hr.mono (by decide))) (takes_of rfl rfl rfl rfl) (dag_io 0 (dag_val (de_int) (dag_nil))) (many_io (many_val (many_nil)))) (da_nil)))))))))
abbrev s__law_word : Stmt := top 40
def N__law_word : List Str := ["_law_hand_here", "_law_world_here", "_law_inner", "_law_way"]
theorem sc__law_word : FnScope N__law_word ["_law_hand_here", "_law_world_here", "_law_inner"] (defScope s__law_word) := ⟨rfl, rfl, rfl, by decide +kernel, rfl, by decide +kernel, by decide +kernel⟩
theorem k__law_word (T : Txt K mg C) (K__law_take : Fk P w K mg base C "_law_take" 2 2 m__law_take) (K__law_person : Fk P w K mg base C "_law_person" 3 3 m__law_person) (K__law_place : Fk P w K mg base C "_law_place" 3 3 m__law_place) (K__law_day : Fk P w K mg base C "_law_day" 2 4 m__law_day) : Fk P w K mg base C "_law_word" 3 5 m__law_word := fk_of T.d__law_word sc__law_word [0] (by decide) fun f cdv A outer s H E ad hr =>
  dss_cons (ds_set (i := 3) sc__law_word.nd (de_call (K__law_take.callee (hr.mono (by decide))) (takes_of rfl rfl rfl rfl) (dag_io 0 (dag_val (de_int) (dag_nil))) (many_io (many_val (many_nil)))))
  (dss_cons (ds_if (dt_c .eq (hu65 hr) (de_var 3) (de_int)) (dss_one (ds_ret (de_call (K__law_person.callee (hr.mono (by decide))) (takes_of rfl rfl rfl rfl) (dag_io 0 (dag_val (de_var 1) (dag_val (de_var 2) (dag_nil)))) (many_io (many_val (many_val (many_nil))))))) (dss_nil))
  (dss_one (ds_ret (de_if (dt_c .eq (hu65 hr) (de_var 3) (de_int)) (de_call (K__law_place.callee (hr.mono (by decide))) (takes_of rfl rfl rfl rfl) (dag_io 0 (dag_val (de_var 1) (dag_val (de_var 2) (dag_nil)))) (many_io (many_val (many_val (many_nil))))) (de_call (K__law_day.callee (hr.mono (by decide))) (takes_of rfl rfl rfl rfl) (dag_io 0 (dag_val (de_var 2) (dag_nil))) (many_io (many_val (many_nil))))))))
abbrev s__law_odd_word : Stmt := top 42
def N__law_odd_word : List Str := ["_law_hand_here", "_law_way"]
theorem sc__law_odd_word : FnScope N__law_odd_word ["_law_hand_here"] (defScope s__law_odd_word) := ⟨rfl, rfl, rfl, by decide +kernel, rfl, by decide +kernel, by decide +kernel⟩
theorem k__law_odd_word (T : Txt K mg C) (K__law_take : Fk P w K mg base C "_law_take" 2 2 m__law_take) : Fk P w K mg base C "_law_odd_word" 1 3 m__law_odd_word := fk_of T.d__law_odd_word sc__law_odd_word [0] (by decide) fun f cdv A outer s H E ad hr =>
  dss_cons (ds_set (i := 1) sc__law_odd_word.nd (de_call (K__law_take.callee (hr.mono (by decide))) (takes_of rfl rfl rfl rfl) (dag_io 0 (dag_val (de_int) (dag_nil))) (many_io (many_val (many_nil)))))
  (dss_cons (ds_if (dt_c .lt (hu65 hr) (de_var 1) (de_int)) (dss_one (ds_ret (de_ix (de_list (da_cons (de_non) (da_cons (de_bl) (da_cons (de_int) (da_cons (de_str) (da_cons (de_list (da_cons (de_str) (da_nil))) (da_cons (de_tuple (da_cons (de_str) (da_cons (de_str) (da_nil)))) (da_cons (de_tuple (da_nil)) (da_cons (de_tuple (da_cons (de_str) (da_nil))) (da_cons (de_tuple (da_cons (de_str) (da_nil))) (da_cons (de_tuple (da_cons (de_str) (da_cons (de_int) (da_nil)))) (da_nil)))))))))))) (de_var 1)))) (dss_nil))
  (dss_cons (ds_if (dt_c .lt (hu65 hr) (de_var 1) (de_int)) (dss_one (ds_ret (de_ix (de_list (da_cons (de_tuple (da_cons (de_str) (da_cons (de_neg (de_int)) (da_nil)))) (da_cons (de_tuple (da_cons (de_str) (da_cons (de_int) (da_nil)))) (da_cons (de_tuple (da_cons (de_str) (da_cons (de_neg (de_int)) (da_nil)))) (da_cons (de_tuple (da_cons (de_str) (da_cons (de_str) (da_nil)))) (da_cons (de_tuple (da_cons (de_str) (da_cons (de_str) (da_nil)))) (da_nil))))))) (de_sub (de_var 1) (de_int))))) (dss_nil))
  (dss_one (ds_ret (de_ix (de_list (da_cons (de_tuple (da_cons (de_str) (da_cons (de_str) (da_nil)))) (da_cons (de_tuple (da_cons (de_str) (da_cons (de_str) (da_nil)))) (da_cons (de_tuple (da_cons (de_str) (da_cons (de_non) (da_nil)))) (da_cons (de_tuple (da_cons (de_int) (da_nil))) (da_cons (de_tuple (da_cons (de_str) (da_cons (de_int) (da_nil)))) (da_nil))))))) (de_sub (de_var 1) (de_int)))))))
abbrev s__law_near : Stmt := top 48
def N__law_near : List Str := ["_law_hand_here", "_law_text", "_law_place_here", "_law_sign", "_law_way"]
theorem sc__law_near : FnScope N__law_near ["_law_hand_here", "_law_text"] (defScope s__law_near) := ⟨rfl, rfl, rfl, by decide +kernel, rfl, by decide +kernel, by decide +kernel⟩
theorem k__law_near (T : Txt K mg C) (K__law_take : Fk P w K mg base C "_law_take" 2 2 m__law_take) : Fk P w K mg base C "_law_near" 2 3 m__law_near := fk_of T.d__law_near sc__law_near [0] (by decide) fun f cdv A outer s H E ad hr =>
  dss_cons (ds_set (i := 2) sc__law_near.nd (de_call (K__law_take.callee (hr.mono (by decide))) (takes_of rfl rfl rfl rfl) (dag_io 0 (dag_val (de_add (de_B cr_lenS vb_len rfl T.b_len (by decide +kernel) (da_cons (de_var 1) (da_nil))) (de_int)) (dag_nil))) (many_io (many_val (many_nil)))))
  (dss_cons (ds_set (i := 3) sc__law_near.nd (de_ix (de_str) (de_call (K__law_take.callee (hr.mono (by decide))) (takes_of rfl rfl rfl rfl) (dag_io 0 (dag_val (de_int) (dag_nil))) (many_io (many_val (many_nil))))))
  (dss_cons (ds_set (i := 4) sc__law_near.nd (de_call (K__law_take.callee (hr.mono (by decide))) (takes_of rfl rfl rfl rfl) (dag_io 0 (dag_val (de_int) (dag_nil))) (many_io (many_val (many_nil)))))
  (dss_cons (ds_if (dt_c .eq (hu65 hr) (de_var 4) (de_int)) (dss_one (ds_ret (de_add (de_add (de_sl (de_var 1) (do_none) (do_some (de_var 2))) (de_var 3)) (de_sl (de_var 1) (do_some (de_var 2)) (do_none))))) (dss_nil))
  (dss_cons (ds_if (dt_c .eq (hu65 hr) (de_var 4) (de_int)) (dss_one (ds_ret (de_add (de_sl (de_var 1) (do_none) (do_some (de_var 2))) (de_sl (de_var 1) (do_some (de_add (de_var 2) (de_int))) (do_none))))) (dss_nil))
  (dss_one (ds_ret (de_if (dt_c .eq (hu65 hr) (de_var 4) (de_int)) (de_add (de_add (de_sl (de_var 1) (do_none) (do_some (de_var 2))) (de_var 3)) (de_sl (de_var 1) (do_some (de_add (de_var 2) (de_int))) (do_none))) (de_add (de_var 1) (de_sl (de_var 1) (do_some (de_var 2)) (do_none))))))))))
abbrev s_law : Stmt := top 50
def N_law : List Str := ["_law_script", "_law_hand_here", "_law_world_here", "_law_turn", "_law_word_here", "_law_text", "_law_head", "_law_number_here", "_law_figure", "_law_rest", "_law_many", "_law_thing"]
theorem sc_law : FnScope N_law ["_law_script"] (defScope s_law) := ⟨rfl, rfl, rfl, by decide +kernel, rfl, by decide +kernel, by decide +kernel⟩
theorem k_law (T : Txt K mg C) (K__law_hand : Fk P w K mg base C "_law_hand" 1 1 m__law_hand) (K__law_world : Fk P w K mg base C "_law_world" 1 5 m__law_world) (K__law_written : Fk P w K mg base C "_law_written" 1 6 m__law_written) (K__law_take : Fk P w K mg base C "_law_take" 2 2 m__law_take) (K__law_right : Fk P w K mg base C "_law_right" 1 7 m__law_right) (K__law_read : Fk P w K mg base C "_law_read" 1 6 m__law_read) (K__law_word : Fk P w K mg base C "_law_word" 3 5 m__law_word) (K__law_word_text : Fk P w K mg base C "_law_word_text" 1 1 m__law_word_text) (K__law_odd_word : Fk P w K mg base C "_law_odd_word" 1 3 m__law_odd_word) (K__law_name : Fk P w K mg base C "_law_name" 1 3 m__law_name) (K__law_near : Fk P w K mg base C "_law_near" 2 3 m__law_near) : FnOk P w K mg base (L2.CX P w) 8 T.d_law.f T.d_law.fd ["_law_script"] (spF K C 1 m_law) := fnok_of T.d_law sc_law [] (by decide) fun f cdv A outer s H E ad hr =>
  dss_cons (ds_own (i := 1) sc_law.nd (df_call (K__law_hand.callee (hr.mono (by decide))) (takes_of rfl rfl rfl rfl) (dag_val (de_var 0) (dag_nil)) (many_val (many_nil))))
  (dss_cons (ds_set (i := 2) sc_law.nd (de_call (K__law_world.callee (hr.mono (by decide))) (takes_of rfl rfl rfl rfl) (dag_io 1 (dag_nil)) (many_io (many_nil))))
  (dss_cons (ds_for (passes_of rfl) rfl (di_rng1 rfl T.b_range (de_int)) (dg_name (i := 3) sc_law.nd rfl (by first | exact Or.inl rfl | exact Or.inr rfl) rfl) (dss_cons (ds_set (i := 4) sc_law.nd (de_ix (de_list (da_cons (de_call (K__law_word.callee (hr.mono (by decide))) (takes_of rfl rfl rfl rfl) (dag_io 1 (dag_val (de_var 2) (dag_val (de_bl) (dag_nil)))) (many_io (many_val (many_val (many_nil))))) (da_cons (de_tuple (da_cons (de_str) (da_nil))) (da_cons (de_tuple (da_cons (de_str) (da_nil))) (da_cons (de_tuple (da_cons (de_str) (da_nil))) (da_cons (de_tuple (da_cons (de_str) (da_cons (de_sub (de_call (K__law_take.callee (hr.mono (by decide))) (takes_of rfl rfl rfl rfl) (dag_io 1 (dag_val (de_mul (de_int) (de_pow (de_int) (de_int))) (dag_nil))) (many_io (many_val (many_nil)))) (de_pow (de_int) (de_int))) (da_nil)))) (da_cons (de_tuple (da_cons (de_str) (da_cons (de_call (K__law_name.callee (hr.mono (by decide))) (takes_of rfl rfl rfl rfl) (dag_io 1 (dag_nil)) (many_io (many_nil))) (da_nil)))) (da_nil)))))))) (de_call (K__law_take.callee (hr.mono (by decide))) (takes_of rfl rfl rfl rfl) (dag_io 1 (dag_val (de_int) (dag_nil))) (many_io (many_val (many_nil))))))
  (dss_cons (ds_set (i := 5) sc_law.nd (de_call (K__law_written.callee (hr.mono (by decide))) (takes_of rfl rfl rfl rfl) (dag_val (de_var 4) (dag_nil)) (many_val (many_nil))))
  (dss_cons (ds_if (dt_w (dw_or (dt_c .ne (hu65 hr) (de_var 5) (de_call (K__law_word_text.callee (hr.mono (by decide))) (takes_of rfl rfl rfl rfl) (dag_val (de_var 4) (dag_nil)) (many_val (many_nil)))) (dw_or (dt_not (dt_tru (de_isT (T := "str") rfl T.b_isinstance (by decide +kernel) rfl T.b_str (by decide +kernel) (de_var 5)))) (dw_or1 (dt_c .ne (hu65 hr) (de_call (K__law_read.callee (hr.mono (by decide))) (takes_of rfl rfl rfl rfl) (dag_val (de_var 5) (dag_nil)) (many_val (many_nil))) (de_var 4)))))) (dss_one (ds_ret (de_bl))) (dss_nil))
  (dss_cons (ds_if (dt_w (dw_or (dt_not (dt_tru (de_call (K__law_right.callee (hr.mono (by decide))) (takes_of rfl rfl rfl rfl) (dag_val (de_call (K__law_near.callee (hr.mono (by decide))) (takes_of rfl rfl rfl rfl) (dag_io 1 (dag_val (de_var 5) (dag_nil))) (many_io (many_val (many_nil)))) (dag_nil)) (many_val (many_nil))))) (dw_or1 (dt_not (dt_tru (de_call (K__law_right.callee (hr.mono (by decide))) (takes_of rfl rfl rfl rfl) (dag_val (de_call (K__law_near.callee (hr.mono (by decide))) (takes_of rfl rfl rfl rfl) (dag_io 1 (dag_val (de_call (K__law_near.callee (hr.mono (by decide))) (takes_of rfl rfl rfl rfl) (dag_io 1 (dag_val (de_var 5) (dag_nil))) (many_io (many_val (many_nil)))) (dag_nil))) (many_io (many_val (many_nil)))) (dag_nil)) (many_val (many_nil)))))))) (dss_one (ds_ret (de_bl))) (dss_nil))
  (dss_one (ds_if (dt_c .notN (hu65 hr) (de_call (K__law_written.callee (hr.mono (by decide))) (takes_of rfl rfl rfl rfl) (dag_val (de_call (K__law_odd_word.callee (hr.mono (by decide))) (takes_of rfl rfl rfl rfl) (dag_io 1 (dag_nil)) (many_io (many_nil))) (dag_nil)) (many_val (many_nil))) (de_non)) (dss_one (ds_ret (de_bl))) (dss_nil))))))))
  (dss_cons (ds_for (passes_of rfl) rfl (di_seq (de_list (da_cons (de_str) (da_cons (de_str) (da_cons (de_str) (da_cons (de_str) (da_cons (de_str) (da_cons (de_str) (da_cons (de_str) (da_cons (de_str) (da_cons (de_str) (da_cons (de_str) (da_cons (de_str) (da_cons (de_str) (da_cons (de_str) (da_cons (de_str) (da_cons (de_str) (da_nil)))))))))))))))))) (dg_name (i := 6) sc_law.nd rfl (by first | exact Or.inl rfl | exact Or.inr rfl) rfl) (dss_cons (ds_set (i := 7) sc_law.nd (de_call (K__law_take.callee (hr.mono (by decide))) (takes_of rfl rfl rfl rfl) (dag_io 1 (dag_val (de_int) (dag_nil))) (many_io (many_val (many_nil)))))
  (dss_one (ds_for (passes_of rfl) rfl (di_seq (de_list (da_cons (de_var 6) (da_cons (de_add (de_var 6) (de_T call_strA vb_strA rfl T.b_str (by decide +kernel) (da_cons (de_var 7) (da_nil)))) (da_cons (de_add (de_add (de_var 6) (de_str)) (de_T call_strA vb_strA rfl T.b_str (by decide +kernel) (da_cons (de_var 7) (da_nil)))) (da_cons (de_add (de_var 6) (de_str)) (da_cons (de_add (de_var 6) (de_str)) (da_cons (de_add (de_var 6) (de_ix (de_ix (de_var 2) (de_int)) (de_int))) (da_cons (de_add (de_str) (de_var 6)) (da_nil)))))))))) (dg_name (i := 5) sc_law.nd rfl (by first | exact Or.inl rfl | exact Or.inr rfl) rfl) (dss_one (ds_if (dt_not (dt_tru (de_call (K__law_right.callee (hr.mono (by decide))) (takes_of rfl rfl rfl rfl) (dag_val (de_var 5) (dag_nil)) (many_val (many_nil))))) (dss_one (ds_ret (de_bl))) (dss_nil)))))))
  (dss_cons (ds_set (i := 8) sc_law.nd (de_ix (de_str) (de_call (K__law_take.callee (hr.mono (by decide))) (takes_of rfl rfl rfl rfl) (dag_io 1 (dag_val (de_int) (dag_nil))) (many_io (many_val (many_nil))))))
  (dss_cons (ds_set (i := 9) sc_law.nd (de_mulS (de_add (de_add (de_ix (de_str) (de_call (K__law_take.callee (hr.mono (by decide))) (takes_of rfl rfl rfl rfl) (dag_io 1 (dag_val (de_int) (dag_nil))) (many_io (many_val (many_nil))))) (de_ix (de_str) (de_call (K__law_take.callee (hr.mono (by decide))) (takes_of rfl rfl rfl rfl) (dag_io 1 (dag_val (de_int) (dag_nil))) (many_io (many_val (many_nil)))))) (de_ix (de_str) (de_call (K__law_take.callee (hr.mono (by decide))) (takes_of rfl rfl rfl rfl) (dag_io 1 (dag_val (de_int) (dag_nil))) (many_io (many_val (many_nil)))))) (de_int)))
  (dss_cons (ds_for (passes_of rfl) rfl (di_seq (de_list (da_cons (de_add (de_add (de_str) (de_var 8)) (de_var 9)) (da_cons (de_add (de_add (de_str) (de_var 8)) (de_var 9)) (da_cons (de_add (de_add (de_add (de_str) (de_var 8)) (de_var 9)) (de_str)) (da_cons (de_add (de_add (de_add (de_str) (de_var 8)) (de_var 9)) (de_str)) (da_cons (de_add (de_str) (de_var 9)) (da_cons (de_add (de_str) (de_var 9)) (da_nil))))))))) (dg_name (i := 5) sc_law.nd rfl (by first | exact Or.inl rfl | exact Or.inr rfl) rfl) (dss_one (ds_if (dt_not (dt_tru (de_call (K__law_right.callee (hr.mono (by decide))) (takes_of rfl rfl rfl rfl) (dag_val (de_var 5) (dag_nil)) (many_val (many_nil))))) (dss_one (ds_ret (de_bl))) (dss_nil))))
  (dss_cons (ds_set (i := 10) sc_law.nd (de_add (de_int) (de_call (K__law_take.callee (hr.mono (by decide))) (takes_of rfl rfl rfl rfl) (dag_io 1 (dag_val (de_int) (dag_nil))) (many_io (many_val (many_nil))))))
  (dss_cons (ds_for (passes_of rfl) rfl (di_seq (de_list (da_cons (de_add (de_str) (de_mulS (de_var 8) (de_var 10))) (da_cons (de_add (de_str) (de_mulS (de_var 8) (de_var 10))) (da_cons (de_add (de_str) (de_mulS (de_var 8) (de_var 10))) (da_cons (de_add (de_str) (de_mulS (de_var 8) (de_var 10))) (da_nil))))))) (dg_name (i := 5) sc_law.nd rfl (by first | exact Or.inl rfl | exact Or.inr rfl) rfl) (dss_one (ds_if (dt_not (dt_tru (de_call (K__law_right.callee (hr.mono (by decide))) (takes_of rfl rfl rfl rfl) (dag_val (de_var 5) (dag_nil)) (many_val (many_nil))))) (dss_one (ds_ret (de_bl))) (dss_nil))))
  (dss_cons (ds_for (passes_of rfl) rfl (di_seq (de_list (da_cons (de_non) (da_cons (de_int) (da_cons (de_bl) (da_cons (de_list (da_cons (de_str) (da_nil))) (da_cons (de_tuple (da_cons (de_str) (da_nil))) (da_nil)))))))) (dg_name (i := 11) sc_law.nd rfl (by first | exact Or.inl rfl | exact Or.inr rfl) rfl) (dss_one (ds_if (dt_c .ne (hu65 hr) (de_call (K__law_read.callee (hr.mono (by decide))) (takes_of rfl rfl rfl rfl) (dag_val (de_var 11) (dag_nil)) (many_val (many_nil))) (de_list (da_cons (de_str) (da_cons (de_int) (da_cons (de_str) (da_nil)))))) (dss_one (ds_ret (de_bl))) (dss_nil))))
  (dss_one (ds_ret (de_bl))))))))))))
abbrev s_BadText : Stmt := inClass (top 3) 0
def N_BadText : List Str := ["self", "position", "what"]
theorem sc_BadText : FnScope N_BadText ["self", "position", "what"] (defScope s_BadText) := ⟨rfl, rfl, rfl, by decide +kernel, rfl, by decide +kernel, by decide +kernel⟩
theorem k_BadText (T : Txt K mg C) : ExI P w K mg base (C 2) "BadText" ["position", "what"] 1 := exi_of T.x_BadText T.xo_BadText T.d_BadText sc_BadText rfl fun f cdv A outer s H vs Q E hr h =>
  ⟨_, pss_cons (ps_expr (pe_baseinit T.bi_TalkError rfl (pa_cons (pe_var (i := 0) rfl (Or.inl rfl)) (pa_cons pe_str pa_nil)))) (pss_cons (ps_ost (pe_var (i := 0) rfl (Or.inl rfl)) (pe_var (i := 1) rfl (Or.inl rfl))) (pss_cons (ps_ost (pe_var (i := 0) rfl (Or.inl rfl)) (pe_var (i := 2) rfl (Or.inl rfl))) (pss_nil))), init_b2 T.xo_BadText T.xh_BadText_position T.xh_BadText_what rfl h⟩
theorem k_all (T : Txt K mg C) : FnOk P w K mg base (L2.CX P w) 8 T.d_law.f T.d_law.fd ["_law_script"] (spF K C 1 m_law) := by
  have X_BadText : ExI P w K mg base (C 2) "BadText" ["position", "what"] 1 := k_BadText T
  have K__law_hand : Fk P w K mg base C "_law_hand" 1 1 m__law_hand := k__law_hand T
  have K__law_mixed : Fk P w K mg base C "_law_mixed" 2 1 m__law_mixed := k__law_mixed T
  have K__law_take : Fk P w K mg base C "_law_take" 2 2 m__law_take := k__law_take T K__law_mixed
  have K__law_name : Fk P w K mg base C "_law_name" 1 3 m__law_name := k__law_name T K__law_take
  have K__law_names : Fk P w K mg base C "_law_names" 2 4 m__law_names := k__law_names T K__law_name
  have K__law_world : Fk P w K mg base C "_law_world" 1 5 m__law_world := k__law_world T K__law_names
  have K_is_whole : Fk P w K mg base C "is_whole" 1 1 m_is_whole := k_is_whole T
  have K_is_name : Fk P w K mg base C "is_name" 1 1 m_is_name := k_is_name T
  have K_find_kind : Fk P w K mg base C "find_kind" 1 2 m_find_kind := k_find_kind T K_is_whole K_is_name
  have K_kind_of : Fk P w K mg base C "kind_of" 1 3 m_kind_of := k_kind_of T K_find_kind
  have K_check_word : Fk P w K mg base C "check_word" 1 4 m_check_word := k_check_word T K_kind_of
  have K_word_text : Fk P w K mg base C "word_text" 1 5 m_word_text := k_word_text T K_check_word
  have K__law_written : Fk P w K mg base C "_law_written" 1 6 m__law_written := k__law_written T K_word_text
  have K__law_number : Fk P w K mg base C "_law_number" 1 1 m__law_number := k__law_number T
  have K__law_word_text : Fk P w K mg base C "_law_word_text" 1 1 m__law_word_text := k__law_word_text T
  have K__law_letters : Fk P w K mg base C "_law_letters" 1 1 m__law_letters := k__law_letters T
  have K__law_due : Fk P w K mg base C "_law_due" 1 2 m__law_due := k__law_due T K__law_number K__law_word_text K__law_letters
  have K_is_figures : Fk P w K mg base C "is_figures" 1 1 m_is_figures := k_is_figures T
  have K_number_from : Fk P w K mg base C "number_from" 1 2 m_number_from := k_number_from T K_is_figures
  have K_find_signed : Fk P w K mg base C "find_signed" 1 3 m_find_signed := k_find_signed T K_number_from K_is_name
  have K_find_word : Fk P w K mg base C "find_word" 1 4 m_find_word := k_find_word T K_find_signed K_number_from K_find_kind
  have K_read_word : Fk P w K mg base C "read_word" 1 5 m_read_word := k_read_word T K_find_word X_BadText
  have K__law_read : Fk P w K mg base C "_law_read" 1 6 m__law_read := k__law_read T K_read_word
  have K__law_right : Fk P w K mg base C "_law_right" 1 7 m__law_right := k__law_right T K__law_due K__law_read K__law_written
  have K__law_person : Fk P w K mg base C "_law_person" 3 3 m__law_person := k__law_person T K__law_take
  have K__law_place : Fk P w K mg base C "_law_place" 3 3 m__law_place := k__law_place T K__law_take
  have K__law_step : Fk P w K mg base C "_law_step" 1 3 m__law_step := k__law_step T K__law_take
  have K__law_date : Fk P w K mg base C "_law_date" 1 3 m__law_date := k__law_date T K__law_take
  have K__law_day : Fk P w K mg base C "_law_day" 2 4 m__law_day := k__law_day T K__law_take K__law_step K__law_date
  have K__law_word : Fk P w K mg base C "_law_word" 3 5 m__law_word := k__law_word T K__law_take K__law_person K__law_place K__law_day
  have K__law_odd_word : Fk P w K mg base C "_law_odd_word" 1 3 m__law_odd_word := k__law_odd_word T K__law_take
  have K__law_near : Fk P w K mg base C "_law_near" 2 3 m__law_near := k__law_near T K__law_take
  exact k_law T K__law_hand K__law_world K__law_written K__law_take K__law_right K__law_read K__law_word K__law_word_text K__law_odd_word K__law_name K__law_near
end
end L08
set_option Elab.async false
set_option linter.all false
set_option maxRecDepth 100000
namespace L08
open PySem L2 Rf
def hnd (cs : List Int) (a b t : Int) : M := .lst [.lst (cs.map D.int), .int a, .int b, .int t]
structure HandOk (cs : List Int) (a b t : Int) : Prop where
  len : cs.length ≤ 63
  pos : ∀ c ∈ cs, 0 ≤ c
  a0 : 0 ≤ a
  al : a ≤ cs.length
  b0 : 0 ≤ b
  t0 : 0 ≤ t
  tl : t < 2147483629
def Good (m : M) : Prop := ∃ cs a b t, m = hnd cs a b t ∧ HandOk cs a b t
def mixN (n t : Int) : Int :=
  let once := (n * 48271 + t * 7919 + 12345) % 2147483647
  let twice := (once * once + t * 104729 + once / 127) % 2147483629
  ((twice * 69621 + once / 3) % 2147483587) / 8
theorem cMul_r {i j : Int} (h : j.natAbs < 2 ^ 64) : cMul i j = true := by unfold cMul; simp only [h, decide_true, Bool.or_true, Bool.true_or]
theorem cMod_p {i j : Int} (h : 0 < j) : cMod i j = true := by unfold cMod; exact decide_eq_true h
theorem cDiv_p {i j : Int} (h : 0 < j) (h9 : j.natAbs.log2 < 9000) : cDiv i j = true := by unfold cDiv; simp only [h, h9, decide_true, Bool.and_self]
theorem mixed_eq (n t : Int) : m__law_mixed [.sh (.int n), .sh (.int t)] = .ok (.sh (.int (mixN n t))) [] := by
  have h0 := Int.emod_nonneg (n * 48271 + t * 7919 + 12345) (show (2147483647 : Int) ≠ 0 by decide)
  have h1 := Int.emod_lt_of_pos (n * 48271 + t * 7919 + 12345) (show (0 : Int) < 2147483647 by decide)
  have c1 : ∀ i : Int, cMul i 48271 = true := fun i => cMul_r (by decide)
  have c2 : ∀ i : Int, cMul i 7919 = true := fun i => cMul_r (by decide)
  have c3 : ∀ i : Int, cMul i 104729 = true := fun i => cMul_r (by decide)
  have c4 : ∀ i : Int, cMul i 69621 = true := fun i => cMul_r (by decide)
  have c5 : cMul ((n * 48271 + t * 7919 + 12345) % 2147483647) ((n * 48271 + t * 7919 + 12345) % 2147483647) = true := cMul_r (by omega)
  have m1 : ∀ i : Int, cMod i 2147483647 = true := fun i => rfl
  have m2 : ∀ i : Int, cMod i 2147483629 = true := fun i => rfl
  have m3 : ∀ i : Int, cMod i 2147483587 = true := fun i => rfl
  have v1 : ∀ i : Int, cDiv i 127 = true := fun i => cDiv_p (by decide) (by decide)
  have v2 : ∀ i : Int, cDiv i 3 = true := fun i => cDiv_p (by decide) (by decide)
  have v3 : ∀ i : Int, cDiv i 8 = true := fun i => cDiv_p (by decide) (by decide)
  unfold m__law_mixed
  refine (e_run [] 4 _ _ rfl).trans ?_
  unfold b__law_mixed
  simp only [RFS, e_vIc, c1, c2, c3, c4, c5, m1, m2, m3, v1, v2, v3, mixN]
theorem take_ok {m : M} {n : Int} (hm : Good m) (hn : 0 < n) (h9 : n.natAbs.log2 < 9000) : ∃ r m', m__law_take [.ow m, .sh (.int n)] = .ok (.sh (.int r)) [m'] ∧ Good m' ∧ 0 ≤ r ∧ r < n := by
  obtain ⟨cs, a, b, t, rfl, H⟩ := hm
  have hmod : ∀ x : Int, 0 ≤ x % n ∧ x % n < n := fun x => ⟨Int.emod_nonneg x (by omega), Int.emod_lt_of_pos x hn⟩
  have c1 : ∀ i : Int, cMod i n = true := fun i => cMod_p hn
  have c2 : ∀ i : Int, cDiv i n = true := fun i => cDiv_p hn h9
  have m1 : ∀ i : Int, cMod i 2147483647 = true := fun i => rfl
  have m2 : ∀ i : Int, cMod i 2147483629 = true := fun i => rfl
  have p1 : cPow 10 18 = true := by decide
  have hb0 := H.b0
  by_cases hb : b = 0
  · subst hb
    by_cases ha : a < (cs.length : Int)
    · have hal : a.toNat < cs.length := by have := H.a0; omega
      have hc : L2.atI (cs.map D.int) a = some (.int (cs[a.toNat])) := atN H.a0 (by rw [List.getElem?_map, List.getElem?_eq_getElem hal]; rfl)
      have hcp : 0 ≤ cs[a.toNat] := H.pos _ (List.getElem_mem hal)
      generalize hcv : cs[a.toNat] = c at hc hcp
      have hae : a < ((cs.map D.int).length : Int) := by rw [List.length_map]; exact ha
      have H1 : HandOk cs (a + 1) 0 t := ⟨H.len, H.pos, by have := H.a0; omega, by omega, by omega, H.t0, H.tl⟩
      by_cases h18 : c < 10 ^ 18
      · refine ⟨mixN (c % 2147483647) (a + 1) % n, hnd cs (a + 1) 0 t, ?_, ⟨cs, a + 1, 0, t, rfl, H1⟩, (hmod _).1, (hmod _).2⟩
        unfold m__law_take
        refine (e_run [0] 4 _ _ rfl).trans ?_
        unfold b__law_take
        simp only [RFS, hnd, e_ixO (ds := [D.lst (List.map D.int cs), D.int a, D.int 0, D.int t]), e_ixO2 (ds := [D.lst (List.map D.int cs), D.int a, D.int 0, D.int t]), beq_self_eq_true, hae, hc, e_vIc, p1, c1, c2, m1, m2, h18,
          e_subK (ds := [D.lst (List.map D.int cs), D.int a, D.int 0, D.int t]), e_ixO (ds := [D.lst (List.map D.int cs), D.int (a + 1), D.int 0, D.int t]), e_ixO2 (ds := [D.lst (List.map D.int cs), D.int (a + 1), D.int 0, D.int t]), mixed_eq, Int.reduceLE, Int.toNat_one, Int.reduceLT, Int.reduceToNat, Int.cast_ofNat_Int, List.length_cons, List.length_nil]
      · have hc0 : 0 < c := by omega
        have H2 : HandOk cs (a + 1) (c / n) t := ⟨H.len, H.pos, by have := H.a0; omega, by omega, Int.ediv_nonneg hcp (by omega), H.t0, H.tl⟩
        refine ⟨c % n, hnd cs (a + 1) (c / n) t, ?_, ⟨cs, a + 1, _, t, rfl, H2⟩, (hmod _).1, (hmod _).2⟩
        unfold m__law_take
        refine (e_run [0] 4 _ _ rfl).trans ?_
        unfold b__law_take
        simp only [RFS, hnd, e_ixO (ds := [D.lst (List.map D.int cs), D.int a, D.int 0, D.int t]), e_ixO2 (ds := [D.lst (List.map D.int cs), D.int a, D.int 0, D.int t]), beq_self_eq_true, hae, hc, e_vIc, p1, c1, c2, m1, m2, h18,
          e_subK (ds := [D.lst (List.map D.int cs), D.int a, D.int 0, D.int t]), e_ixO (ds := [D.lst (List.map D.int cs), D.int (a + 1), D.int 0, D.int t]), e_ixO2 (ds := [D.lst (List.map D.int cs), D.int (a + 1), D.int 0, D.int t]), mixed_eq, Int.reduceLE, Int.toNat_one, Int.reduceLT, Int.reduceToNat, Int.cast_ofNat_Int, List.length_cons, List.length_nil, hc0, e_ixO (ds := [D.lst (List.map D.int cs), D.int (a + 1), D.int c, D.int t]), e_ixO2 (ds := [D.lst (List.map D.int cs), D.int (a + 1), D.int c, D.int t]),
          e_subK (ds := [D.lst (List.map D.int cs), D.int (a + 1), D.int 0, D.int t]), e_subK (ds := [D.lst (List.map D.int cs), D.int (a + 1), D.int c, D.int t])]
    · have hae : ¬ a < ((cs.map D.int).length : Int) := by rw [List.length_map]; exact ha
      have z0 : ¬ ((0 : Int) < 0) := by decide
      have H3 : HandOk cs a 0 ((t + 1) % 2147483629) := ⟨H.len, H.pos, H.a0, H.al, by omega, Int.emod_nonneg _ (by decide), Int.emod_lt_of_pos _ (by decide)⟩
      refine ⟨mixN ((t + 1) % 2147483629) a % n, hnd cs a 0 ((t + 1) % 2147483629), ?_, ⟨cs, a, 0, _, rfl, H3⟩, (hmod _).1, (hmod _).2⟩
      unfold m__law_take
      refine (e_run [0] 4 _ _ rfl).trans ?_
      unfold b__law_take
      simp only [RFS, hnd, e_ixO (ds := [D.lst (List.map D.int cs), D.int a, D.int 0, D.int t]), e_ixO2 (ds := [D.lst (List.map D.int cs), D.int a, D.int 0, D.int t]), beq_self_eq_true, hae, z0, e_vIc, c1, c2, m1, m2,
        e_subK (ds := [D.lst (List.map D.int cs), D.int a, D.int 0, D.int t]), e_ixO (ds := [D.lst (List.map D.int cs), D.int a, D.int 0, D.int ((t + 1) % 2147483629)]), e_ixO2 (ds := [D.lst (List.map D.int cs), D.int a, D.int 0, D.int ((t + 1) % 2147483629)]), mixed_eq, Int.reduceLE, Int.toNat_one, Int.reduceLT, Int.reduceToNat, Int.cast_ofNat_Int, List.length_cons, List.length_nil]
  · have hbe : (b == 0) = false := beq_false_of_ne hb
    have hb1 : 0 < b := by omega
    have H2 : HandOk cs a (b / n) t := ⟨H.len, H.pos, H.a0, H.al, Int.ediv_nonneg hb0 (by omega), H.t0, H.tl⟩
    refine ⟨b % n, hnd cs a (b / n) t, ?_, ⟨cs, a, _, t, rfl, H2⟩, (hmod _).1, (hmod _).2⟩
    unfold m__law_take
    refine (e_run [0] 4 _ _ rfl).trans ?_
    unfold b__law_take
    simp only [RFS, hnd, e_ixO (ds := [D.lst (List.map D.int cs), D.int a, D.int b, D.int t]), e_ixO2 (ds := [D.lst (List.map D.int cs), D.int a, D.int b, D.int t]), hbe, hb1, e_vIc, c1, c2, m1, m2,
      e_subK (ds := [D.lst (List.map D.int cs), D.int a, D.int b, D.int t]), Int.reduceLE, Int.toNat_one, Int.reduceLT, Int.reduceToNat, Int.cast_ofNat_Int, List.length_cons, List.length_nil]
def tot0 : List Int → Int → Int
  | [], t => t
  | c :: r, t => tot0 r ((t * 1009 + c) % 2147483629)
theorem tot0_ok : ∀ (r : List Int) (t : Int), r = [] ∨ (0 ≤ tot0 r t ∧ tot0 r t < 2147483629)
  | [], t => .inl rfl
  | c :: r, t => by
    right
    have h1 := Int.emod_nonneg (t * 1009 + c) (show (2147483629 : Int) ≠ 0 by decide)
    have h2 := Int.emod_lt_of_pos (t * 1009 + c) (show (0 : Int) < 2147483629 by decide)
    rcases tot0_ok r ((t * 1009 + c) % 2147483629) with h | h
    · subst h; exact ⟨h1, h2⟩
    · exact h
def ab (c : Int) : Int := if c ≥ 0 then c else -c
theorem hand_loop (s : D) : ∀ (r : List Int) (t : Int) (acc : List Int) (o : Option DV), acc.length + r.length ≤ 63 → ∃ o', forL (gSet 3) (sSeq (sAsg (dMod (dB fInt (dCons (dAdd (dMul (dVar 1) (dC (.int 1009))) (dB fInt (dCons (dVar 3) (dNil)))) (dNil))) (dC (.int 2147483629))) (gSet 1))
  (sApp 2 (dIf (dT (dCmp .ge (dVar 3) (dC (.int 0)))) (dB fInt (dCons (dVar 3) (dNil))) (dNeg (dB fInt (dCons (dVar 3) (dNil))))))) (r.map D.int) [some (.sh s), some (.sh (.int t)), some (.ow (.lst (acc.map D.int))), o]
    = .ok .nx [some (.sh s), some (.sh (.int (tot0 r t))), some (.ow (.lst ((acc ++ r.map ab).map D.int))), o'] := by
  intro r
  induction r with
  | nil => intro t acc o _; exact ⟨o, by simp only [List.map, forL, tot0, List.append_nil]⟩
  | cons c r ih =>
    intro t acc o hl
    obtain ⟨o', h⟩ := ih ((t * 1009 + c) % 2147483629) (acc ++ [ab c]) (some (.sh (.int c))) (by rw [List.length_append]; simp only [List.length_cons, List.length_nil] at hl ⊢; omega)
    refine ⟨o', ?_⟩
    have c1 : ∀ i : Int, cMul i 1009 = true := fun i => cMul_r (by decide)
    have m1 : ∀ i : Int, cMod i 2147483629 = true := fun i => rfl
    have hsz : (acc.map D.int).length < sizeLine := by rw [List.length_map, sizeLine_eq]; simp only [List.length_cons] at hl; omega
    rw [show acc ++ (c :: r).map ab = (acc ++ [ab c]) ++ r.map ab by simp]
    show forL _ _ (D.int c :: r.map D.int) _ = _
    unfold forL
    rw [show tot0 (c :: r) t = tot0 r ((t * 1009 + c) % 2147483629) from rfl, ← h]
    by_cases hc : 0 ≤ c
    · have e : (acc ++ [ab c]).map D.int = acc.map D.int ++ [D.int c] := by rw [List.map_append, show ab c = c by unfold ab; rw [if_pos hc]]; rfl
      rw [e]
      simp only [RFS, e_vIc, c1, m1, e_App (ds := acc.map D.int), hc, e_appK (ds := acc.map D.int) (hl := hsz)]
    · have e : (acc ++ [ab c]).map D.int = acc.map D.int ++ [D.int (-c)] := by rw [List.map_append, show ab c = -c by unfold ab; rw [if_neg hc]]; rfl
      rw [e]
      simp only [RFS, e_vIc, c1, m1, e_App (ds := acc.map D.int), hc, e_appK (ds := acc.map D.int) (hl := hsz)]
theorem hand_ok (ns : List Int) (hn : ns.length ≤ 63) : ∃ m, m__law_hand [.sh (.scr (ns.map D.int))] = .ok (.ow m) [] ∧ Good m := by
  have hlen : ((ns.map D.int).length : Int) = ns.length := by rw [List.length_map]
  obtain ⟨o', h⟩ := hand_loop (.scr (ns.map D.int)) ns (((ns.map D.int).length : Int) + 17) [] none (by simpa using hn)
  refine ⟨hnd (ns.map ab) 0 0 (tot0 ns (((ns.map D.int).length : Int) + 17)), ?_, _, _, _, _, rfl, ⟨by rw [List.length_map]; exact hn, fun c hc => ?_, by omega, by omega, by omega, ?_, ?_⟩⟩
  · unfold m__law_hand
    refine (e_run [] 4 _ _ rfl).trans ?_
    unfold b__law_hand
    simp only [List.nil_append, List.map_nil] at h
    simp only [RFS, forK, h, e_lstF, List.length_cons, List.length_nil, hnd, sizeLine_eq, Nat.reduceLeDiff]
  · obtain ⟨x, hx, rfl⟩ := List.mem_map.mp hc
    unfold ab; split <;> omega
  · rcases tot0_ok ns (((ns.map D.int).length : Int) + 17) with h | h
    · subst h; show (0 : Int) ≤ 17; decide
    · exact h.1
  · rcases tot0_ok ns (((ns.map D.int).length : Int) + 17) with h | h
    · subst h; show (17 : Int) < 2147483629; decide
    · exact h.2
end L08
set_option Elab.async false
set_option linter.all false
set_option maxRecDepth 100000
set_option maxHeartbeats 4000000
namespace L08
open PySem L2 Rf
abbrev LOW : Str := "abcdefghijklmnopqrstuvwxyz"
def low (c : Nat) : Bool := !(Builtin.Str.occurrences LOW ⟨#[c]⟩ 0 LOW.length 1).isEmpty
def nmS (x : Str) : Bool := decide (1 ≤ x.length) && decide (x.length ≤ 8) && x.cps.toList.all low
def lowS : List Nat := LOW.cps.toList
structure Nm (x : Str) : Prop where
  lo : 1 ≤ x.cps.size
  hi : x.cps.size ≤ 8
  mem : ∀ c ∈ x.cps.toList, c ∈ lowS
theorem low_all : lowS.all low = true := by kernel_rfl
theorem low_lt : lowS.all (fun c => decide (c < 0x110000)) = true := by kernel_rfl
theorem Nm.low {x : Str} (h : Nm x) : x.cps.toList.all low = true := List.all_eq_true.mpr fun c hc => List.all_eq_true.mp low_all c (h.mem c hc)
theorem Nm.nm {x : Str} (h : Nm x) : nmS x = true := by
  have e : x.length = x.cps.size := rfl
  have := h.lo
  have := h.hi
  unfold nmS
  rw [h.low, decide_eq_true (by omega), decide_eq_true (by omega)]
  rfl
theorem Nm.ok {x : Str} (h : Nm x) : PyData.strOk x = true := by
  show x.cps.all _ = true
  rw [Array.all_eq_true_iff_forall_mem]
  intro c hc
  exact List.all_eq_true.mp low_lt c (h.mem c (by simpa using hc))
inductive Pl : D → Prop
  | non : Pl .non
  | bl (b : Bool) : Pl (.bl b)
  | int (i : Int) : Pl (.int i)
  | lst (ds : List D) : Pl (.lst ds)
  | tup (ds : List D) : Pl (.tup ds)
  | nam {x : Str} (h : Nm x) : Pl (.str x)
  | bad {x : Str} (h : nmS x = false) (hl : x.length ≤ sizeLine) : Pl (.str x)
def nm : D → Bool
  | .str x => nmS x
  | _ => false
def wh : D → Bool
  | .int _ => true
  | _ => false
theorem in_low (n : Nat) : CK.f .in_ (.str ⟨#[n]⟩) (.str LOW) = some (.bl (low n)) := rfl
theorem isStr (x : Str) : isTy "str" (.str x) = some true := rfl
theorem lc_low (z : Str) (hz : z.length ≤ sizeLine) : fLc (dItems (dVar 0)) (gSet 1) dYes (dCmp .in_ (dVar 1) (dC (.str LOW))) [1] [some (.sh (.str z)), none] = .ok (.lst (z.cps.toList.map fun n => D.bl (low n))) [some (.sh (.str z)), none] := by
  refine lc_text (fun n => D.bl (low n)) rfl rfl (fun n => ?_) hz
  simp only [RFS, in_low]
theorem name_str (x : Str) (hx : x.length ≤ sizeLine) : m_is_name [.sh (.str x)] = .ok (.sh (.bl (nmS x))) [] := by
  refine (e_run [] 2 _ _ rfl).trans ?_
  unfold b_is_name
  by_cases h1 : (1 : Int) ≤ x.length
  · by_cases h2 : (x.length : Int) ≤ 8
    · have e : nmS x = x.cps.toList.all low := by
        unfold nmS
        rw [decide_eq_true (show 1 ≤ x.length by omega), decide_eq_true (show x.length ≤ 8 by omega)]
        rfl
      rw [e]
      simp only [RFS, isStr, h1, h2, lc_low x hx, all_f]
    · have e : nmS x = false := by
        unfold nmS
        rw [decide_eq_false (show ¬ x.length ≤ 8 by omega)]
        simp
      rw [e]
      simp only [RFS, isStr, h1, h2]
  · have e : nmS x = false := by
      unfold nmS
      rw [decide_eq_false (show ¬ 1 ≤ x.length by omega)]
      simp
    rw [e]
    simp only [RFS, isStr, h1]
theorem name_ok {d : D} (h : Pl d) : m_is_name [.sh d] = .ok (.sh (.bl (nm d))) [] := by
  cases h with
  | nam h => exact name_str _ (by rw [sizeLine_eq]; have := h.hi; show Array.size _ ≤ _; omega)
  | bad h hl => exact name_str _ hl
  | non => kernel_rfl
  | bl b => kernel_rfl
  | int i => kernel_rfl
  | lst ds => kernel_rfl
  | tup ds => kernel_rfl
theorem whole_ok {d : D} (h : Pl d) : m_is_whole [.sh d] = .ok (.sh (.bl (wh d))) [] := by
  cases h <;> kernel_rfl
theorem tk {m : M} {n : Int} (hm : Good m) (hn : 0 < n) (h9 : n.natAbs.log2 < 9000 := by decide) : ∃ r m', m__law_take [.ow m, .sh (.int n)] = .ok (.sh (.int r)) [m'] ∧ Good m' ∧ 0 ≤ r ∧ r < n := take_ok hm hn h9
theorem low_at {r : Int} (h0 : 0 ≤ r) (h1 : r < 26) : ∃ c, vIxI (.str LOW) (.int r) = some (.str ⟨#[c]⟩) ∧ c ∈ lowS := by
  have hl : lowS.length = 26 := by kernel_rfl
  have hr : r.toNat < lowS.length := by omega
  refine ⟨lowS[r.toNat], ?_, List.getElem_mem hr⟩
  show (L2.atI lowS r).map _ = _
  rw [atN h0 (List.getElem?_eq_getElem hr)]
  rfl
theorem name_loop : ∀ (n : Nat) (i : Int) (m : M) (x : Str) (o : Option DV), Good m → x.cps.size + n ≤ 8 → (∀ c ∈ x.cps.toList, c ∈ lowS) → ∃ (m' : M) (y : Str) (o' : Option DV),
    forL (gSet 2) (sAsg (dAdd (dVar 1) (dIx (dC (.str LOW)) (dCall m__law_take (aIo 0 (aVal (dC (.int 26)) (aNil)))))) (gSet 1)) ((List.range n).map fun k => D.int (i + (k : Nat))) [some (.ow m), some (.sh (.str x)), o]
      = .ok .nx [some (.ow m'), some (.sh (.str y)), o'] ∧ Good m' ∧ y.cps.size = x.cps.size + n ∧ (∀ c ∈ y.cps.toList, c ∈ lowS)
  | 0, i, m, x, o, hm, hl, hx => ⟨m, x, o, rfl, hm, by omega, hx⟩
  | n + 1, i, m, x, o, hm, hl, hx => by
    obtain ⟨r, m1, e1, g1, r0, r1⟩ := tk (n := 26) hm (by decide)
    obtain ⟨c, hc, hcm⟩ := low_at r0 r1
    have hsz : x.length + (⟨#[c]⟩ : Str).length ≤ sizeLine := by
      rw [sizeLine_eq]
      show x.cps.size + 1 ≤ _
      omega
    have hcat := e_addS x ⟨#[c]⟩ hsz
    have hsize : (x ++ (⟨#[c]⟩ : Str)).cps.size = x.cps.size + 1 := by show (x.cps ++ #[c]).size = _; simp
    have hmem : ∀ d ∈ (x ++ (⟨#[c]⟩ : Str)).cps.toList, d ∈ lowS := by
      show ∀ d ∈ (x.cps ++ #[c]).toList, _
      intro d hd
      simp only [Array.toList_append, List.mem_append, List.mem_singleton] at hd
      rcases hd with hd | rfl
      · exact hx d hd
      · exact hcm
    obtain ⟨m', y, o', h1, h2, h3, h4⟩ := name_loop n (i + 1) m1 (x ++ ⟨#[c]⟩) (some (.sh (.int i))) g1 (by omega) hmem
    refine ⟨m', y, o', ?_, h2, by omega, h4⟩
    rw [List.range_succ_eq_map, List.map_cons, List.map_map, forL_set _ _ _ _ _ (by decide : 2 < 3)]
    have e : ((fun k : Nat => D.int (i + (k : Nat))) ∘ Nat.succ) = fun k : Nat => D.int (i + 1 + (k : Nat)) := by
      funext k
      show D.int (i + ((k + 1 : Nat) : Int)) = _
      rw [show i + ((k + 1 : Nat) : Int) = i + 1 + (k : Int) by omega]
    rw [e, show (D.int (i + ((0 : Nat) : Int))) = D.int i by rw [show i + ((0 : Nat) : Int) = i by omega]]
    rw [← h1]
    generalize forL (gSet 2) _ _ = k
    simp only [RFS, e_aIo (m := m), stepO2 (m := m), e1, hc, hcat]
theorem rngOk_le {n : Int} (h0 : 0 ≤ n) (h : n ≤ 100) : rngOk n = true := by
  unfold rngOk
  rw [decide_eq_true (by omega), decide_eq_true (by omega)]
  rfl
theorem rng_eq {n : Int} : rng 0 n = (List.range n.toNat).map fun k => D.int (0 + (k : Nat)) := by unfold rng; rw [Int.sub_zero]
theorem dname_ok {m : M} (hm : Good m) : ∃ (x : Str) (m' : M), m__law_name [.ow m] = .ok (.sh (.str x)) [m'] ∧ Good m' ∧ Nm x := by
  obtain ⟨r, m1, e1, g1, r0, r1⟩ := tk (n := 8) hm (by decide)
  obtain ⟨m', y, o', h1, h2, h3, h4⟩ := name_loop (1 + r).toNat 0 m1 ("" : Str) none g1 (by show 0 + _ ≤ 8; omega) (by intro c hc; cases hc)
  refine ⟨y, m', ?_, h2, ⟨by rw [h3]; omega, by rw [h3]; show 0 + _ ≤ _; omega, h4⟩⟩
  refine (e_run [0] 3 _ _ rfl).trans ?_
  unfold b__law_name
  rw [← rng_eq] at h1
  simp only [RFS, e_aIo (m := m), stepO2 (m := m), e1, e_Rng1, e_rng1K (h := rngOk_le (show 0 ≤ 1 + r by omega) (show 1 + r ≤ 100 by omega)), h1]
end L08
set_option Elab.async false
set_option linter.all false
set_option maxRecDepth 100000
set_option maxHeartbeats 4000000
namespace L08
open PySem L2 Rf Sv
def ND (ns : List Str) : List D := ns.map D.str
theorem in_names (neg : Bool) {x : Str} (hx : Nm x) : ∀ (ns : List Str), (∀ n ∈ ns, Nm n) → vIn neg (.str x) (.lst (ND ns)) = some (.bl (if neg then !decide (x ∈ ns) else decide (x ∈ ns))) := by
  have lay : ∀ ns : List Str, (∀ n ∈ ns, Nm n) → PyData.canLayAll0 (toPyL (ND ns)) = true := by
    intro ns
    induction ns with
    | nil => intro _; rfl
    | cons a r ih => intro h; simp only [ND, List.map_cons, toPyL, D.toPy, PyData.canLayAll0, PyData.canLay0, (h a List.mem_cons_self).ok, Bool.true_and]; exact ih fun n hn => h n (List.mem_cons_of_mem _ hn)
  have any : ∀ ns : List Str, ((toPyL (ND ns)).any fun z => PyData.eqv z (D.str x).toPy) = decide (x ∈ ns) := by
    intro ns
    induction ns with
    | nil => rfl
    | cons a r ih =>
      simp only [ND, List.map_cons, toPyL, D.toPy, List.any_cons, PyData.eqv] at ih ⊢
      rw [ih]
      by_cases h : a = x
      · subst h; simp
      · have h' : ¬ x = a := fun z => h z.symm
        simp [h, h']
  intro ns h
  unfold vIn
  dsimp only
  rw [if_pos ⟨shaped_str hx.ok, lay ns h⟩, any ns]
def QS : List Str := ["q", "r", "s", "t"]
theorem QS_nm : ∀ x ∈ QS, Nm x := by
  intro x hx
  simp only [QS, List.mem_cons, List.not_mem_nil, or_false] at hx
  rcases hx with rfl | rfl | rfl | rfl
  all_goals exact ⟨by decide +kernel, by decide +kernel, by decide +kernel⟩
theorem QS_out {ns : List Str} (h : ns.length ≤ 2) : ∃ y ys, QS.filter (fun x => !decide (x ∈ ns)) = y :: ys := by
  cases e : QS.filter (fun x => !decide (x ∈ ns)) with
  | cons y ys => exact ⟨y, ys, rfl⟩
  | nil =>
    exfalso
    have hq : ∀ x ∈ QS, x ∈ ns := fun x hx => by
      have := List.filter_eq_nil_iff.mp e x hx
      simpa using this
    have a1 := hq "q" (by decide +kernel)
    have a2 := hq "r" (by decide +kernel)
    have a3 := hq "s" (by decide +kernel)
    have n12 : ("q" : Str) ≠ "r" := by decide +kernel
    have n13 : ("q" : Str) ≠ "s" := by decide +kernel
    have n23 : ("r" : Str) ≠ "s" := by decide +kernel
    match ns, h with
    | [], _ => cases a1
    | [a], _ =>
      simp only [List.mem_cons, List.not_mem_nil, or_false] at a1 a2
      exact n12 (a1.trans a2.symm)
    | [a, b], _ =>
      simp only [List.mem_cons, List.not_mem_nil, or_false] at a1 a2 a3
      rcases a1 with a1 | a1 <;> rcases a2 with a2 | a2 <;> rcases a3 with a3 | a3
      · exact n12 (a1.trans a2.symm)
      · exact n12 (a1.trans a2.symm)
      · exact n13 (a1.trans a3.symm)
      · exact n23 (a2.trans a3.symm)
      · exact n23 (a2.trans a3.symm)
      · exact n13 (a1.trans a3.symm)
      · exact n12 (a1.trans a2.symm)
      · exact n12 (a1.trans a2.symm)
def nmB : ENV → R Fl := sSeq (sAsg (dCall m__law_name (aIo 0 (aNil))) (gSet 4))
  (sSeq (sIf (dT (dInO false (dVar 4) 2)) (sAsg (dIx ((fun ρ => frz ((fLc (dItems (dLst (dCons (dC (.str "q")) (dCons (dC (.str "r")) (dCons (dC (.str "s")) (dCons (dC (.str "t")) (dNil))))))) (gSet 5) (dT (dInO true (dVar 5) 2)) (dVar 5) [5]) ρ))) (dC (.int 0))) (gSet 4)) (sNil))
  (sApp 2 (dVar 4)))
theorem names_cut : b__law_names = sSeq (sOwn (fLst (dNil)) 2) (sSeq (sFor (dRng1 (dVar 1)) (gSet 3) nmB) (sRet (dVar 2))) := rfl
theorem filt_str (p : Str → Bool) : ∀ ns : List Str, (ND ns).filter (fun d => match d with | .str x => p x | _ => false) = ND (ns.filter p)
  | [] => rfl
  | a :: r => by
    have ih := filt_str p r
    simp only [ND, List.map_cons, List.filter_cons] at ih ⊢
    rw [ih]
    by_cases h : p a = true <;> simp [h]
def inOK (neg : Bool) (i : Nat) : D → ENV → R D := fun x ρ1 => match ρ1[i]? with
  | some (some (.ow (.lst ds))) => R.of (vIn neg x (.lst ds)) ρ1
  | _ => .bot
theorem e_InO (neg : Bool) (da : ENV → R D) (i : Nat) (ρ : ENV) : dInO neg da i ρ = (da ρ).bind (inOK neg i) := rfl
theorem e_inOK (neg : Bool) (i : Nat) (x : D) (ρ : ENV) (ds : List D) (h : ρ[i]? = some (some (.ow (.lst ds)))) : inOK neg i x ρ = R.of (vIn neg x (.lst ds)) ρ := by unfold inOK; rw [h]
theorem near_ok {ns : List Str} (hn : ∀ n ∈ ns, Nm n) (m : M) (o1 o3 o4 : Option DV) : fLc (dItems (dLst (dCons (dC (.str "q")) (dCons (dC (.str "r")) (dCons (dC (.str "s")) (dCons (dC (.str "t")) (dNil))))))) (gSet 5) (dT (dInO true (dVar 5) 2)) (dVar 5) [5]
    [some (.ow m), o1, some (.ow (.lst (ND ns))), o3, o4, none] = .ok (.lst (ND (QS.filter fun x => !decide (x ∈ ns)))) [some (.ow m), o1, some (.ow (.lst (ND ns))), o3, o4, none] := by
  have h := lc_filt (ρ := [some (.ow m), o1, some (.ow (.lst (ND ns))), o3, o4, none]) (i := 5) (tt := dT (dInO true (dVar 5) 2)) (te := dVar 5) (di := dItems (dLst (dCons (dC (.str "q")) (dCons (dC (.str "r")) (dCons (dC (.str "s")) (dCons (dC (.str "t")) (dNil)))))))
    (ds := ND QS) (fun d => match d with | .str x => !decide (x ∈ ns) | _ => false) id (by simp only [RFS, ND, QS]) rfl (fun d hd => by
      obtain ⟨x, hx, rfl⟩ := List.mem_map.mp hd
      have q := in_names true (QS_nm x hx) ns hn
      simp only [if_true] at q
      simp only [RFS, e_InO, e_inOK (ds := ND ns), q]) (fun d hd _ => by
      obtain ⟨x, hx, rfl⟩ := List.mem_map.mp hd
      simp only [RFS, id]) (by rw [sizeLine_eq]; decide)
  rw [h, filt_str, List.map_id]
theorem nmB_ok {m : M} {ns : List Str} (hm : Good m) (hl : ns.length ≤ 2) (hn : ∀ n ∈ ns, Nm n) (o1 o3 o4 : Option DV) : ∃ (m' : M) (x : Str), nmB [some (.ow m), o1, some (.ow (.lst (ND ns))), o3, o4, none]
    = .ok .nx [some (.ow m'), o1, some (.ow (.lst (ND (ns ++ [x])))), o3, some (.sh (.str x)), none] ∧ Good m' ∧ Nm x ∧ x ∉ ns := by
  obtain ⟨x, m1, e1, g1, hx⟩ := dname_ok hm
  have q := in_names false hx ns hn
  have app : ∀ y : Str, ND (ns ++ [y]) = ND ns ++ [.str y] := fun y => by unfold ND; rw [List.map_append]; rfl
  have hsz : (ND ns).length < sizeLine := by unfold ND; rw [List.length_map, sizeLine_eq]; omega
  by_cases h : x ∈ ns
  · obtain ⟨y, ys, hy⟩ := QS_out hl
    have hyq : y ∈ QS.filter fun x => !decide (x ∈ ns) := by rw [hy]; exact List.mem_cons_self
    have hym : y ∈ QS := (List.mem_filter.mp hyq).1
    have hyn : y ∉ ns := by simpa using (List.mem_filter.mp hyq).2
    have nk := near_ok hn m1 o1 o3 (some (.sh (.str x)))
    rw [hy] at nk
    simp only [h, decide_true, if_false, Bool.false_eq_true] at q
    refine ⟨m1, y, ?_, g1, QS_nm y hym, hyn⟩
    unfold nmB
    rw [app]
    simp only [ND, List.map_cons] at nk
    simp only [RFS, RVS, ND, e_aIo (m := m), stepO1 (m := m), e1, e_InO, e_inOK (ds := List.map D.str ns), show vIn false (D.str x) (D.lst (List.map D.str ns)) = some (.bl true) from q, nk, e_App (ds := List.map D.str ns), e_appK (ds := List.map D.str ns) (hl := hsz)]
  · simp only [h, decide_false, if_false, Bool.false_eq_true] at q
    refine ⟨m1, x, ?_, g1, hx, h⟩
    unfold nmB
    rw [app]
    simp only [RFS, RVS, e_aIo (m := m), stepO1 (m := m), e1, e_InO, e_inOK (ds := ND ns), q, e_App (ds := ND ns), e_appK (ds := ND ns) (hl := hsz)]
theorem names_run {m : M} (hm : Good m) {n : Nat} (hn : n ≤ 3) (ds : List D) (hr : ds.length = n) (o1 : Option DV) : ∃ (m' : M) (ns : List Str) (o3 o4 : Option DV),
    forL (gSet 3) nmB ds [some (.ow m), o1, some (.ow (.lst [])), none, none, none] = .ok .nx [some (.ow m'), o1, some (.ow (.lst (ND ns))), o3, o4, none] ∧ Good m' ∧ ns.length = n ∧ ns.Nodup ∧ ∀ x ∈ ns, Nm x := by
  obtain ⟨ρ', e, m', ns, o3, o4, g, hl, hd, hx, hρ⟩ := for_run (g := gSet 3) (body := nmB) (fun k ρ => ∃ (m : M) (ns : List Str) (o3 o4 : Option DV), Good m ∧ ns.length = k ∧ ns.Nodup ∧ (∀ n ∈ ns, Nm n) ∧ ρ = [some (.ow m), o1, some (.ow (.lst (ND ns))), o3, o4, none])
    ds 0 [some (.ow m), o1, some (.ow (.lst [])), none, none, none] (fun i d hd ρ hp => by
      obtain ⟨m, ns, o3, o4, g, hl, hnd, hx, rfl⟩ := hp
      have hi : i < n := by have := (List.getElem?_eq_some_iff.mp hd).1; omega
      obtain ⟨m', x, e, g', hx', hni⟩ := nmB_ok g (show ns.length ≤ 2 by omega) hx o1 (some (.sh d)) o4
      refine ⟨_, _, rfl, .inl e, m', ns ++ [x], _, _, g', by rw [List.length_append, hl]; rfl, List.nodup_append.mpr ⟨hnd, List.nodup_cons.mpr ⟨List.not_mem_nil, List.nodup_nil⟩, fun a ha b hb => by rw [List.mem_singleton.mp hb]; intro q; subst q; exact hni ha⟩, fun y hy => ?_, rfl⟩
      rcases List.mem_append.mp hy with hy | hy
      · exact hx y hy
      · rw [List.mem_singleton.mp hy]; exact hx') ⟨m, [], _, _, hm, rfl, List.nodup_nil, (fun _ h => nomatch h), rfl⟩
  subst hρ
  exact ⟨m', ns, o3, o4, e, g, by omega, hd, hx⟩
theorem names_ok {m : M} (hm : Good m) {n : Nat} (hn : n ≤ 3) : ∃ (m' : M) (ns : List Str), m__law_names [.ow m, .sh (.int (n : Nat))] = .ok (.sh (.lst (ND ns))) [m'] ∧ Good m' ∧ ns.length = n ∧ ns.Nodup ∧ ∀ x ∈ ns, Nm x := by
  have hr : (rng 0 (n : Nat)).length = n := by unfold rng; rw [List.length_map, List.length_range]; omega
  obtain ⟨m', ns, o3, o4, e, g, hl, hdu, hx⟩ := names_run hm hn (rng 0 (n : Nat)) hr (some (.sh (.int (n : Nat))))
  refine ⟨m', ns, ?_, g, hl, hdu, hx⟩
  have hk := rngOk_le (show 0 ≤ ((n : Nat) : Int) by omega) (show ((n : Nat) : Int) ≤ 100 by omega)
  generalize ((n : Nat) : Int) = z at *
  have h1 : sOwn (fLst (dNil)) 2 [some (.ow m), some (.sh (.int z)), none, none, none, none] = .ok .nx [some (.ow m), some (.sh (.int z)), some (.ow (.lst [])), none, none, none] := by kernel_rfl
  have h2 : sFor (dRng1 (dVar 1)) (gSet 3) nmB [some (.ow m), some (.sh (.int z)), some (.ow (.lst [])), none, none, none] = .ok .nx [some (.ow m'), some (.sh (.int z)), some (.ow (.lst (ND ns))), o3, o4, none] := by
    have e1 := e_rng1K z [some (.ow m), some (.sh (.int z)), some (.ow (.lst [])), none, none, none] hk
    have e2 : dVar 1 [some (.ow m), some (.sh (.int z)), some (.ow (.lst [])), none, none, none] = .ok (.int z) [some (.ow m), some (.sh (.int z)), some (.ow (.lst [])), none, none, none] := rfl
    generalize rng 0 z = ds at *
    rw [e_For, e_Rng1, e2, e_bind, e1, e_bind, e_forK]
    exact e
  refine (e_run [0] 6 _ _ rfl).trans ?_
  rw [names_cut, show startE 6 [.ow m, .sh (.int z)] = [some (.ow m), some (.sh (.int z)), none, none, none, none] from rfl, seq_ok h1, seq_ok h2]
  rfl
theorem at_name {ns : List Str} {r : Int} (h0 : 0 ≤ r) (h1 : r < ns.length) (h : ∀ x ∈ ns, Nm x) : ∃ x, vIxI (.lst (ND ns)) (.int r) = some (.str x) ∧ x ∈ ns := by
  have hr : r.toNat < ns.length := by omega
  refine ⟨ns[r.toNat], ?_, List.getElem_mem hr⟩
  exact atN h0 (by unfold ND; rw [List.getElem?_map, List.getElem?_eq_getElem hr]; rfl)
theorem pw12 : vIc cPow (fun i j => i ^ j.toNat) (.int 10) (.int 12) = some (.int 1000000000000) := by kernel_rfl
theorem mu12 : vIc cMul (fun i j => i * j) (.int 2) (.int 1000000000000) = some (.int 2000000000000) := by kernel_rfl
theorem date_ok {m : M} (hm : Good m) : ∃ (c : Int) (m' : M), m__law_date [.ow m] = .ok (.sh (.int c)) [m'] ∧ Good m' ∧ c.natAbs < 10 ^ 100 := by
  obtain ⟨a, m1, e1, g1, a0, a1⟩ := tk (n := 8) hm (by decide)
  by_cases h : a = 0
  · subst h
    obtain ⟨b, m2, e2, g2, b0, b1⟩ := tk (n := 2000000000000) g1 (by decide)
    refine ⟨b - 1000000000000, m2, ?_, g2, Nat.lt_of_le_of_lt (m := 1000000000000) (by omega) (by decide)⟩
    refine (e_run [0] 1 _ _ rfl).trans ?_
    unfold b__law_date
    simp only [RFS, RVS, pw12, mu12, e_aIo (m := m), stepO2 (m := m), e1, e_aIo (m := m1), stepO2 (m := m1), e2, beq_self_eq_true]
  · have hb : (a == 0) = false := beq_false_of_ne h
    obtain ⟨b, m2, e2, g2, b0, b1⟩ := tk (n := 17) g1 (by decide)
    refine ⟨b - 3, m2, ?_, g2, Nat.lt_of_le_of_lt (m := 1000000000000) (by omega) (by decide)⟩
    refine (e_run [0] 1 _ _ rfl).trans ?_
    unfold b__law_date
    simp only [RFS, RVS, e_aIo (m := m), stepO2 (m := m), e1, e_aIo (m := m1), stepO2 (m := m1), e2, hb]
def WD (ns ps : List Str) : D := .lst [.lst (ND ns), .lst (ND ps)]
structure Wo (ns ps : List Str) : Prop where
  l1 : ns.length = 3
  l2 : ps.length = 2
  h1 : ∀ x ∈ ns, Nm x
  h2 : ∀ x ∈ ps, Nm x
  d1 : ns.Nodup
  d2 : ps.Nodup
theorem world_ok {m : M} (hm : Good m) : ∃ (m' : M) (ns ps : List Str), m__law_world [.ow m] = .ok (.sh (WD ns ps)) [m'] ∧ Good m' ∧ Wo ns ps := by
  obtain ⟨m1, ns, e1, g1, l1, d1, h1⟩ := names_ok hm (n := 3) (by decide)
  obtain ⟨m2, ps, e2, g2, l2, d2, h2⟩ := names_ok g1 (n := 2) (by decide)
  refine ⟨m2, ns, ps, ?_, g2, l1, l2, h1, h2, d1, d2⟩
  refine (e_run [0] 1 _ _ rfl).trans ?_
  unfold b__law_world WD
  have e1' : m__law_names [.ow m, .sh (.int 3)] = .ok (.sh (.lst (ND ns))) [m1] := e1
  have e2' : m__law_names [.ow m1, .sh (.int 2)] = .ok (.sh (.lst (ND ps))) [m2] := e2
  simp only [RFS, RVS, e_aIo (m := m), stepO2 (m := m), e1', e_aIo (m := m1), stepO2 (m := m1), e2']
end L08
set_option Elab.async false
set_option linter.all false
set_option maxRecDepth 100000
set_option maxHeartbeats 4000000
namespace L08
open PySem L2 Rf
def STEP : List Str := ["today", "that day"]
def WEEK : List Str := ["coming", "last", "then coming", "then last"]
def ifD (b : Bool) (x : D) : D := if b = true then x else .non
def kd2 (bn bp bd bS bW : Bool) (r : D) : D := if bn = true then ifD (nm r) (.str "person") else if bp = true then ifD (nm r) (.str "place") else match r with
  | .int i => if bd = true then .str "day" else if bS = true then ifD (decide (-30 ≤ i) && decide (i ≤ 30)) (.str "day") else if bW = true then ifD (decide (0 ≤ i) && decide (i ≤ 6)) (.str "day") else .non
  | _ => .non
def sgl (h : Str) : D := (lkS h tab_SINGLE_WORDS).getD .non
def kd : D → D
  | .tup [.str h] => sgl h
  | .tup [.str h, r] => kd2 (decide (h = "name")) (decide (h = "place")) (decide (h = "date")) (decide (h ∈ STEP)) (decide (h ∈ WEEK)) r
  | _ => .non
theorem ix20 (a b : D) : vIxI (.tup [a, b]) (.int 0) = some a := at0 _ _
theorem ix21 (a b : D) : vIxI (.tup [a, b]) (.int 1) = some b := at1 _ _ _
theorem ix10 (a : D) : vIxI (.tup [a]) (.int 0) = some a := at0 _ _
theorem isT (ds : List D) : isTy "tuple" (.tup ds) = some true := rfl
theorem neg30 : vNeg g_MOST_STEP = some (.int (-30)) := rfl
theorem find1 (h : Str) : m_find_kind [.sh (.tup [.str h])] = .ok (.sh (sgl h)) [] := by
  have e : CK.f .eq (.int 1) (.int 1) = some (.bl true) := rfl
  have l1 : CK.f .le (.int 1) (.int 1) = some (.bl true) := rfl
  have l2 : CK.f .le (.int 1) (.int 2) = some (.bl true) := rfl
  refine (e_run [] 3 _ _ rfl).trans ?_
  unfold b_find_kind sgl
  generalize tab_SINGLE_WORDS = T
  simp only [RFS, RVS, isT, isStr, lenT1, l1, l2, e, ix10, -e_lenT, -e_eqI, -e_leI]
theorem in_step (h : Str) (ok : PyData.strOk h = true) : CK.f .in_ (.str h) g_STEP_WORDS = some (.bl (decide (h ∈ STEP))) := in_tupS (ws := STEP) false ok (by decide +kernel)
theorem in_week (h : Str) (ok : PyData.strOk h = true) : CK.f .in_ (.str h) g_WEEKDAY_WORDS = some (.bl (decide (h ∈ WEEK))) := in_tupS (ws := WEEK) false ok (by decide +kernel)
theorem find2 {h : Str} {r : D} (ok : PyData.strOk h = true) (p : Pl r) : m_find_kind [.sh (.tup [.str h, r])] = .ok (.sh (kd (.tup [.str h, r]))) [] := by
  have e : CK.f .eq (.int 2) (.int 1) = some (.bl false) := rfl
  have l1 : CK.f .le (.int 1) (.int 2) = some (.bl true) := rfl
  have l2 : CK.f .le (.int 2) (.int 2) = some (.bl true) := rfl
  have q1 := e_eqS h "name"
  have q2 := e_eqS h "place"
  have q3 := e_eqS h "date"
  have q4 := in_step h ok
  have q5 := in_week h ok
  have en := name_ok p
  have ew := whole_ok p
  refine (e_run [] 3 _ _ rfl).trans ?_
  unfold b_find_kind
  rw [show kd (.tup [.str h, r]) = kd2 (decide (h = "name")) (decide (h = "place")) (decide (h = "date")) (decide (h ∈ STEP)) (decide (h ∈ WEEK)) r from rfl]
  generalize decide (h = "name") = bn at *
  generalize decide (h = "place") = bp at *
  generalize decide (h = "date") = bd at *
  generalize decide (h ∈ STEP) = bS at *
  generalize decide (h ∈ WEEK) = bW at *
  generalize tab_SINGLE_WORDS = T at *
  cases bn with
  | true => cases n : nm r <;> rw [n] at en <;> simp only [RFS, RVS, isT, isStr, lenT2, l1, l2, e, ix20, ix21, q1, en, kd2, ifD, n, if_true, if_false, Bool.false_eq_true, -e_lenT, -e_eqI, -e_leI]
  | false => cases bp with
    | true => cases n : nm r <;> rw [n] at en <;> simp only [RFS, RVS, isT, isStr, lenT2, l1, l2, e, ix20, ix21, q1, q2, en, kd2, ifD, n, if_true, if_false, Bool.false_eq_true, -e_lenT, -e_eqI, -e_leI]
    | false =>
      cases p with
      | int i =>
        have ew : m_is_whole [.sh (.int i)] = .ok (.sh (.bl true)) [] := ew
        cases bd with
        | true => simp only [RFS, RVS, isT, isStr, lenT2, l1, l2, e, ix20, ix21, q1, q2, q3, ew, kd2, ifD, if_true, if_false, Bool.false_eq_true, -e_lenT, -e_eqI, -e_leI]
        | false => cases bS with
          | true =>
            have a1 : CK.f .le (.int (-30)) (.int i) = some (.bl (decide (-30 ≤ i))) := rfl
            have a2 : CK.f .le (.int i) g_MOST_STEP = some (.bl (decide (i ≤ 30))) := rfl
            rw [show kd2 false false false true bW (.int i) = ifD (decide (-30 ≤ i) && decide (i ≤ 30)) (.str "day") from rfl]
            generalize decide (-30 ≤ i) = c1 at *
            generalize decide (i ≤ 30) = c2 at *
            cases c1 <;> cases c2 <;> simp only [RFS, RVS, isT, isStr, lenT2, l1, l2, e, ix20, ix21, q1, q2, q3, q4, neg30, a1, a2, ew, kd2, ifD, if_true, if_false, Bool.false_eq_true, Bool.and_true, Bool.and_false, Bool.true_and, Bool.false_and, -e_lenT, -e_eqI, -e_leI]
          | false => cases bW with
            | true =>
              have a1 : CK.f .le (.int 0) (.int i) = some (.bl (decide (0 ≤ i))) := rfl
              have a2 : CK.f .le (.int i) (.int 6) = some (.bl (decide (i ≤ 6))) := rfl
              rw [show kd2 false false false false true (.int i) = ifD (decide (0 ≤ i) && decide (i ≤ 6)) (.str "day") from rfl]
              generalize decide (0 ≤ i) = c1 at *
              generalize decide (i ≤ 6) = c2 at *
              cases c1 <;> cases c2 <;> simp only [RFS, RVS, isT, isStr, lenT2, l1, l2, e, ix20, ix21, q1, q2, q3, q4, q5, a1, a2, ew, kd2, ifD, if_true, if_false, Bool.false_eq_true, Bool.and_true, Bool.and_false, Bool.true_and, Bool.false_and, -e_lenT, -e_eqI, -e_leI]
            | false => simp only [RFS, RVS, isT, isStr, lenT2, l1, l2, e, ix20, ix21, q1, q2, q3, q4, q5, ew, kd2, if_true, if_false, Bool.false_eq_true, -e_lenT, -e_eqI, -e_leI]
      | non => simp only [RFS, RVS, isT, isStr, lenT2, l1, l2, e, ix20, ix21, q1, q2, show m_is_whole [.sh .non] = .ok (.sh (.bl false)) [] from ew, kd2, if_true, if_false, Bool.false_eq_true, -e_lenT, -e_eqI, -e_leI]
      | bl b => simp only [RFS, RVS, isT, isStr, lenT2, l1, l2, e, ix20, ix21, q1, q2, show m_is_whole [.sh (.bl b)] = .ok (.sh (.bl false)) [] from ew, kd2, if_true, if_false, Bool.false_eq_true, -e_lenT, -e_eqI, -e_leI]
      | lst b => simp only [RFS, RVS, isT, isStr, lenT2, l1, l2, e, ix20, ix21, q1, q2, show m_is_whole [.sh (.lst b)] = .ok (.sh (.bl false)) [] from ew, kd2, if_true, if_false, Bool.false_eq_true, -e_lenT, -e_eqI, -e_leI]
      | tup b => simp only [RFS, RVS, isT, isStr, lenT2, l1, l2, e, ix20, ix21, q1, q2, show m_is_whole [.sh (.tup b)] = .ok (.sh (.bl false)) [] from ew, kd2, if_true, if_false, Bool.false_eq_true, -e_lenT, -e_eqI, -e_leI]
      | @nam x hx => simp only [RFS, RVS, isT, isStr, lenT2, l1, l2, e, ix20, ix21, q1, q2, show m_is_whole [.sh (.str x)] = .ok (.sh (.bl false)) [] from ew, kd2, if_true, if_false, Bool.false_eq_true, -e_lenT, -e_eqI, -e_leI]
      | @bad x hx _ => simp only [RFS, RVS, isT, isStr, lenT2, l1, l2, e, ix20, ix21, q1, q2, show m_is_whole [.sh (.str x)] = .ok (.sh (.bl false)) [] from ew, kd2, if_true, if_false, Bool.false_eq_true, -e_lenT, -e_eqI, -e_leI]
structure Rs (r : D) : Prop where
  pl : Pl r
inductive Th : D → Prop
  | one {h : Str} (ok : PyData.strOk h = true) : Th (.tup [.str h])
  | two {h : Str} {r : D} (ok : PyData.strOk h = true) (p : Rs r) : Th (.tup [.str h, r])
  | non : Th .non
  | bl (b : Bool) : Th (.bl b)
  | int (i : Int) : Th (.int i)
  | str (x : Str) : Th (.str x)
  | lst (ds : List D) : Th (.lst ds)
  | nil : Th (.tup [])
  | num (i : Int) : Th (.tup [.int i])
  | three (a b c : D) : Th (.tup [a, b, c])
theorem find_ok {d : D} (h : Th d) : m_find_kind [.sh d] = .ok (.sh (kd d)) [] := by
  cases h with
  | one ok => exact find1 _
  | two ok p => exact find2 ok p.pl
  | non => kernel_rfl
  | bl b => kernel_rfl
  | int i => kernel_rfl
  | str x => kernel_rfl
  | lst ds => kernel_rfl
  | nil => kernel_rfl
  | num i => kernel_rfl
  | three a b c => rw [show kd (.tup [a, b, c]) = .non from by cases a <;> rfl]; kernel_rfl
def xW : EX := ⟨1, []⟩
theorem kof_bad {d : D} (h : Th d) (q : kd d = .non) : m_kind_of [.sh d] = .exc xW [] := by
  have e := find_ok h
  rw [q] at e
  have i : CK.f .isN .non .non = some (.bl true) := rfl
  refine (e_run [] 2 _ _ rfl).trans ?_
  unfold b_kind_of
  simp only [RFS, RVS, e, i, xW]
inductive Wd where
  | I | you | self | told | somebody | oneDay | here | there | somewhere
  | nam (x : Str) | pla (x : Str) | dat (n : Int) | tod (n : Int) | tha (n : Int) | com (w : Int) | las (w : Int) | tco (w : Int) | tla (w : Int)
def Wd.d : Wd → D
  | .I => .tup [.str "I"] | .you => .tup [.str "you"] | .self => .tup [.str "self"] | .told => .tup [.str "told"] | .somebody => .tup [.str "somebody"] | .oneDay => .tup [.str "one day"]
  | .here => .tup [.str "here"] | .there => .tup [.str "there"] | .somewhere => .tup [.str "somewhere"]
  | .nam x => .tup [.str "name", .str x] | .pla x => .tup [.str "place", .str x] | .dat n => .tup [.str "date", .int n] | .tod n => .tup [.str "today", .int n] | .tha n => .tup [.str "that day", .int n]
  | .com w => .tup [.str "coming", .int w] | .las w => .tup [.str "last", .int w] | .tco w => .tup [.str "then coming", .int w] | .tla w => .tup [.str "then last", .int w]
def Wd.ok : Wd → Prop
  | .nam x => Nm x
  | .pla x => Nm x
  | .tod n => -30 ≤ n ∧ n ≤ 30
  | .tha n => -30 ≤ n ∧ n ≤ 30
  | .com w => 0 ≤ w ∧ w ≤ 6
  | .las w => 0 ≤ w ∧ w ≤ 6
  | .tco w => 0 ≤ w ∧ w ≤ 6
  | .tla w => 0 ≤ w ∧ w ≤ 6
  | .dat n => n.natAbs < 10 ^ 100
  | _ => True
def Wd.unk : Wd → Bool
  | .somebody => true | .oneDay => true | .somewhere => true | _ => false
def Wd.abs : Wd → Bool
  | .nam _ => true | .pla _ => true | .dat _ => true | _ => false
def Wd.kind : Wd → Str
  | .I => "person" | .you => "person" | .self => "person" | .told => "person" | .somebody => "person" | .nam _ => "person"
  | .here => "place" | .there => "place" | .somewhere => "place" | .pla _ => "place"
  | _ => "day"
def Wd.day : Wd → Bool
  | .dat _ => true | .tod _ => true | .tha _ => true | .com _ => true | .las _ => true | .tco _ => true | .tla _ => true | _ => false
def Wd.head : Wd → Str
  | .I => "I" | .you => "you" | .self => "self" | .told => "told" | .somebody => "somebody" | .oneDay => "one day" | .here => "here" | .there => "there" | .somewhere => "somewhere"
  | .nam _ => "name" | .pla _ => "place" | .dat _ => "date" | .tod _ => "today" | .tha _ => "that day" | .com _ => "coming" | .las _ => "last" | .tco _ => "then coming" | .tla _ => "then last"
theorem find_int {h : Str} (ok : PyData.strOk h = true) (i : Int) : m_find_kind [.sh (.tup [.str h, .int i])] = .ok (.sh (kd (.tup [.str h, .int i]))) [] := find2 ok (.int i)
theorem find_w {w : Wd} (h : w.ok) : m_find_kind [.sh w.d] = .ok (.sh (.str w.kind)) [] := by
  cases w with
  | nam x =>
    rw [show Wd.d (.nam x) = .tup [.str "name", .str x] from rfl, find2 (by decide +kernel) (.nam h)]
    have e : kd (.tup [.str "name", .str x]) = ifD (nm (.str x)) (.str "person") := by kernel_rfl
    rw [e, show nm (.str x) = true from Nm.nm h]; rfl
  | pla x =>
    rw [show Wd.d (.pla x) = .tup [.str "place", .str x] from rfl, find2 (by decide +kernel) (.nam h)]
    have e : kd (.tup [.str "place", .str x]) = ifD (nm (.str x)) (.str "place") := by kernel_rfl
    rw [e, show nm (.str x) = true from Nm.nm h]; rfl
  | dat n => rw [show Wd.d (.dat n) = .tup [.str "date", .int n] from rfl, find_int (by decide +kernel)]; kernel_rfl
  | tod n =>
    rw [show Wd.d (.tod n) = .tup [.str "today", .int n] from rfl, find_int (by decide +kernel)]
    have e : kd (.tup [.str "today", .int n]) = ifD (decide (-30 ≤ n) && decide (n ≤ 30)) (.str "day") := by kernel_rfl
    rw [e, decide_eq_true h.1, decide_eq_true h.2]; rfl
  | tha n =>
    rw [show Wd.d (.tha n) = .tup [.str "that day", .int n] from rfl, find_int (by decide +kernel)]
    have e : kd (.tup [.str "that day", .int n]) = ifD (decide (-30 ≤ n) && decide (n ≤ 30)) (.str "day") := by kernel_rfl
    rw [e, decide_eq_true h.1, decide_eq_true h.2]; rfl
  | com n =>
    rw [show Wd.d (.com n) = .tup [.str "coming", .int n] from rfl, find_int (by decide +kernel)]
    have e : kd (.tup [.str "coming", .int n]) = ifD (decide (0 ≤ n) && decide (n ≤ 6)) (.str "day") := by kernel_rfl
    rw [e, decide_eq_true h.1, decide_eq_true h.2]; rfl
  | las n =>
    rw [show Wd.d (.las n) = .tup [.str "last", .int n] from rfl, find_int (by decide +kernel)]
    have e : kd (.tup [.str "last", .int n]) = ifD (decide (0 ≤ n) && decide (n ≤ 6)) (.str "day") := by kernel_rfl
    rw [e, decide_eq_true h.1, decide_eq_true h.2]; rfl
  | tco n =>
    rw [show Wd.d (.tco n) = .tup [.str "then coming", .int n] from rfl, find_int (by decide +kernel)]
    have e : kd (.tup [.str "then coming", .int n]) = ifD (decide (0 ≤ n) && decide (n ≤ 6)) (.str "day") := by kernel_rfl
    rw [e, decide_eq_true h.1, decide_eq_true h.2]; rfl
  | tla n =>
    rw [show Wd.d (.tla n) = .tup [.str "then last", .int n] from rfl, find_int (by decide +kernel)]
    have e : kd (.tup [.str "then last", .int n]) = ifD (decide (0 ≤ n) && decide (n ≤ 6)) (.str "day") := by kernel_rfl
    rw [e, decide_eq_true h.1, decide_eq_true h.2]; rfl
  | _ => kernel_rfl
theorem kof_w {w : Wd} (h : w.ok) : m_kind_of [.sh w.d] = .ok (.sh (.str w.kind)) [] := by
  have e := find_w h
  have i : CK.f .isN (.str w.kind) .non = some (.bl false) := rfl
  generalize w.kind = k at *
  generalize w.d = d at *
  refine (e_run [] 2 _ _ rfl).trans ?_
  unfold b_kind_of
  simp only [RFS, RVS, e, i]
theorem oXW1 (a : D) (ρ : ENV) : outK [.inl a] ρ (.exc xW []) = .exc xW ρ := rfl
end L08
set_option Elab.async false
set_option linter.all false
set_option maxRecDepth 100000
set_option maxHeartbeats 4000000
namespace L08
open PySem L2 Rf
theorem eqI (i j : Int) : CK.f .eq (.int i) (.int j) = some (.bl (i == j)) := rfl
theorem ltI (i j : Int) : CK.f .lt (.int i) (.int j) = some (.bl (decide (i < j))) := rfl
def Wd.inn : Wd → Bool
  | .self => true | .told => true | .tha _ => true | .tco _ => true | .tla _ => true | .there => true | _ => false
structure Dw (ns ps : List Str) (b : Bool) (x : Wd) : Prop where
  ok : x.ok
  inn : x.inn = true → b = true
  wn : ∀ y, x = .nam y → y ∈ ns
  wp : ∀ y, x = .pla y → y ∈ ps
  unk : x.unk = false
theorem wd0 (ns ps : List Str) : vIxI (WD ns ps) (.int 0) = some (.lst (ND ns)) := at0 _ _
theorem wd1 (ns ps : List Str) : vIxI (WD ns ps) (.int 1) = some (.lst (ND ps)) := at1 _ _ _
theorem lenND {ns : List Str} {n : Nat} (h : ns.length = n) : fLen [.lst (ND ns)] = some (.int n) := by
  show some (D.int ((ND ns).length : Int)) = _
  unfold ND
  rw [List.length_map, h]
theorem person_t {m : M} {ns ps : List Str} (hm : Good m) (w : Wo ns ps) : ∃ (x : Wd) (m' : M), m__law_person [.ow m, .sh (WD ns ps), .sh (.bl true)] = .ok (.sh x.d) [m'] ∧ Good m' ∧ Dw ns ps true x ∧ x.kind = "person" := by
  obtain ⟨a, m1, e1, g1, a0, a1⟩ := tk (n := 6) hm (by decide)
  have q2 := eqI a 2
  have q3 := eqI a 3
  by_cases hn : a = 2 ∨ a = 3
  · obtain ⟨r, m2, e2, g2, r0, r1⟩ := tk (n := 3) g1 (by decide)
    obtain ⟨x, hx, nx⟩ := at_name (ns := ns) r0 (by rw [w.l1]; exact r1) w.h1
    have i0 := wd0 ns ps
    have l := lenND w.l1
    have l : fLen [.lst (ND ns)] = some (.int 3) := l
    refine ⟨.nam x, m2, ?_, g2, ⟨w.h1 x nx, (fun h => nomatch h), (fun y h => by cases h; exact nx), (fun _ h => nomatch h), rfl⟩, rfl⟩
    refine (e_run [0] 4 _ _ rfl).trans ?_
    unfold b__law_person Wd.d
    generalize WD ns ps = W at *
    generalize ND ns = N1 at *
    rcases hn with rfl | rfl <;> simp only [beq_self_eq_true, show ((3 : Int) == 2) = false from rfl] at q2 q3 <;> simp only [RFS, RVS, e_aIo (m := m), stepO2 (m := m), e1, q2, q3, i0, l, e_aIo (m := m1), stepO2 (m := m1), e2, hx, -e_eqI, -e_ixL, -e_lenL]
  · have n2 : a ≠ 2 := fun z => hn (.inl z)
    have n3 : a ≠ 3 := fun z => hn (.inr z)
    rw [beq_false_of_ne n2] at q2
    rw [beq_false_of_ne n3] at q3
    have go : ∀ x : Wd, vIxI (.lst [Wd.I.d, Wd.you.d, .str "", .str "", Wd.self.d, Wd.told.d]) (.int a) = some x.d → m__law_person [.ow m, .sh (WD ns ps), .sh (.bl true)] = .ok (.sh x.d) [m1] := fun x hx => by
      have hx : vIxI (.lst [.tup [.str "I"], .tup [.str "you"], .str "", .str "", .tup [.str "self"], .tup [.str "told"]]) (.int a) = some x.d := hx
      refine (e_run [0] 4 _ _ rfl).trans ?_
      unfold b__law_person
      generalize WD ns ps = W at *
      generalize x.d = D0 at *
      simp only [RFS, RVS, e_aIo (m := m), stepO2 (m := m), e1, q2, q3, hx, -e_eqI, -e_ixL]
    have : a = 0 ∨ a = 1 ∨ a = 4 ∨ a = 5 := by omega
    rcases this with rfl | rfl | rfl | rfl
    · exact ⟨.I, m1, go _ rfl, g1, ⟨⟨trivial, (fun h => nomatch h), (fun _ h => nomatch h), (fun _ h => nomatch h), rfl⟩, rfl⟩⟩
    · exact ⟨.you, m1, go _ rfl, g1, ⟨⟨trivial, (fun h => nomatch h), (fun _ h => nomatch h), (fun _ h => nomatch h), rfl⟩, rfl⟩⟩
    · exact ⟨.self, m1, go _ rfl, g1, ⟨⟨trivial, (fun _ => rfl), (fun _ h => nomatch h), (fun _ h => nomatch h), rfl⟩, rfl⟩⟩
    · exact ⟨.told, m1, go _ rfl, g1, ⟨⟨trivial, (fun _ => rfl), (fun _ h => nomatch h), (fun _ h => nomatch h), rfl⟩, rfl⟩⟩
theorem place_t {m : M} {ns ps : List Str} (hm : Good m) (w : Wo ns ps) : ∃ (x : Wd) (m' : M), m__law_place [.ow m, .sh (WD ns ps), .sh (.bl true)] = .ok (.sh x.d) [m'] ∧ Good m' ∧ Dw ns ps true x ∧ x.kind = "place" := by
  obtain ⟨a, m1, e1, g1, a0, a1⟩ := tk (n := 4) hm (by decide)
  have q0 := eqI a 0
  have q3 := eqI a 3
  by_cases h0 : a = 0
  · subst h0
    refine ⟨.here, m1, ?_, g1, ⟨⟨trivial, (fun h => nomatch h), (fun _ h => nomatch h), (fun _ h => nomatch h), rfl⟩, rfl⟩⟩
    simp only [beq_self_eq_true] at q0
    refine (e_run [0] 4 _ _ rfl).trans ?_
    unfold b__law_place Wd.d
    generalize WD ns ps = W at *
    simp only [RFS, RVS, e_aIo (m := m), stepO2 (m := m), e1, q0, -e_eqI]
  · rw [beq_false_of_ne h0] at q0
    by_cases h3 : a = 3
    · subst h3
      refine ⟨.there, m1, ?_, g1, ⟨⟨trivial, (fun _ => rfl), (fun _ h => nomatch h), (fun _ h => nomatch h), rfl⟩, rfl⟩⟩
      simp only [beq_self_eq_true] at q3
      refine (e_run [0] 4 _ _ rfl).trans ?_
      unfold b__law_place Wd.d
      generalize WD ns ps = W at *
      simp only [RFS, RVS, e_aIo (m := m), stepO2 (m := m), e1, q0, q3, -e_eqI]
    · rw [beq_false_of_ne h3] at q3
      obtain ⟨r, m2, e2, g2, r0, r1⟩ := tk (n := 2) g1 (by decide)
      obtain ⟨x, hx, nx⟩ := at_name (ns := ps) r0 (by rw [w.l2]; exact r1) w.h2
      have i1 := wd1 ns ps
      have l : fLen [.lst (ND ps)] = some (.int 2) := lenND w.l2
      refine ⟨.pla x, m2, ?_, g2, ⟨w.h2 x nx, (fun h => nomatch h), (fun _ h => nomatch h), (fun y h => by cases h; exact nx), rfl⟩, rfl⟩
      refine (e_run [0] 4 _ _ rfl).trans ?_
      unfold b__law_place Wd.d
      generalize WD ns ps = W at *
      generalize ND ps = N1 at *
      simp only [RFS, RVS, e_aIo (m := m), stepO2 (m := m), e1, q0, q3, i1, l, e_aIo (m := m1), stepO2 (m := m1), e2, hx, -e_eqI, -e_ixL, -e_lenL]
theorem step_ok {m : M} (hm : Good m) : ∃ r m', m__law_step [.ow m] = .ok (.sh (.int r)) [m'] ∧ Good m' ∧ -30 ≤ r ∧ r ≤ 30 := by
  obtain ⟨a, m1, e1, g1, a0, a1⟩ := tk (n := 8) hm (by decide)
  by_cases ha : a = 0
  · subst ha
    obtain ⟨b, m2, e2, g2, b0, b1⟩ := tk (n := 61) g1 (by decide)
    refine ⟨b - 30, m2, ?_, g2, by omega, by omega⟩
    refine (e_run [0] 1 _ _ rfl).trans ?_
    unfold b__law_step
    simp only [RFS, e_aIo (m := m), e_aIo (m := m1), stepO2 (m := m), stepO2 (m := m1), e1, e2, beq_self_eq_true]
  · have hb : (a == 0) = false := beq_false_of_ne ha
    obtain ⟨b, m2, e2, g2, b0, b1⟩ := tk (n := 7) g1 (by decide)
    refine ⟨b - 3, m2, ?_, g2, by omega, by omega⟩
    refine (e_run [0] 1 _ _ rfl).trans ?_
    unfold b__law_step
    simp only [RFS, e_aIo (m := m), e_aIo (m := m1), stepO2 (m := m), stepO2 (m := m1), e1, e2, hb]
theorem day_t {m : M} (ns ps : List Str) (hm : Good m) : ∃ (x : Wd) (m' : M), m__law_day [.ow m, .sh (.bl true)] = .ok (.sh x.d) [m'] ∧ Good m' ∧ Dw ns ps true x ∧ x.kind = "day" := by
  obtain ⟨a, m1, e1, g1, a0, a1⟩ := tk (n := 10) hm (by decide)
  have q0 := ltI a 3
  have q3 := eqI a 3
  have q6 := eqI a 6
  have q7 := eqI a 7
  by_cases h0 : a < 3
  · obtain ⟨r, m2, e2, g2, r0, r1⟩ := step_ok g1
    rw [decide_eq_true h0] at q0
    refine ⟨.tod r, m2, ?_, g2, ⟨⟨⟨r0, r1⟩, (fun h => nomatch h), (fun _ h => nomatch h), (fun _ h => nomatch h), rfl⟩, rfl⟩⟩
    refine (e_run [0] 3 _ _ rfl).trans ?_
    unfold b__law_day Wd.d
    simp only [RFS, RVS, e_aIo (m := m), stepO2 (m := m), e1, q0, e_aIo (m := m1), stepO1 (m := m1), e2, -e_eqI, -e_ltI]
  · rw [decide_eq_false h0] at q0
    by_cases h3 : a = 3
    · obtain ⟨r, m2, e2, g2, r9⟩ := date_ok g1
      rw [show (a == 3) = true by rw [h3]; rfl] at q3
      refine ⟨.dat r, m2, ?_, g2, ⟨⟨r9, (fun h => nomatch h), (fun _ h => nomatch h), (fun _ h => nomatch h), rfl⟩, rfl⟩⟩
      refine (e_run [0] 3 _ _ rfl).trans ?_
      unfold b__law_day Wd.d
      simp only [RFS, RVS, e_aIo (m := m), stepO2 (m := m), e1, q0, q3, e_aIo (m := m1), stepO1 (m := m1), e2, -e_eqI, -e_ltI]
    · rw [beq_false_of_ne h3] at q3
      by_cases h67 : a = 6 ∨ a = 7
      · obtain ⟨r, m2, e2, g2, r0, r1⟩ := step_ok g1
        refine ⟨.tha r, m2, ?_, g2, ⟨⟨⟨r0, r1⟩, (fun _ => rfl), (fun _ h => nomatch h), (fun _ h => nomatch h), rfl⟩, rfl⟩⟩
        refine (e_run [0] 3 _ _ rfl).trans ?_
        unfold b__law_day Wd.d
        rcases h67 with rfl | rfl <;> simp only [beq_self_eq_true, show ((7 : Int) == 6) = false from rfl] at q6 q7 <;> simp only [RFS, RVS, e_aIo (m := m), stepO2 (m := m), e1, q0, q3, q6, q7, e_aIo (m := m1), stepO1 (m := m1), e2, -e_eqI, -e_ltI]
      · have n6 : a ≠ 6 := fun z => h67 (.inl z)
        have n7 : a ≠ 7 := fun z => h67 (.inr z)
        rw [beq_false_of_ne n6] at q6
        rw [beq_false_of_ne n7] at q7
        obtain ⟨r, m2, e2, g2, r0, r1⟩ := tk (n := 7) g1 (by decide)
        have go : ∀ x : Str, vIxI (.lst [.str "", .str "", .str "", .str "", .str "coming", .str "last", .str "", .str "", .str "then coming", .str "then last"]) (.int a) = some (.str x) → m__law_day [.ow m, .sh (.bl true)] = .ok (.sh (.tup [.str x, .int r])) [m2] := fun x hx => by
          refine (e_run [0] 3 _ _ rfl).trans ?_
          unfold b__law_day
          simp only [RFS, RVS, e_aIo (m := m), stepO2 (m := m), e1, q0, q3, q6, q7, hx, e_aIo (m := m1), stepO2 (m := m1), e2, -e_eqI, -e_ltI, -e_ixL]
        have : a = 4 ∨ a = 5 ∨ a = 8 ∨ a = 9 := by omega
        rcases this with rfl | rfl | rfl | rfl
        · exact ⟨.com r, m2, go "coming" rfl, g2, ⟨⟨⟨r0, by omega⟩, (fun h => nomatch h), (fun _ h => nomatch h), (fun _ h => nomatch h), rfl⟩, rfl⟩⟩
        · exact ⟨.las r, m2, go "last" rfl, g2, ⟨⟨⟨r0, by omega⟩, (fun h => nomatch h), (fun _ h => nomatch h), (fun _ h => nomatch h), rfl⟩, rfl⟩⟩
        · exact ⟨.tco r, m2, go "then coming" rfl, g2, ⟨⟨⟨r0, by omega⟩, (fun _ => rfl), (fun _ h => nomatch h), (fun _ h => nomatch h), rfl⟩, rfl⟩⟩
        · exact ⟨.tla r, m2, go "then last" rfl, g2, ⟨⟨⟨r0, by omega⟩, (fun _ => rfl), (fun _ h => nomatch h), (fun _ h => nomatch h), rfl⟩, rfl⟩⟩
theorem word_t {m : M} {ns ps : List Str} (hm : Good m) (w : Wo ns ps) : ∃ (x : Wd) (m' : M), m__law_word [.ow m, .sh (WD ns ps), .sh (.bl true)] = .ok (.sh x.d) [m'] ∧ Good m' ∧ Dw ns ps true x := by
  obtain ⟨a, m1, e1, g1, a0, a1⟩ := tk (n := 4) hm (by decide)
  have q0 := eqI a 0
  have q1 := eqI a 1
  by_cases h0 : a = 0
  · obtain ⟨x, m2, e2, g2, hx, _⟩ := person_t g1 w
    rw [show (a == 0) = true by rw [h0]; rfl] at q0
    refine ⟨x, m2, ?_, g2, hx⟩
    refine (e_run [0] 4 _ _ rfl).trans ?_
    unfold b__law_word
    generalize WD ns ps = W at *
    generalize x.d = D0 at *
    simp only [RFS, RVS, e_aIo (m := m), stepO2 (m := m), e1, q0, e_aIo (m := m1), stepO3 (m := m1), e2, -e_eqI]
  · rw [beq_false_of_ne h0] at q0
    by_cases h1 : a = 1
    · obtain ⟨x, m2, e2, g2, hx, _⟩ := place_t g1 w
      rw [show (a == 1) = true by rw [h1]; rfl] at q1
      refine ⟨x, m2, ?_, g2, hx⟩
      refine (e_run [0] 4 _ _ rfl).trans ?_
      unfold b__law_word
      generalize WD ns ps = W at *
      generalize x.d = D0 at *
      simp only [RFS, RVS, e_aIo (m := m), stepO2 (m := m), e1, q0, q1, e_aIo (m := m1), stepO3 (m := m1), e2, -e_eqI]
    · obtain ⟨x, m2, e2, g2, hx, _⟩ := day_t ns ps g1
      rw [beq_false_of_ne h1] at q1
      refine ⟨x, m2, ?_, g2, hx⟩
      refine (e_run [0] 4 _ _ rfl).trans ?_
      unfold b__law_word
      generalize WD ns ps = W at *
      generalize x.d = D0 at *
      simp only [RFS, RVS, e_aIo (m := m), stepO2 (m := m), e1, q0, q1, e_aIo (m := m1), stepO2 (m := m1), e2, -e_eqI]
end L08
set_option Elab.async false
set_option linter.all false
set_option maxRecDepth 100000
set_option maxHeartbeats 4000000
namespace L08
open PySem L2 Rf
open SX (S)
open TL (numL)
open NumText (digitsVal AllDigits)
def dig (c : Nat) : Bool := decide (48 ≤ c) && decide (c ≤ 57)
def fig (l : List Nat) : Bool := decide (1 ≤ l.length) && decide (l.length ≤ 100) && l.all dig && (decide (l = [48]) || !decide (l.head? = some 48))
def num (l : List Nat) : Option Int := if fig l = true then some (digitsVal l : Nat) else if l.head? = some 45 ∧ fig l.tail = true ∧ l ≠ [45, 48] then some (-((digitsVal l.tail : Nat) : Int)) else none
def itL (n : Int) : List Nat := if n < 0 then 45 :: numL n.natAbs else numL n.natAbs
structure Fig (l : List Nat) : Prop where
  lo : 1 ≤ l.length
  hi : l.length ≤ 100
  all : AllDigits l
  can : l = [48] ∨ ∃ c r, l = c :: r ∧ 49 ≤ c
theorem all_dig {l : List Nat} (h : l.all dig = true) : AllDigits l := fun c hc => by
  have := List.all_eq_true.mp h c hc
  unfold dig at this
  simpa using this
theorem Fig.of {l : List Nat} (h : fig l = true) : Fig l := by
  unfold fig at h
  simp only [Bool.and_eq_true, decide_eq_true_eq, Bool.or_eq_true, Bool.not_eq_true', decide_eq_false_iff_not] at h
  obtain ⟨⟨⟨h1, h2⟩, h3⟩, h4⟩ := h
  refine ⟨h1, h2, all_dig h3, ?_⟩
  rcases h4 with h4 | h4
  · exact .inl h4
  · cases l with
    | nil => simp at h1
    | cons c r =>
      have := all_dig h3 c List.mem_cons_self
      have h5 : c ≠ 48 := fun z => h4 (by rw [z]; rfl)
      exact .inr ⟨c, r, rfl, by omega⟩
theorem dig_char {c : Nat} (h : 48 ≤ c ∧ c ≤ 57) : (Char.ofNat c).toNat = c := by
  have : c = 48 ∨ c = 49 ∨ c = 50 ∨ c = 51 ∨ c = 52 ∨ c = 53 ∨ c = 54 ∨ c = 55 ∨ c = 56 ∨ c = 57 := by omega
  rcases this with rfl | rfl | rfl | rfl | rfl | rfl | rfl | rfl | rfl | rfl <;> rfl
theorem chars_back : ∀ {l : List Nat}, AllDigits l → (l.map Char.ofNat).map Char.toNat = l
  | [], _ => rfl
  | c :: l, h => by
    rw [List.map_cons, List.map_cons, dig_char (h c List.mem_cons_self), chars_back fun d hd => h d (List.mem_cons_of_mem _ hd)]
theorem Fig.back {l : List Nat} (h : Fig l) : numL (digitsVal l) = l := by
  obtain ⟨n, hn⟩ : ∃ n, l.length = n + 1 := ⟨l.length - 1, by have := h.lo; omega⟩
  have e := NumText.toDigits_digitsVal n l hn h.all (by
    rcases h.can with h4 | h4
    · rw [h4] at hn; exact .inl (by simpa using hn.symm)
    · exact .inr h4)
  show (Nat.toDigits 10 (digitsVal l)).map Char.toNat = l
  rw [e, chars_back h.all]
theorem Fig.pos {l : List Nat} (h : Fig l) (h0 : l ≠ [48]) : 0 < digitsVal l := by
  rcases h.can with h4 | ⟨c, r, rfl, hc⟩
  · exact absurd h4 h0
  · exact NumText.digitsVal_pos hc
theorem num_it {l : List Nat} {n : Int} (h : num l = some n) : itL n = l := by
  unfold num at h
  by_cases hf : fig l = true
  · rw [if_pos hf] at h
    cases h
    unfold itL
    rw [if_neg (by omega)]
    exact (Fig.of hf).back
  · rw [if_neg hf] at h
    by_cases hg : l.head? = some 45 ∧ fig l.tail = true ∧ l ≠ [45, 48]
    · rw [if_pos hg] at h
      cases h
      obtain ⟨h1, h2, h3⟩ := hg
      cases l with
      | nil => cases h1
      | cons c r =>
        cases h1
        have hp := (Fig.of h2).pos fun z => h3 (by rw [show r = [48] from z])
        unfold itL
        rw [if_pos (by omega), Int.natAbs_neg, Int.natAbs_natCast]
        exact congrArg (45 :: ·) (Fig.of h2).back
    · rw [if_neg hg] at h; cases h
theorem numL_head : ∀ (k n : Nat), n < k → 0 < n → ∃ c r, numL n = c :: r ∧ 49 ≤ c
  | 0, n, h, _ => absurd h (Nat.not_lt_zero _)
  | k + 1, n, h, h0 => by
    by_cases h10 : n < 10
    · exact ⟨48 + n, [], TL.numL_lt h10, by omega⟩
    · obtain ⟨c, r, e, hc⟩ := numL_head k (n / 10) (by omega) (by omega)
      exact ⟨c, r ++ [48 + n % 10], by rw [TL.numL_step (by omega), e]; rfl, hc⟩
theorem num_len {n : Nat} (h : n < 10 ^ 100) : (numL n).length ≤ 100 := TL.numL_len (by decide) h
theorem dig_of {l : List Nat} (h : AllDigits l) : l.all dig = true := List.all_eq_true.mpr fun c hc => by
  unfold dig
  rw [decide_eq_true (h c hc).1, decide_eq_true (h c hc).2]
  rfl
theorem fig_num {n : Nat} (h : n < 10 ^ 100) : fig (numL n) = true := by
  have h1 := num_len h
  have h2 : 1 ≤ (numL n).length := by
    have := TL.numL_ne n
    cases e : numL n with
    | nil => exact absurd e this
    | cons c r => simp
  unfold fig
  rw [decide_eq_true h1, decide_eq_true h2, dig_of (TL.numL_digits n)]
  by_cases h0 : n = 0
  · subst h0; rfl
  · obtain ⟨c, r, e, hc⟩ := numL_head (n + 1) n (by omega) (by omega)
    rw [e, show (c :: r).head? = some c from rfl, decide_eq_false (show ¬ some c = some 48 by intro z; cases z; omega)]
    simp
theorem it_num {n : Int} (h : n.natAbs < 10 ^ 100) : num (itL n) = some n := by
  unfold itL
  by_cases h0 : n < 0
  · rw [if_pos h0]
    have hf : fig (45 :: numL n.natAbs) = false := by
      unfold fig
      rw [List.all_cons, show dig 45 = false from rfl]
      simp
    obtain ⟨c, r, e, hc⟩ := numL_head (n.natAbs + 1) n.natAbs (by omega) (by omega)
    have h3 : (45 :: numL n.natAbs) ≠ [45, 48] := by
      rw [e]
      intro z
      injection z with _ z
      injection z with z _
      omega
    unfold num
    rw [if_neg (by rw [hf]; simp), if_pos ⟨rfl, fig_num h, h3⟩]
    show some (-((digitsVal (numL n.natAbs) : Nat) : Int)) = _
    rw [TL.numL_val]
    congr 1
    omega
  · rw [if_neg h0]
    unfold num
    rw [if_pos (fig_num h), TL.numL_val]
    congr 1
    omega
def todL : List Nat := [116, 111, 100, 97, 121]
def thaL : List Nat := [116, 104, 97, 116]
def comL : List Nat := [99, 111, 109, 105, 110, 103]
def lasL : List Nat := [108, 97, 115, 116]
def tcoL : List Nat := [116, 104, 101, 110, 99, 111, 109, 105, 110, 103]
def tlaL : List Nat := [116, 104, 101, 110, 108, 97, 115, 116]
def stp (n : Int) : List Nat := if n = 0 then [] else if 0 < n then 43 :: itL n else itL n
def Wd.tx : Wd → List Nat
  | .I => [73] | .you => [121, 111, 117] | .self => [115, 101, 108, 102] | .told => [116, 111, 108, 100] | .somebody => [115, 111, 109, 101, 98, 111, 100, 121] | .oneDay => [115, 111, 109, 101, 100, 97, 121]
  | .here => [104, 101, 114, 101] | .there => [116, 104, 101, 114, 101] | .somewhere => [115, 111, 109, 101, 119, 104, 101, 114, 101]
  | .nam x => 64 :: x.cps.toList | .pla x => 35 :: x.cps.toList | .dat n => 61 :: itL n
  | .tod n => todL ++ stp n | .tha n => thaL ++ stp n | .com n => comL ++ itL n | .las n => lasL ++ itL n | .tco n => tcoL ++ itL n | .tla n => tlaL ++ itL n
def lk (l : List Nat) : List (List Nat × Wd) → Option Wd
  | [] => none
  | (x, w) :: r => if l = x then some w else lk l r
def sngW : List Wd := [.I, .you, .self, .told, .somebody, .oneDay, .here, .there, .somewhere]
def tab (ws : List Wd) : List (List Nat × Wd) := ws.map fun w => (w.tx, w)
def pre (h l : List Nat) : Bool := decide (l.take h.length = h)
def plus (r : List Nat) : Bool := decide (r.head? = some 43)
def stepW (f : Int → Wd) (r : List Nat) : Option Wd := match num (if plus r = true then r.tail else r) with
  | none => none
  | some n => if n = 0 ∨ decide (0 < n) ≠ plus r then none else if -30 ≤ n ∧ n ≤ 30 then some (f n) else none
def wk1 (h : List Nat) (f : Int → Wd) (l : List Nat) (e : Option Wd) : Option Wd := if pre h l = true then (match l.drop h.length with
  | [c] => if 48 ≤ c ∧ c ≤ 54 then some (f ((c : Int) - 48)) else e
  | _ => e) else e
def weekW (l : List Nat) : Option Wd := wk1 comL .com l (wk1 lasL .las l (wk1 tcoL .tco l (wk1 tlaL .tla l none)))
def restW (l : List Nat) : Option Wd := if l = todL then some (.tod 0) else if pre todL l = true then stepW .tod (l.drop 5) else if l = thaL then some (.tha 0) else if pre thaL l = true then stepW .tha (l.drop 4) else weekW l
def signW (l : List Nat) (e : Option Wd) : Option Wd :=
  if l.head? = some 64 then (if nmS (S l.tail) = true then some (.nam (S l.tail)) else none)
  else if l.head? = some 35 then (if nmS (S l.tail) = true then some (.pla (S l.tail)) else none)
  else if l.head? = some 61 then (num l.tail).map .dat else e
def orW (a b : Option Wd) : Option Wd := match a with
  | some w => some w
  | none => b
def findW (l : List Nat) : Option Wd := orW (lk l (tab sngW)) (signW l (restW l))
def intR (n : Nat) (a : Int) : List Int := (List.range n).map fun (k : Nat) => (k : Int) + a
def wkW : List Wd := (intR 7 0).map .com ++ ((intR 7 0).map .las ++ ((intR 7 0).map .tco ++ (intR 7 0).map .tla))
def stW : List Wd := (intR 61 (-30)).map .tod ++ (intR 61 (-30)).map .tha
theorem mem_intR {n : Nat} {a i : Int} : i ∈ intR n a ↔ a ≤ i ∧ i < a + n := by
  unfold intR
  rw [List.mem_map]
  constructor
  · rintro ⟨k, hk, rfl⟩
    have := List.mem_range.mp hk
    omega
  · rintro ⟨h1, h2⟩
    exact ⟨(i - a).toNat, List.mem_range.mpr (by omega), by omega⟩
theorem lk_mem {l : List Nat} {w : Wd} : ∀ {T : List (List Nat × Wd)}, lk l T = some w → (l, w) ∈ T
  | (x, v) :: T, h => by
    unfold lk at h
    by_cases e : l = x
    · rw [if_pos e] at h; cases h; rw [e]; exact List.mem_cons_self
    · rw [if_neg e] at h; exact List.mem_cons_of_mem _ (lk_mem h)
theorem lk_none {l : List Nat} {w : Wd} : ∀ {T : List (List Nat × Wd)}, lk l T = none → (l, w) ∉ T
  | [], _ => List.not_mem_nil
  | (x, v) :: T, h => by
    unfold lk at h
    by_cases e : l = x
    · rw [if_pos e] at h; cases h
    · rw [if_neg e] at h
      intro hm
      rcases List.mem_cons.mp hm with z | z
      · cases z; exact e rfl
      · exact lk_none h z
theorem tab_mem {l : List Nat} {w : Wd} {ws : List Wd} : (l, w) ∈ tab ws ↔ w.tx = l ∧ w ∈ ws := by
  unfold tab
  rw [List.mem_map]
  constructor
  · rintro ⟨v, hv, e⟩; cases e; exact ⟨rfl, hv⟩
  · rintro ⟨rfl, hw⟩; exact ⟨w, hw, rfl⟩
theorem pre_app {h l : List Nat} (e : pre h l = true) : l = h ++ l.drop h.length := by
  have e : l.take h.length = h := of_decide_eq_true e
  conv => lhs; rw [← List.take_append_drop h.length l, e]
theorem it_dig {n : Int} (h0 : 0 ≤ n) (h1 : n ≤ 6) : itL n = [(48 + n).toNat] := by
  unfold itL
  rw [if_neg (by omega), TL.numL_lt (by omega)]
  congr 1
  omega
theorem wk1_some {h : List Nat} {f : Int → Wd} {l : List Nat} {e : Option Wd} {w : Wd} (q : wk1 h f l e = some w) : (∃ n, 0 ≤ n ∧ n ≤ 6 ∧ w = f n ∧ l = h ++ itL n) ∨ e = some w := by
  unfold wk1 at q
  by_cases hp : pre h l = true
  · rw [if_pos hp] at q
    have ha := pre_app hp
    split at q
    · rename_i c hc
      by_cases hr : 48 ≤ c ∧ c ≤ 54
      · rw [if_pos hr] at q
        cases q
        refine .inl ⟨(c : Int) - 48, by omega, by omega, rfl, ?_⟩
        rw [it_dig (by omega) (by omega), show (48 + ((c : Int) - 48)).toNat = c by omega, ← hc]
        exact ha
      · rw [if_neg hr] at q; exact .inr q
    · exact .inr q
  · rw [if_neg hp] at q; exact .inr q
theorem step_some {f : Int → Wd} {r : List Nat} {w : Wd} (q : stepW f r = some w) : ∃ n, -30 ≤ n ∧ n ≤ 30 ∧ w = f n ∧ r = stp n := by
  unfold stepW at q
  split at q
  · cases q
  · rename_i n hn
    by_cases h1 : n = 0 ∨ decide (0 < n) ≠ plus r
    · rw [if_pos h1] at q; cases q
    · rw [if_neg h1] at q
      by_cases h2 : -30 ≤ n ∧ n ≤ 30
      · rw [if_pos h2] at q
        cases q
        have h0 : n ≠ 0 := fun z => h1 (.inl z)
        have hp : decide (0 < n) = plus r := Classical.byContradiction fun z => h1 (.inr z)
        refine ⟨n, h2.1, h2.2, rfl, ?_⟩
        unfold stp
        rw [if_neg h0]
        by_cases hn0 : 0 < n
        · rw [decide_eq_true hn0] at hp
          rw [if_pos hp.symm] at hn
          rw [if_pos hn0, num_it hn]
          have : r.head? = some 43 := of_decide_eq_true hp.symm
          cases r with
          | nil => cases this
          | cons c r => cases this; rfl
        · rw [decide_eq_false hn0] at hp
          rw [← hp, if_neg (by simp)] at hn
          rw [if_neg hn0, num_it hn]
      · rw [if_neg h2] at q; cases q
theorem rest_some {l : List Nat} {w : Wd} (q : restW l = some w) : w.tx = l ∧ w.ok ∧ (w ∈ wkW ∨ w ∈ stW ∧ (l.take 5 = todL ∨ l.take 4 = thaL)) := by
  have st1 : ∀ n : Int, -30 ≤ n → n ≤ 30 → Wd.tod n ∈ stW := fun n h1 h2 => List.mem_append_left _ (List.mem_map.mpr ⟨n, mem_intR.mpr ⟨h1, by omega⟩, rfl⟩)
  have st2 : ∀ n : Int, -30 ≤ n → n ≤ 30 → Wd.tha n ∈ stW := fun n h1 h2 => List.mem_append_right _ (List.mem_map.mpr ⟨n, mem_intR.mpr ⟨h1, by omega⟩, rfl⟩)
  have in7 : ∀ n : Int, 0 ≤ n → n ≤ 6 → n ∈ intR 7 0 := fun n h1 h2 => mem_intR.mpr ⟨h1, by omega⟩
  unfold restW at q
  by_cases h1 : l = todL
  · rw [if_pos h1] at q
    cases q
    exact ⟨h1.symm, ⟨by decide, by decide⟩, .inr ⟨st1 0 (by decide) (by decide), .inl (by rw [h1]; rfl)⟩⟩
  rw [if_neg h1] at q
  by_cases h2 : pre todL l = true
  · rw [if_pos h2] at q
    obtain ⟨n, n0, n1, rfl, e⟩ := step_some q
    have e2 := pre_app h2
    refine ⟨?_, ⟨n0, n1⟩, .inr ⟨st1 n n0 n1, .inl (of_decide_eq_true h2)⟩⟩
    show todL ++ stp n = l
    rw [← e]; exact e2.symm
  rw [if_neg h2] at q
  by_cases h3 : l = thaL
  · rw [if_pos h3] at q
    cases q
    exact ⟨h3.symm, ⟨by decide, by decide⟩, .inr ⟨st2 0 (by decide) (by decide), .inr (by rw [h3]; rfl)⟩⟩
  rw [if_neg h3] at q
  by_cases h4 : pre thaL l = true
  · rw [if_pos h4] at q
    obtain ⟨n, n0, n1, rfl, e⟩ := step_some q
    have e2 := pre_app h4
    refine ⟨?_, ⟨n0, n1⟩, .inr ⟨st2 n n0 n1, .inr (of_decide_eq_true h4)⟩⟩
    show thaL ++ stp n = l
    rw [← e]; exact e2.symm
  rw [if_neg h4] at q
  unfold weekW at q
  rcases wk1_some q with ⟨n, n0, n1, rfl, e⟩ | q
  · exact ⟨e.symm, ⟨n0, n1⟩, .inl (List.mem_append_left _ (List.mem_map.mpr ⟨n, in7 n n0 n1, rfl⟩))⟩
  rcases wk1_some q with ⟨n, n0, n1, rfl, e⟩ | q
  · exact ⟨e.symm, ⟨n0, n1⟩, .inl (List.mem_append_right _ (List.mem_append_left _ (List.mem_map.mpr ⟨n, in7 n n0 n1, rfl⟩)))⟩
  rcases wk1_some q with ⟨n, n0, n1, rfl, e⟩ | q
  · exact ⟨e.symm, ⟨n0, n1⟩, .inl (List.mem_append_right _ (List.mem_append_right _ (List.mem_append_left _ (List.mem_map.mpr ⟨n, in7 n n0 n1, rfl⟩))))⟩
  rcases wk1_some q with ⟨n, n0, n1, rfl, e⟩ | q
  · exact ⟨e.symm, ⟨n0, n1⟩, .inl (List.mem_append_right _ (List.mem_append_right _ (List.mem_append_right _ (List.mem_map.mpr ⟨n, in7 n n0 n1, rfl⟩))))⟩
  cases q
theorem low_mem {c : Nat} (h : low c = true) : c ∈ lowS := by
  have e := SX.in_one lowS c
  rw [show S lowS = LOW from SX.S_tl LOW] at e
  have h' : (!(Builtin.Str.occurrences LOW (S [c]) 0 LOW.length 1).isEmpty) = true := h
  rw [h'] at e
  exact of_decide_eq_true e.symm
theorem Nm.of {x : Str} (h : nmS x = true) : Nm x := by
  unfold nmS at h
  simp only [Bool.and_eq_true, decide_eq_true_eq] at h
  exact ⟨h.1.1, h.1.2, fun c hc => low_mem (List.all_eq_true.mp h.2 c hc)⟩
theorem dv_lt (r : List Nat) (h : AllDigits r) : digitsVal r < 10 ^ r.length := by
  have gen : ∀ (r : List Nat) (a : Nat), AllDigits r → r.foldl (fun acc c => acc * 10 + (c - 48)) a < (a + 1) * 10 ^ r.length := by
    intro r
    induction r with
    | nil => intro a _; simp
    | cons c r ih =>
      intro a h
      have hc := h c List.mem_cons_self
      have := ih (a * 10 + (c - 48)) fun d hd => h d (List.mem_cons_of_mem _ hd)
      rw [List.foldl_cons, List.length_cons, Nat.pow_succ]
      refine Nat.lt_of_lt_of_le this ?_
      rw [show (a + 1) * (10 ^ r.length * 10) = (a + 1) * 10 * 10 ^ r.length by rw [Nat.mul_assoc, Nat.mul_comm (10 ^ r.length)]]
      exact Nat.mul_le_mul_right _ (by omega)
  have := gen r 0 h
  rw [Nat.zero_add, Nat.one_mul] at this
  exact this
theorem find_some {l : List Nat} {w : Wd} (hl : l.length ≤ 5000) (q : findW l = some w) : w.tx = l ∧ w.ok := by
  unfold findW orW at q
  split at q
  · rename_i v hv
    cases q
    obtain ⟨h1, h2⟩ := tab_mem.mp (lk_mem hv)
    refine ⟨h1, ?_⟩
    simp only [sngW, List.mem_cons, List.not_mem_nil, or_false] at h2
    rcases h2 with rfl | rfl | rfl | rfl | rfl | rfl | rfl | rfl | rfl <;> trivial
  · unfold signW at q
    have hd : ∀ c, l.head? = some c → l = c :: l.tail := fun c h => by
      cases l with
      | nil => cases h
      | cons a r => cases h; rfl
    by_cases h1 : l.head? = some 64
    · rw [if_pos h1] at q
      by_cases h2 : nmS (S l.tail) = true
      · rw [if_pos h2] at q; cases q; exact ⟨(hd _ h1).symm, Nm.of h2⟩
      · rw [if_neg h2] at q; cases q
    rw [if_neg h1] at q
    by_cases h1 : l.head? = some 35
    · rw [if_pos h1] at q
      by_cases h2 : nmS (S l.tail) = true
      · rw [if_pos h2] at q; cases q; exact ⟨(hd _ h1).symm, Nm.of h2⟩
      · rw [if_neg h2] at q; cases q
    rw [if_neg h1] at q
    by_cases h1 : l.head? = some 61
    · rw [if_pos h1] at q
      cases hn : num l.tail with
      | none => rw [hn] at q; cases q
      | some n =>
        rw [hn] at q
        cases q
        refine ⟨?_, ?_⟩
        · show 61 :: itL n = l
          rw [num_it hn]; exact (hd _ h1).symm
        · show n.natAbs < 10 ^ 100
          unfold num at hn
          have fb : ∀ r : List Nat, fig r = true → digitsVal r < 10 ^ 100 := fun r hr => by
            have f := Fig.of hr
            refine Nat.lt_of_lt_of_le (?_ : digitsVal r < 10 ^ r.length) (Nat.pow_le_pow_right (by decide) f.hi)
            exact dv_lt r f.all
          split at hn
          · rename_i hf; cases hn; rw [Int.natAbs_natCast]; exact fb _ hf
          · split at hn
            · rename_i hf; cases hn; rw [Int.natAbs_neg, Int.natAbs_natCast]; exact fb _ hf.2.1
            · cases hn
    rw [if_neg h1] at q
    exact ⟨(rest_some q).1, (rest_some q).2.1⟩
end L08
set_option Elab.async false
set_option linter.all false
set_option maxRecDepth 100000
set_option maxHeartbeats 4000000
namespace L08
open PySem L2 Rf
open SX (S)
open TL (numL)
open NumText (digitsVal AllDigits)
theorem f_tod : (intR 61 (-30)).map (fun n => findW (Wd.tod n).tx) = (intR 61 (-30)).map fun n => some (Wd.tod n) := by kernel_rfl
theorem f_tha : (intR 61 (-30)).map (fun n => findW (Wd.tha n).tx) = (intR 61 (-30)).map fun n => some (Wd.tha n) := by kernel_rfl
theorem f_com : (intR 7 0).map (fun n => findW (Wd.com n).tx) = (intR 7 0).map fun n => some (Wd.com n) := by kernel_rfl
theorem f_las : (intR 7 0).map (fun n => findW (Wd.las n).tx) = (intR 7 0).map fun n => some (Wd.las n) := by kernel_rfl
theorem f_tco : (intR 7 0).map (fun n => findW (Wd.tco n).tx) = (intR 7 0).map fun n => some (Wd.tco n) := by kernel_rfl
theorem f_tla : (intR 7 0).map (fun n => findW (Wd.tla n).tx) = (intR 7 0).map fun n => some (Wd.tla n) := by kernel_rfl
theorem map_at {α β : Type} {f g : α → β} {l : List α} (h : l.map f = l.map g) : ∀ x ∈ l, f x = g x := List.map_inj_left.mp h
theorem sng_no {c : Nat} {r : List Nat} (h : c = 64 ∨ c = 35 ∨ c = 61) : lk (c :: r) (tab sngW) = none := by
  have hc : ∀ d ∈ [73, 121, 115, 116, 104], c ≠ d := fun d hd => by
    simp only [List.mem_cons, List.not_mem_nil, or_false] at hd
    omega
  have n : ∀ (d : Nat) (q : List Nat), d ∈ [73, 121, 115, 116, 104] → c :: r ≠ d :: q := fun d q hd e => by
    injection e with e _
    exact hc d hd e
  simp only [tab, sngW, List.map_cons, List.map_nil, lk, Wd.tx]
  rw [if_neg (n _ _ (by simp)), if_neg (n _ _ (by simp)), if_neg (n _ _ (by simp)), if_neg (n _ _ (by simp)), if_neg (n _ _ (by simp)), if_neg (n _ _ (by simp)), if_neg (n _ _ (by simp)), if_neg (n _ _ (by simp)), if_neg (n _ _ (by simp))]
theorem sg64 (r : List Nat) (e : Option Wd) : signW (64 :: r) e = if nmS (S r) = true then some (.nam (S r)) else none := rfl
theorem sg35 (r : List Nat) (e : Option Wd) : signW (35 :: r) e = if nmS (S r) = true then some (.pla (S r)) else none := rfl
theorem sg61 (r : List Nat) (e : Option Wd) : signW (61 :: r) e = (num r).map .dat := rfl
theorem find_tx {w : Wd} (h : w.ok) : findW w.tx = some w := by
  cases w with
  | nam x =>
    show findW (64 :: x.cps.toList) = _
    unfold findW
    rw [sng_no (.inl rfl)]
    show signW (64 :: x.cps.toList) _ = _
    rw [sg64, SX.S_tl, if_pos (Nm.nm h)]
  | pla x =>
    show findW (35 :: x.cps.toList) = _
    unfold findW
    rw [sng_no (.inr (.inl rfl))]
    show signW (35 :: x.cps.toList) _ = _
    rw [sg35, SX.S_tl, if_pos (Nm.nm h)]
  | dat n =>
    show findW (61 :: itL n) = _
    unfold findW
    rw [sng_no (.inr (.inr rfl))]
    show signW (61 :: itL n) _ = _
    rw [sg61, it_num h]; rfl
  | tod n => exact map_at f_tod n (mem_intR.mpr ⟨h.1, by have := h.2; omega⟩)
  | tha n => exact map_at f_tha n (mem_intR.mpr ⟨h.1, by have := h.2; omega⟩)
  | com n => exact map_at f_com n (mem_intR.mpr ⟨h.1, by have := h.2; omega⟩)
  | las n => exact map_at f_las n (mem_intR.mpr ⟨h.1, by have := h.2; omega⟩)
  | tco n => exact map_at f_tco n (mem_intR.mpr ⟨h.1, by have := h.2; omega⟩)
  | tla n => exact map_at f_tla n (mem_intR.mpr ⟨h.1, by have := h.2; omega⟩)
  | _ => kernel_rfl
theorem r_tod : (intR 61 (-30)).map (fun n => restW (Wd.tod n).tx) = (intR 61 (-30)).map fun n => some (Wd.tod n) := by kernel_rfl
theorem r_tha : (intR 61 (-30)).map (fun n => restW (Wd.tha n).tx) = (intR 61 (-30)).map fun n => some (Wd.tha n) := by kernel_rfl
theorem r_com : (intR 7 0).map (fun n => restW (Wd.com n).tx) = (intR 7 0).map fun n => some (Wd.com n) := by kernel_rfl
theorem r_las : (intR 7 0).map (fun n => restW (Wd.las n).tx) = (intR 7 0).map fun n => some (Wd.las n) := by kernel_rfl
theorem r_tco : (intR 7 0).map (fun n => restW (Wd.tco n).tx) = (intR 7 0).map fun n => some (Wd.tco n) := by kernel_rfl
theorem r_tla : (intR 7 0).map (fun n => restW (Wd.tla n).tx) = (intR 7 0).map fun n => some (Wd.tla n) := by kernel_rfl
theorem rest_tx {w : Wd} (h : w ∈ wkW ∨ w ∈ stW) : restW w.tx = some w := by
  have mp : ∀ {f : Int → Wd} {ns : List Int}, ns.map (fun n => restW (f n).tx) = ns.map (fun n => some (f n)) → w ∈ ns.map f → restW w.tx = some w := fun e hm => by
    obtain ⟨n, hn, rfl⟩ := List.mem_map.mp hm
    exact map_at e n hn
  unfold wkW stW at h
  rw [List.mem_append, List.mem_append, List.mem_append, List.mem_append] at h
  rcases h with (h | h | h | h) | (h | h)
  · exact mp r_com h
  · exact mp r_las h
  · exact mp r_tco h
  · exact mp r_tla h
  · exact mp r_tod h
  · exact mp r_tha h
theorem due_rest (l : List Nat) : orW (lk l (tab wkW)) (if l.take 5 ≠ todL ∧ l.take 4 ≠ thaL then none else lk l (tab stW)) = restW l := by
  cases h1 : lk l (tab wkW) with
  | some w =>
    obtain ⟨e, hm⟩ := tab_mem.mp (lk_mem h1)
    rw [← e, rest_tx (.inl hm)]; rfl
  | none =>
    show (if l.take 5 ≠ todL ∧ l.take 4 ≠ thaL then none else lk l (tab stW)) = _
    by_cases h2 : l.take 5 ≠ todL ∧ l.take 4 ≠ thaL
    · rw [if_pos h2]
      cases h3 : restW l with
      | none => rfl
      | some w =>
        obtain ⟨e, _, hm⟩ := rest_some h3
        rcases hm with hm | ⟨_, hm⟩
        · exact absurd (tab_mem.mpr ⟨e, hm⟩) (lk_none h1)
        · rcases hm with hm | hm
          · exact absurd hm h2.1
          · exact absurd hm h2.2
    · rw [if_neg h2]
      cases h3 : lk l (tab stW) with
      | some w =>
        obtain ⟨e, hm⟩ := tab_mem.mp (lk_mem h3)
        rw [← e, rest_tx (.inr hm)]
      | none =>
        cases h4 : restW l with
        | none => rfl
        | some w =>
          obtain ⟨e, _, hm⟩ := rest_some h4
          rcases hm with hm | ⟨hm, _⟩
          · exact absurd (tab_mem.mpr ⟨e, hm⟩) (lk_none h1)
          · exact absurd (tab_mem.mpr ⟨e, hm⟩) (lk_none h3)
end L08
set_option Elab.async false
set_option linter.all false
set_option maxRecDepth 100000
set_option maxHeartbeats 4000000
namespace L08
open PySem L2 Rf
open SX (S)
open TL (numL)
open NumText (digitsVal AllDigits)
structure Tx (l : List Nat) : Prop where
  len : l.length ≤ 20000
  ok : ∀ c ∈ l, c < 0x110000
theorem Tx.line {l : List Nat} (h : Tx l) : (S l).length ≤ sizeLine := by
  rw [SX.S_len, sizeLine_eq]
  have := h.len
  omega
theorem Tx.str {l : List Nat} (h : Tx l) : PyData.strOk (S l) = true := by
  show (S l).cps.all _ = true
  rw [Array.all_eq_true_iff_forall_mem]
  intro c hc
  exact decide_eq_true (h.ok c (by simpa using hc))
theorem Tx.sub {l r : List Nat} (h : Tx l) (hl : r.length ≤ l.length) (hm : ∀ c ∈ r, c ∈ l) : Tx r := ⟨Nat.le_trans hl h.len, fun c hc => h.ok c (hm c hc)⟩
theorem Tx.drop {l : List Nat} (h : Tx l) (n : Nat) : Tx (l.drop n) := h.sub (by rw [List.length_drop]; omega) fun c hc => List.mem_of_mem_drop hc
theorem Tx.take {l : List Nat} (h : Tx l) (n : Nat) : Tx (l.take n) := h.sub (by rw [List.length_take]; omega) fun c hc => List.mem_of_mem_take hc
theorem Tx.tail {l : List Nat} (h : Tx l) : Tx l.tail := by rw [← List.drop_one]; exact h.drop 1
theorem e_InK (T : List (Str × D)) (da : ENV → R D) (ρ : ENV) : dInK T da ρ = (da ρ).bind (inK_ T) := rfl
theorem e_inK (T : List (Str × D)) (k : Str) (ρ : ENV) : inK_ T (.str k) ρ = .ok (.bl (lkS k T).isSome) ρ := rfl
theorem e_SubK (T : List (Str × D)) (da : ENV → R D) (ρ : ENV) : dSubK T da ρ = (da ρ).bind (subK_ T) := rfl
theorem e_subK_ (T : List (Str × D)) (k : Str) (ρ : ENV) : subK_ T (.str k) ρ = R.of (lkS k T) ρ := rfl
theorem e_Stw (da db : ENV → R D) (ρ : ENV) : dStw da db ρ = (da ρ).bind (stw1 db) := rfl
theorem e_stw1 (db : ENV → R D) (z : Str) (ρ : ENV) : stw1 db (.str z) ρ = (db ρ).bind (stw2 z) := rfl
theorem e_stw2 (z y : Str) (ρ : ENV) : stw2 z (.str y) ρ = .ok (.bl (Txt.startswith z y)) ρ := rfl
theorem lenS (l : List Nat) : fLen [.str (S l)] = some (.int l.length) := by
  show some (D.int ((S l).length : Int)) = _
  rw [SX.S_len]
theorem eqS (a b : List Nat) : CK.f .eq (.str (S a)) (.str (S b)) = some (.bl (decide (a = b))) := by
  rw [e_eqS]
  have : decide (S a = S b) = decide (a = b) := decide_eq_decide.mpr ⟨SX.S_inj, fun h => by rw [h]⟩
  rw [this]
theorem neS (a b : List Nat) : CK.f .ne (.str (S a)) (.str (S b)) = some (.bl (!decide (a = b))) := by
  rw [e_neS]
  have : decide (S a = S b) = decide (a = b) := decide_eq_decide.mpr ⟨SX.S_inj, fun h => by rw [h]⟩
  rw [this]
theorem slF (l : List Nat) {i : Int} (h : 0 ≤ i) : vSl (.str (S l)) (some i) none = some (.str (S (l.drop i.toNat))) := by
  show some (D.str (cutS (S l) (some i) none)) = _
  rw [C8.cutS_slice, SX.slice_from h]
theorem slT (l : List Nat) {i : Int} (h : 0 ≤ i) : vSl (.str (S l)) none (some i) = some (.str (S (l.take i.toNat))) := by
  show some (D.str (cutS (S l) none (some i))) = _
  rw [C8.cutS_slice, SX.slice_to h]
theorem sl1 (l : List Nat) : vSl (.str (S l)) (some 1) none = some (.str (S l.tail)) := by rw [slF l (by decide)]; rw [show (1 : Int).toNat = 1 from rfl, List.drop_one]
theorem slh (l : List Nat) : vSl (.str (S l)) none (some 1) = some (.str (S (l.take 1))) := slT l (by decide)
theorem ixh (c : Nat) (r : List Nat) : vIxI (.str (S (c :: r))) (.int 0) = some (.str (S [c])) := by
  rw [e_ixS]
  show (L2.atI (c :: r) 0).map _ = _
  rw [at0]; rfl
theorem hd_eq (l : List Nat) (c : Nat) : decide (l.take 1 = [c]) = decide (l.head? = some c) := by
  cases l with
  | nil => rfl
  | cons d r => exact decide_eq_decide.mpr ⟨fun e => by injection e with e _; rw [e]; rfl, fun e => by cases e; rfl⟩
theorem ixt {l : List Nat} (h : l ≠ []) : vIxI (.str (S l)) (.int 0) = some (.str (S (l.take 1))) := by
  cases l with
  | nil => exact absurd rfl h
  | cons c r => exact ixh c r
theorem stwS (l h : List Nat) : Txt.startswith (S l) (S h) = pre h l := by
  unfold Txt.startswith pre
  rw [StrLaws.subAt_eq, SX.S_len, SX.S_len]
  show (decide (0 + h.length ≤ l.length) && ((l.drop 0).take (S h).length == h)) = _
  rw [SX.S_len, List.drop_zero]
  by_cases e : l.take h.length = h
  · rw [e, decide_eq_true rfl, beq_self_eq_true]
    have := congrArg List.length e
    rw [List.length_take] at this
    rw [decide_eq_true (by omega)]; rfl
  · rw [decide_eq_false e, beq_false_of_ne e, Bool.and_false]
abbrev FIG : Str := "0123456789"
def isd (c : Nat) : Bool := !(Builtin.Str.occurrences FIG ⟨#[c]⟩ 0 FIG.length 1).isEmpty
theorem isd_dig (c : Nat) : isd c = dig c := by
  have e := SX.in_one [48, 49, 50, 51, 52, 53, 54, 55, 56, 57] c
  have h : isd c = decide (c ∈ [48, 49, 50, 51, 52, 53, 54, 55, 56, 57]) := e
  rw [h]
  unfold dig
  by_cases q : 48 ≤ c ∧ c ≤ 57
  · rw [decide_eq_true q.1, decide_eq_true q.2]
    refine decide_eq_true ?_
    simp only [List.mem_cons, List.not_mem_nil, or_false]
    omega
  · rw [← Bool.decide_and, decide_eq_false q]
    refine decide_eq_false fun z => q ?_
    simp only [List.mem_cons, List.not_mem_nil, or_false] at z
    omega
theorem in_fig (n : Nat) : CK.f .in_ (.str ⟨#[n]⟩) (.str FIG) = some (.bl (isd n)) := rfl
theorem lc_fig (i : Nat) (l : List Nat) (hz : Tx l) (ρ : ENV) (te : ENV → R D) (di : ENV → R (List D)) (hd : di ρ = .ok (signs (S l)) ρ) (hi : ρ[i]? = some none) (h : ∀ n, te (ρ.set i (some (.sh (.str ⟨#[n]⟩)))) = .ok (D.bl (isd n)) (ρ.set i (some (.sh (.str ⟨#[n]⟩))))) : fLc di (gSet i) dYes te [i] ρ = .ok (.lst (l.map fun n => D.bl (dig n))) ρ := by
  have := lc_text (z := S l) (fun n => D.bl (isd n)) hd hi h hz.line
  rw [this]
  congr 2
  exact List.map_congr_left fun c _ => by rw [isd_dig]
theorem fig_ok {l : List Nat} (h : Tx l) : m_is_figures [.sh (.str (S l))] = .ok (.sh (.bl (fig l))) [] := by
  have l1 : CK.f .le (.int 1) (.int l.length) = some (.bl (decide (1 ≤ l.length))) := by rw [e_leI]; congr 3; exact propext (by omega)
  have l2 : CK.f .le (.int l.length) g_MOST_FIGURES = some (.bl (decide (l.length ≤ 100))) := by rw [e_leI]; congr 3; exact propext (by omega)
  have lc := lc_fig 1 l h [some (.sh (.str (S l))), none] (dCmp .in_ (dVar 1) (dC (.str FIG))) (dItems (dVar 0)) rfl rfl (fun n => by simp only [RFS, in_fig])
  have q0 : CK.f .eq (.str (S l)) (.str "0") = some (.bl (decide (l = [48]))) := eqS l [48]
  refine (e_run [] 2 _ _ rfl).trans ?_
  unfold b_is_figures fig
  by_cases h1 : 1 ≤ l.length
  · rw [decide_eq_true h1] at l1 ⊢
    by_cases h2 : l.length ≤ 100
    · rw [decide_eq_true h2] at l2 ⊢
      have al := all_f dig l
      cases ha : l.all dig with
      | false => rw [ha] at al; simp only [RFS, lenS, l1, l2, lc, al, Bool.and_false, Bool.false_and, -e_leI, -e_lenS]
      | true =>
        rw [ha] at al
        have i0 := ixt (l := l) (by intro z; rw [z] at h1; simp at h1)
        have n0 : CK.f .ne (.str (S (l.take 1))) (.str "0") = some (.bl (!decide (l.head? = some 48))) := by rw [show CK.f .ne (.str (S (l.take 1))) (.str "0") = some (.bl (!decide (l.take 1 = [48]))) from neS _ [48], hd_eq]
        generalize decide (l.head? = some 48) = b2 at *
        generalize decide (l = [48]) = b1 at *
        cases b1 <;> cases b2 <;> simp only [RFS, lenS, l1, l2, lc, al, q0, i0, n0, Bool.and_true, Bool.true_and, Bool.or_false, Bool.or_true, Bool.false_or, Bool.true_or, -e_leI, -e_lenS]
    · rw [decide_eq_false h2] at l2 ⊢
      simp only [RFS, lenS, l1, l2, Bool.and_false, Bool.false_and, -e_leI, -e_lenS]
  · rw [decide_eq_false h1] at l1 ⊢
    simp only [RFS, lenS, l1, Bool.and_false, Bool.false_and, -e_leI, -e_lenS]
def oN : Option Int → D
  | some n => .int n
  | none => .non
theorem int_d {l : List Nat} (h : Fig l) : fIntT [.str (S l)] = some (.int (digitsVal l : Nat)) := by
  have e := SX.int_S (a := l) (dig_of h.all) (by intro z; have := h.lo; rw [z] at this; simp at this) (by have := h.hi; omega)
  show (if (S l).length ≤ 640 then _ else none) = _
  rw [SX.S_len, if_pos (by have := h.hi; omega), e]
  rfl
theorem number_ok {l : List Nat} (h : Tx l) : m_number_from [.sh (.str (S l))] = .ok (.sh (oN (num l))) [] := by
  have f1 := fig_ok h
  refine (e_run [] 1 _ _ rfl).trans ?_
  unfold b_number_from num
  by_cases hf : fig l = true
  · rw [hf] at f1
    rw [if_pos hf]
    simp only [RFS, f1, int_d (Fig.of hf), oN]
  · rw [Bool.eq_false_iff.mpr hf] at f1
    rw [if_neg hf]
    have f2 := fig_ok h.tail
    have q1 : CK.f .eq (.str (S (l.take 1))) (.str "-") = some (.bl (decide (l.head? = some 45))) := by
      rw [show CK.f .eq (.str (S (l.take 1))) (.str "-") = some (.bl (decide (l.take 1 = [45]))) from eqS _ [45], hd_eq]
    have q2 : CK.f .ne (.str (S l)) (.str "-0") = some (.bl (!decide (l = [45, 48]))) := neS l [45, 48]
    by_cases h1 : l.head? = some 45
    · rw [decide_eq_true h1] at q1
      by_cases h2 : fig l.tail = true
      · rw [h2] at f2
        by_cases h3 : l = [45, 48]
        · rw [decide_eq_true h3] at q2
          rw [if_neg (fun z => z.2.2 h3)]
          simp only [RFS, SLS, f1, f2, sl1, slh, q1, q2, oN]
        · rw [decide_eq_false h3] at q2
          rw [if_pos ⟨h1, h2, h3⟩]
          simp only [RFS, SLS, f1, f2, sl1, slh, q1, q2, int_d (Fig.of h2), oN]
      · rw [Bool.eq_false_iff.mpr h2] at f2
        rw [if_neg (fun z => h2 z.2.1)]
        simp only [RFS, SLS, f1, f2, sl1, slh, q1, q2, oN]
    · rw [decide_eq_false h1] at q1
      rw [if_neg (fun z => h1 z.1)]
      simp only [RFS, SLS, f1, slh, q1, oN]
end L08
set_option Elab.async false
set_option linter.all false
set_option maxRecDepth 100000
set_option maxHeartbeats 4000000
namespace L08
open PySem L2 Rf
open SX (S)
open TL (numL)
open NumText (digitsVal AllDigits)
def oW : Option Wd → D
  | some w => w.d
  | none => .non
def lkD (l : List Nat) : List (List Nat × D) → Option D
  | [] => none
  | (x, d) :: r => if l = x then some d else lkD l r
def sT (T : List (List Nat × D)) : List (Str × D) := T.map fun p => (S p.1, p.2)
theorem lkS_S (l : List Nat) : ∀ T : List (List Nat × D), lkS (S l) (sT T) = lkD l T
  | [] => rfl
  | (x, d) :: T => by
    show (if S l = S x then some d else lkS (S l) (sT T)) = if l = x then some d else lkD l T
    by_cases e : l = x
    · rw [if_pos e, if_pos (by rw [e])]
    · rw [if_neg e, if_neg (fun z => e (SX.S_inj z))]; exact lkS_S l T
theorem lkD_map (l : List Nat) (g : Wd → D) : ∀ ws : List Wd, lkD l (ws.map fun w => (w.tx, g w)) = (lk l (tab ws)).map g
  | [] => rfl
  | w :: ws => by
    show (if l = w.tx then some (g w) else lkD l _) = (if l = w.tx then some w else lk l (tab ws)).map g
    by_cases e : l = w.tx
    · rw [if_pos e, if_pos e]; rfl
    · rw [if_neg e, if_neg e]; exact lkD_map l g ws
theorem wot_eq : tab_WORDS_OF_TEXTS = sT (sngW.map fun w => (w.tx, D.str w.head)) := by kernel_rfl
theorem wot_lk (l : List Nat) : lkS (S l) tab_WORDS_OF_TEXTS = (lk l (tab sngW)).map fun w => D.str w.head := by rw [wot_eq, lkS_S, lkD_map]
theorem sng_d {l : List Nat} {w : Wd} (h : lk l (tab sngW) = some w) : w.d = .tup [.str w.head] := by
  have h2 := (tab_mem.mp (lk_mem h)).2
  simp only [sngW, List.mem_cons, List.not_mem_nil, or_false] at h2
  rcases h2 with rfl | rfl | rfl | rfl | rfl | rfl | rfl | rfl | rfl <;> rfl
theorem isN_n (n : Int) : CK.f .isN (.int n) .non = some (.bl false) := rfl
theorem isN_0 : CK.f .isN .non .non = some (.bl true) := rfl
theorem isN_s (n : Str) : CK.f .isN (.str n) .non = some (.bl false) := rfl
theorem isN_t (n : List D) : CK.f .isN (.tup n) .non = some (.bl false) := rfl
theorem hd_ne {l : List Nat} {c : Nat} (h : l.head? = some c) : l ≠ [] := by intro z; rw [z] at h; cases h
theorem hd_t {l : List Nat} {c : Nat} (h : l.head? = some c) : l.take 1 = [c] := of_decide_eq_true (by rw [hd_eq]; exact decide_eq_true h)
theorem signed_ok {l : List Nat} (h : Tx l) {c : Nat} (hc : l.head? = some c) (h3 : c = 64 ∨ c = 35 ∨ c = 61) (e : Option Wd) : m_find_signed [.sh (.str (S l))] = .ok (.sh (oW (signW l e))) [] := by
  have i0 := ixt (hd_ne hc)
  rw [hd_t hc] at i0
  have q1 : CK.f .eq (.str (S [c])) (.str "=") = some (.bl (decide ([c] = [61]))) := eqS _ [61]
  have q2 : CK.f .eq (.str (S [c])) (.str "@") = some (.bl (decide ([c] = [64]))) := eqS _ [64]
  have en := name_str (S l.tail) h.tail.line
  have nn := number_ok h.tail
  refine (e_run [] 3 _ _ rfl).trans ?_
  unfold b_find_signed
  have tl : l = c :: l.tail := by
    cases l with
    | nil => cases hc
    | cons d r => cases hc; rfl
  have s0 := sl1 l
  generalize l.tail = r at *
  rcases h3 with rfl | rfl | rfl
  · rw [tl] at i0 s0 ⊢
    rw [sg64]
    rw [show decide ([64] = [61]) = false from rfl] at q1
    rw [show decide ([64] = [64]) = true from rfl] at q2
    cases nm : nmS (S r) with
    | true =>
      rw [nm] at en
      rw [if_pos rfl]
      show _ = FO.ok (.sh (.tup [.str "name", .str (S r)])) []
      simp only [RFS, SLS, i0, s0, q1, q2, en]
    | false =>
      rw [nm] at en
      rw [if_neg (by simp)]
      show _ = FO.ok (.sh .non) []
      simp only [RFS, SLS, i0, s0, q1, en]
  · rw [tl] at i0 s0 ⊢
    rw [sg35]
    rw [show decide ([35] = [61]) = false from rfl] at q1
    rw [show decide ([35] = [64]) = false from rfl] at q2
    cases nm : nmS (S r) with
    | true =>
      rw [nm] at en
      rw [if_pos rfl]
      show _ = FO.ok (.sh (.tup [.str "place", .str (S r)])) []
      simp only [RFS, SLS, i0, s0, q1, q2, en]
    | false =>
      rw [nm] at en
      rw [if_neg (by simp)]
      show _ = FO.ok (.sh .non) []
      simp only [RFS, SLS, i0, s0, q1, en]
  · rw [tl] at i0 s0 ⊢
    rw [sg61]
    rw [show decide ([61] = [61]) = true from rfl] at q1
    cases nm : num r with
    | none =>
      rw [nm] at nn
      have nn : m_number_from [.sh (.str (S r))] = .ok (.sh .non) [] := nn
      show _ = FO.ok (.sh .non) []
      simp only [RFS, SLS, i0, s0, q1, nn, isN_0]
    | some n =>
      rw [nm] at nn
      have nn : m_number_from [.sh (.str (S r))] = .ok (.sh (.int n)) [] := nn
      show _ = FO.ok (.sh (.tup [.str "date", .int n])) []
      simp only [RFS, SLS, i0, s0, q1, nn, isN_n]
def stIn : ENV → R Fl := sSeq (sAsg (dSl (dVar 0) (dPart (dB fLen (dCons (dVar 2) (dNil)))) (dNoPart)) (gSet 3))
  (sSeq (sAsg (dCall m_number_from (aVal (dIf (dT (dCmp .eq (dIx (dVar 3) (dC (.int 0))) (dC (.str "+")))) (dSl (dVar 3) (dPart (dC (.int 1))) (dNoPart)) (dVar 3)) (aNil))) (gSet 4))
  (sSeq (sIf (dOr (dT (dCmp .isN (dVar 4) (dC .non))) (dOr (dT (dCmp .eq (dVar 4) (dC (.int 0)))) (dT (dCmp .ne (dCmp .gt (dVar 4) (dC (.int 0))) (dCmp .eq (dIx (dVar 3) (dC (.int 0))) (dC (.str "+"))))))) (sRet (dC .non)) (sNil))
  (sSeq (sAsg (dTup (dCons (dVar 1) (dCons (dVar 4) (dNil)))) (gSet 5))
  (sRet (dIf (dT (dCmp .isN (dCall m_find_kind (aVal (dVar 5) (aNil))) (dC .non))) (dC .non) (dVar 5))))))
def stB : ENV → R Fl := sSeq (sIf (dT (dCmp .eq (dVar 0) (dVar 2))) (sRet (dTup (dCons (dVar 1) (dCons (dC (.int 0)) (dNil))))) (sNil))
  (sIf (dTru (dStw (dVar 0) (dVar 2))) stIn (sNil))
def wkB : ENV → R Fl := sSeq (sAsg (dSl (dVar 0) (dPart (dB fLen (dCons (dVar 2) (dNil)))) (dNoPart)) (gSet 3))
  (sIf (dAnd (dTru (dStw (dVar 0) (dVar 2))) (dAnd (dT (dCmp .eq (dB fLen (dCons (dVar 3) (dNil))) (dC (.int 1)))) (dT (dCmp .in_ (dVar 3) (dC (.str "0123456")))))) (sRet (dTup (dCons (dVar 1) (dCons (dB fIntT (dCons (dVar 3) (dNil))) (dNil))))) (sNil))
abbrev g12 : D → ENV → Option ENV := gSeq 2 (gsCons (gSet 1) (gsCons (gSet 2) (gsNil)))
theorem word_cut : b_find_word = sSeq (sIf (dT (dInK tab_WORDS_OF_TEXTS (dVar 0))) (sRet (dTup (dCons (dSubK tab_WORDS_OF_TEXTS (dVar 0)) (dNil)))) (sNil))
  (sSeq (sIf (dT (dCmp .in_ (dSl (dVar 0) (dNoPart) (dPart (dC (.int 1)))) (dTup (dCons (dC (.str "@")) (dCons (dC (.str "#")) (dCons (dC (.str "=")) (dNil))))))) (sRet (dCall m_find_signed (aVal (dVar 0) (aNil)))) (sNil))
  (sSeq (sFor (dItmK tab_STEP_TEXTS) g12 stB) (sSeq (sFor (dItmK tab_WEEKDAY_TEXTS) g12 wkB) (sRet (dC .non))))) := rfl
theorem neB (a b : Bool) : CK.f .ne (.bl a) (.bl b) = some (.bl (!decide (a = b))) := by cases a <;> cases b <;> rfl
theorem plus_q {r : List Nat} : CK.f .eq (.str (S (r.take 1))) (.str "+") = some (.bl (plus r)) := by
  rw [show CK.f .eq (.str (S (r.take 1))) (.str "+") = some (.bl (decide (r.take 1 = [43]))) from eqS _ [43], hd_eq]; rfl
structure Hd (h : Str) (f : Int → Wd) : Prop where
  d : ∀ n, (f n).d = .tup [.str h, .int n]
  k : ∀ n, m_find_kind [.sh (.tup [.str h, .int n])] = .ok (.sh (ifD (decide (-30 ≤ n) && decide (n ≤ 30)) (.str "day"))) []
def rv : R Fl → Option DV
  | .ok (.ret v) _ => some v
  | _ => none
theorem e_rv (v : DV) (ρ : ENV) : rv (.ok (.ret v) ρ) = some v := rfl
theorem rv_some {r : R Fl} {v : DV} (h : rv r = some v) : ∃ ρ, r = .ok (.ret v) ρ := by
  cases r with
  | ok f ρ => cases f with
    | ret u => cases h; exact ⟨ρ, rfl⟩
    | _ => cases h
  | _ => cases h
theorem stIn_ok {h : Str} {f : Int → Wd} (H : Hd h f) {l hl : List Nat} (t : Tx l) (hr : l.drop hl.length ≠ []) (o3 o4 o5 : Option DV) :
    rv (stIn [some (.sh (.str (S l))), some (.sh (.str h)), some (.sh (.str (S hl))), o3, o4, o5]) = some (.sh (oW (stepW f (l.drop hl.length)))) := by
  have s0 : vSl (.str (S l)) (some (hl.length : Int)) none = some (.str (S (l.drop hl.length))) := by rw [slF l (by omega)]; rfl
  have tr := t.drop hl.length
  generalize l.drop hl.length = r at *
  have i0 := ixt hr
  have qp := plus_q (r := r)
  have s1 := sl1 r
  have nn : m_number_from [.sh (.str (S (if plus r = true then r.tail else r)))] = .ok (.sh (oN (num (if plus r = true then r.tail else r)))) [] := number_ok (by
    by_cases e : plus r = true
    · rw [if_pos e]; exact tr.tail
    · rw [if_neg e]; exact tr)
  unfold stepW
  cases hn : num (if plus r = true then r.tail else r) with
  | none =>
    rw [hn] at nn
    have nn : m_number_from [.sh (.str (S (if plus r = true then r.tail else r)))] = .ok (.sh .non) [] := nn
    cases hp : plus r <;> simp only [hp, if_true, if_false, Bool.false_eq_true] at nn qp <;> unfold stIn <;> simp only [e_rv, RFS, SLS, lenS, s0, i0, qp, s1, nn, isN_0, oW, -e_lenS]
  | some n =>
    rw [hn] at nn
    have nn : m_number_from [.sh (.str (S (if plus r = true then r.tail else r)))] = .ok (.sh (.int n)) [] := nn
    have e0 : CK.f .eq (.int n) (.int 0) = some (.bl (decide (n = 0))) := by rw [e_eqI]; rfl
    have eg : CK.f .gt (.int n) (.int 0) = some (.bl (decide (0 < n))) := rfl
    have kk := H.k n
    have dd := H.d n
    dsimp only
    by_cases h0 : n = 0
    · rw [if_pos (.inl h0)]
      rw [decide_eq_true h0] at e0
      cases hp : plus r <;> simp only [hp, if_true, if_false, Bool.false_eq_true] at nn qp <;> unfold stIn <;> simp only [e_rv, RFS, SLS, lenS, s0, i0, qp, s1, nn, isN_n, e0, oW, -e_lenS, -e_eqI]
    · rw [decide_eq_false h0] at e0
      by_cases h1 : decide (0 < n) = plus r
      · rw [if_neg (fun z => z.elim h0 fun z => z h1)]
        have hb := neB (plus r) (plus r)
        rw [decide_eq_true rfl] at hb
        rw [h1] at eg
        by_cases h2 : -30 ≤ n ∧ n ≤ 30
        · rw [if_pos h2]
          rw [decide_eq_true h2.1, decide_eq_true h2.2] at kk
          have kk : m_find_kind [.sh (.tup [.str h, .int n])] = .ok (.sh (.str "day")) [] := kk
          cases hp : plus r <;> simp only [hp, if_true, if_false, Bool.false_eq_true] at nn qp hb eg <;> show rv (stIn _) = some (.sh (f n).d) <;> rw [dd] <;> unfold stIn <;> simp only [e_rv, RFS, SLS, lenS, s0, i0, qp, s1, nn, isN_n, isN_s, e0, eg, hb, kk, -e_lenS, -e_eqI, -e_gtI]
        · rw [if_neg h2]
          have kb : (decide (-30 ≤ n) && decide (n ≤ 30)) = false := by rw [← Bool.decide_and]; exact decide_eq_false h2
          rw [kb] at kk
          have kk : m_find_kind [.sh (.tup [.str h, .int n])] = .ok (.sh .non) [] := kk
          cases hp : plus r <;> simp only [hp, if_true, if_false, Bool.false_eq_true] at nn qp hb eg <;> unfold stIn <;> simp only [e_rv, RFS, SLS, lenS, s0, i0, qp, s1, nn, isN_n, isN_0, e0, eg, hb, kk, oW, -e_lenS, -e_eqI, -e_gtI]
      · rw [if_pos (.inr h1)]
        have hb := neB (decide (0 < n)) (plus r)
        rw [decide_eq_false h1] at hb
        generalize decide (0 < n) = bg at *
        cases hp : plus r <;> simp only [hp, if_true, if_false, Bool.false_eq_true] at nn qp hb <;> unfold stIn <;> simp only [e_rv, RFS, SLS, lenS, s0, i0, qp, s1, nn, isN_n, e0, eg, hb, oW, -e_lenS, -e_eqI, -e_gtI]
end L08
set_option Elab.async false
set_option linter.all false
set_option maxRecDepth 100000
set_option maxHeartbeats 4000000
namespace L08
open PySem L2 Rf
open SX (S)
open TL (numL)
open NumText (digitsVal AllDigits)
def stR (f : Int → Wd) (l hl : List Nat) (e : Option Wd) : Option Wd := if l = hl then some (f 0) else if pre hl l = true then stepW f (l.drop hl.length) else e
def stHit (l hl : List Nat) : Bool := decide (l = hl) || pre hl l
theorem stB_hit {h : Str} {f : Int → Wd} (H : Hd h f) {l hl : List Nat} (t : Tx l) (hh : stHit l hl = true) (e : Option Wd) (o3 o4 o5 : Option DV) :
    rv (stB [some (.sh (.str (S l))), some (.sh (.str h)), some (.sh (.str (S hl))), o3, o4, o5]) = some (.sh (oW (stR f l hl e))) := by
  have q := eqS l hl
  have w := stwS l hl
  unfold stR
  by_cases h1 : l = hl
  · rw [if_pos h1]
    rw [decide_eq_true h1] at q
    show rv _ = some (.sh (f 0).d)
    rw [H.d]
    unfold stB
    simp only [e_rv, RFS, q]
  · rw [if_neg h1]
    rw [decide_eq_false h1] at q
    have h2 : pre hl l = true := by
      unfold stHit at hh
      rw [decide_eq_false h1, Bool.false_or] at hh
      exact hh
    rw [if_pos h2]
    rw [h2] at w
    have hr : l.drop hl.length ≠ [] := fun z => h1 (by have := pre_app h2; rw [z, List.append_nil] at this; exact this)
    rw [← stIn_ok H t hr o3 o4 o5]
    unfold stB
    generalize stIn = k
    simp only [RFS, q, e_Stw, e_stw1, e_stw2, w]
theorem stB_no {h : Str} {l hl : List Nat} (hh : stHit l hl = false) (o3 o4 o5 : Option DV) :
    stB [some (.sh (.str (S l))), some (.sh (.str h)), some (.sh (.str (S hl))), o3, o4, o5] = .ok .nx [some (.sh (.str (S l))), some (.sh (.str h)), some (.sh (.str (S hl))), o3, o4, o5] := by
  have q := eqS l hl
  have w := stwS l hl
  unfold stHit at hh
  rw [Bool.or_eq_false_iff] at hh
  rw [hh.1] at q
  rw [hh.2] at w
  unfold stB
  generalize stIn = k
  simp only [RFS, q, e_Stw, e_stw1, e_stw2, w]
theorem stR_no {f : Int → Wd} {l hl : List Nat} (hh : stHit l hl = false) (e : Option Wd) : stR f l hl e = e := by
  unfold stHit at hh
  rw [Bool.or_eq_false_iff] at hh
  unfold stR
  rw [if_neg (of_decide_eq_false hh.1), if_neg (by rw [hh.2]; simp)]
theorem rest_st (l : List Nat) : restW l = stR .tod l todL (stR .tha l thaL (weekW l)) := rfl
theorem Hd_tod : Hd "today" .tod := ⟨fun _ => rfl, fun n => by rw [find_int (by decide +kernel)]; rfl⟩
theorem Hd_tha : Hd "that day" .tha := ⟨fun _ => rfl, fun n => by rw [find_int (by decide +kernel)]; rfl⟩
abbrev WD6 : Str := "0123456"
theorem in_wd (c : Nat) : CK.f .in_ (.str (S [c])) (.str WD6) = some (.bl (decide (48 ≤ c ∧ c ≤ 54))) := by
  have e := SX.in_one [48, 49, 50, 51, 52, 53, 54] c
  show some (D.bl (!(Builtin.Str.occurrences WD6 (S [c]) 0 WD6.length 1).isEmpty)) = _
  rw [show WD6 = S [48, 49, 50, 51, 52, 53, 54] from SX.S_tl WD6, e]
  congr 2
  refine decide_eq_decide.mpr ⟨fun h => ?_, fun h => ?_⟩
  · simp only [List.mem_cons, List.not_mem_nil, or_false] at h; omega
  · simp only [List.mem_cons, List.not_mem_nil, or_false]; omega
theorem int_1 {c : Nat} (h : 48 ≤ c ∧ c ≤ 54) : fIntT [.str (S [c])] = some (.int ((c : Int) - 48)) := by
  have e := SX.int_S (a := [c]) (by simp; omega) (by simp) (by simp)
  show (if (S [c]).length ≤ 640 then _ else none) = _
  rw [SX.S_len, if_pos (by simp), e]
  show some (D.int ((0 * 10 + (c - 48) : Nat) : Int)) = _
  congr 2
  omega
def wkHit (l hl : List Nat) : Option Int := if pre hl l = true then (match l.drop hl.length with
  | [c] => if 48 ≤ c ∧ c ≤ 54 then some ((c : Int) - 48) else none
  | _ => none) else none
theorem wk1_hit {f : Int → Wd} {l hl : List Nat} {n : Int} (h : wkHit l hl = some n) (e : Option Wd) : wk1 hl f l e = some (f n) := by
  unfold wkHit at h
  unfold wk1
  by_cases hp : pre hl l = true
  · rw [if_pos hp] at h ⊢
    generalize l.drop hl.length = r at *
    match r, h with
    | [], h => cases h
    | [c], h =>
      have h : (if 48 ≤ c ∧ c ≤ 54 then some ((c : Int) - 48) else none) = some n := h
      show (if 48 ≤ c ∧ c ≤ 54 then some (f ((c : Int) - 48)) else e) = some (f n)
      by_cases hr : 48 ≤ c ∧ c ≤ 54
      · rw [if_pos hr] at h ⊢
        cases h; rfl
      · rw [if_neg hr] at h; cases h
    | _ :: _ :: _, h => cases h
  · rw [if_neg hp] at h; cases h
theorem wk1_no {f : Int → Wd} {l hl : List Nat} (h : wkHit l hl = none) (e : Option Wd) : wk1 hl f l e = e := by
  unfold wkHit at h
  unfold wk1
  by_cases hp : pre hl l = true
  · rw [if_pos hp] at h ⊢
    generalize l.drop hl.length = r at *
    match r, h with
    | [], _ => rfl
    | [c], h =>
      have h : (if 48 ≤ c ∧ c ≤ 54 then some ((c : Int) - 48) else none) = none := h
      show (if 48 ≤ c ∧ c ≤ 54 then some (f ((c : Int) - 48)) else e) = e
      by_cases hr : 48 ≤ c ∧ c ≤ 54
      · rw [if_pos hr] at h; cases h
      · rw [if_neg hr]
    | _ :: _ :: _, _ => rfl
  · rw [if_neg hp]
theorem wkB_hit {h : Str} {f : Int → Wd} (hd : ∀ n, (f n).d = .tup [.str h, .int n]) {l hl : List Nat} {n : Int} (hh : wkHit l hl = some n) (o3 o4 o5 : Option DV) :
    rv (wkB [some (.sh (.str (S l))), some (.sh (.str h)), some (.sh (.str (S hl))), o3, o4, o5]) = some (.sh (f n).d) := by
  have s0 : vSl (.str (S l)) (some (hl.length : Int)) none = some (.str (S (l.drop hl.length))) := by rw [slF l (by omega)]; rfl
  have w := stwS l hl
  unfold wkHit at hh
  by_cases hp : pre hl l = true
  · rw [if_pos hp] at hh
    rw [hp] at w
    split at hh
    · rename_i c hc
      by_cases hr : 48 ≤ c ∧ c ≤ 54
      · rw [if_pos hr] at hh
        cases hh
        rw [hc] at s0
        have i := in_wd c
        rw [decide_eq_true hr] at i
        have n1 := int_1 hr
        have l1 : fLen [.str (S [c])] = some (.int 1) := lenS [c]
        rw [hd]
        unfold wkB
        simp only [e_rv, RFS, SLS, lenS, s0, l1, w, i, n1, e_Stw, e_stw1, e_stw2, beq_self_eq_true, -e_lenS]
      · rw [if_neg hr] at hh; cases hh
    · cases hh
  · rw [if_neg hp] at hh; cases hh
theorem wkB_no {h : Str} {l hl : List Nat} (hh : wkHit l hl = none) (o3 o4 o5 : Option DV) :
    wkB [some (.sh (.str (S l))), some (.sh (.str h)), some (.sh (.str (S hl))), o3, o4, o5] = .ok .nx [some (.sh (.str (S l))), some (.sh (.str h)), some (.sh (.str (S hl))), some (.sh (.str (S (l.drop hl.length)))), o4, o5] := by
  have s0 : vSl (.str (S l)) (some (hl.length : Int)) none = some (.str (S (l.drop hl.length))) := by rw [slF l (by omega)]; rfl
  have w := stwS l hl
  have ll := lenS (l.drop hl.length)
  unfold wkHit at hh
  by_cases hp : pre hl l = true
  · rw [if_pos hp] at hh
    rw [hp] at w
    generalize l.drop hl.length = r at *
    match r, hh with
    | [], _ =>
      have l1 : fLen [.str (S [])] = some (.int 0) := lenS []
      unfold wkB
      simp only [RFS, SLS, lenS, s0, l1, w, e_Stw, e_stw1, e_stw2, show ((0 : Int) == 1) = false from rfl, -e_lenS]
    | [c], hh =>
      have hr : ¬ (48 ≤ c ∧ c ≤ 54) := fun z => by
        have hh : (if 48 ≤ c ∧ c ≤ 54 then some ((c : Int) - 48) else none) = none := hh
        rw [if_pos z] at hh; cases hh
      have i := in_wd c
      rw [decide_eq_false hr] at i
      have l1 : fLen [.str (S [c])] = some (.int 1) := lenS [c]
      unfold wkB
      simp only [RFS, SLS, lenS, s0, l1, w, i, e_Stw, e_stw1, e_stw2, beq_self_eq_true, -e_lenS]
    | a :: b :: r, _ =>
      have hl1 : (((a :: b :: r).length : Int) == 1) = false := beq_false_of_ne (by simp only [List.length_cons]; omega)
      generalize a :: b :: r = q at *
      unfold wkB
      simp only [RFS, SLS, lenS, s0, ll, w, hl1, e_Stw, e_stw1, e_stw2, -e_lenS]
  · rw [Bool.eq_false_iff.mpr hp] at w
    unfold wkB
    simp only [RFS, SLS, lenS, s0, w, e_Stw, e_stw1, e_stw2, -e_lenS]
def e6 (l : List Nat) (a b c : Option DV) : ENV := [some (.sh (.str (S l))), a, b, c, none, none]
theorem st_eq : itmK tab_STEP_TEXTS = [.tup [.str "today", .str (S todL)], .tup [.str "that day", .str (S thaL)]] := by kernel_rfl
theorem wt_eq : itmK tab_WEEKDAY_TEXTS = [.tup [.str "coming", .str (S comL)], .tup [.str "last", .str (S lasL)], .tup [.str "then coming", .str (S tcoL)], .tup [.str "then last", .str (S tlaL)]] := by kernel_rfl
theorem for2_no {B : ENV → R Fl} {l : List Nat} {h hs : D} {ds : List D} {a b c : Option DV} {k : Option DV} (hb : B [some (.sh (.str (S l))), some (.sh h), some (.sh hs), c, none, none] = .ok .nx [some (.sh (.str (S l))), some (.sh h), some (.sh hs), k, none, none]) :
    forL g12 B (.tup [h, hs] :: ds) (e6 l a b c) = forL g12 B ds (e6 l (some (.sh h)) (some (.sh hs)) k) := by
  unfold e6
  rw [forL_gS2 (ρ := [some (.sh (.str (S l))), a, b, c, none, none]) 1 2 h hs ds B (show 1 < 6 by decide) (show 2 < 6 by decide)]
  simp only [List.set_cons_zero, List.set_cons_succ]
  rw [hb]
  rfl
theorem for2_hit {B : ENV → R Fl} {l : List Nat} {h hs : D} {ds : List D} {a b c : Option DV} {v : DV} (hb : rv (B [some (.sh (.str (S l))), some (.sh h), some (.sh hs), c, none, none]) = some v) :
    rv (forL g12 B (.tup [h, hs] :: ds) (e6 l a b c)) = some v := by
  obtain ⟨ρ, hb⟩ := rv_some hb
  unfold e6
  rw [forL_gS2 (ρ := [some (.sh (.str (S l))), a, b, c, none, none]) 1 2 h hs ds B (show 1 < 6 by decide) (show 2 < 6 by decide)]
  simp only [List.set_cons_zero, List.set_cons_succ]
  rw [hb]
  rfl
theorem loops_ok {l : List Nat} (t : Tx l) : rv (sSeq (sFor (dItmK tab_STEP_TEXTS) g12 stB) (sSeq (sFor (dItmK tab_WEEKDAY_TEXTS) g12 wkB) (sRet (dC .non))) (e6 l none none none)) = some (.sh (oW (restW l))) := by
  have hit : ∀ {A K : ENV → R Fl} {ρ : ENV} {v : DV}, rv (A ρ) = some v → rv (sSeq A K ρ) = some v := fun h => by
    obtain ⟨ρ, h⟩ := rv_some h
    rw [seq_ret h]; rfl
  have fs : ∀ (ρ : ENV) (T : List (Str × D)) (B : ENV → R Fl), sFor (dItmK T) g12 B ρ = forL g12 B (itmK T) ρ := fun _ _ _ => rfl
  rw [rest_st]
  cases h1 : stHit l todL with
  | true => exact hit (by rw [fs, st_eq]; exact for2_hit (stB_hit Hd_tod t h1 _ _ _ _))
  | false =>
    rw [stR_no h1]
    have n1 := stB_no (h := "today") h1 none none none
    cases h2 : stHit l thaL with
    | true => exact hit (by rw [fs, st_eq, for2_no n1]; exact for2_hit (stB_hit Hd_tha t h2 _ _ _ _))
    | false =>
      rw [stR_no h2]
      have n2 := stB_no (h := "that day") h2 none none none
      rw [seq_ok (show _ = R.ok Fl.nx (e6 l _ _ _) from by rw [fs, st_eq, for2_no n1, for2_no n2]; rfl)]
      unfold weekW
      have no : ∀ {h : Str} {hl : List Nat} {o : Option DV}, wkHit l hl = none → wkB [some (.sh (.str (S l))), some (.sh (.str h)), some (.sh (.str (S hl))), o, none, none] = _ := fun q => wkB_no q _ none none
      cases k1 : wkHit l comL with
      | some n => rw [wk1_hit k1]; exact hit (by rw [fs, wt_eq]; exact for2_hit (wkB_hit (f := .com) (fun _ => rfl) k1 _ _ _))
      | none =>
        rw [wk1_no k1]
        cases k2 : wkHit l lasL with
        | some n => rw [wk1_hit k2]; exact hit (by rw [fs, wt_eq, for2_no (no k1)]; exact for2_hit (wkB_hit (f := .las) (fun _ => rfl) k2 _ _ _))
        | none =>
          rw [wk1_no k2]
          cases k3 : wkHit l tcoL with
          | some n => rw [wk1_hit k3]; exact hit (by rw [fs, wt_eq, for2_no (no k1), for2_no (no k2)]; exact for2_hit (wkB_hit (f := .tco) (fun _ => rfl) k3 _ _ _))
          | none =>
            rw [wk1_no k3]
            cases k4 : wkHit l tlaL with
            | some n => rw [wk1_hit k4]; exact hit (by rw [fs, wt_eq, for2_no (no k1), for2_no (no k2), for2_no (no k3)]; exact for2_hit (wkB_hit (f := .tla) (fun _ => rfl) k4 _ _ _))
            | none =>
              rw [wk1_no k4, seq_ok (show _ = R.ok Fl.nx (e6 l _ _ _) from by rw [fs, wt_eq, for2_no (no k1), for2_no (no k2), for2_no (no k3), for2_no (no k4)]; rfl)]
              rfl
end L08
set_option Elab.async false
set_option linter.all false
set_option maxRecDepth 100000
set_option maxHeartbeats 4000000
namespace L08
open PySem L2 Rf
open SX (S)
open TL (numL)
open NumText (digitsVal AllDigits)
theorem in_sg {l : List Nat} (t : Tx l) : CK.f .in_ (.str (S (l.take 1))) (.tup [.str "@", .str "#", .str "="]) = some (.bl (decide (l.head? = some 64) || (decide (l.head? = some 35) || decide (l.head? = some 61)))) := by
  have e := in_tupS (ws := ["@", "#", "="]) false (t.take 1).str (by decide +kernel)
  have e : CK.f .in_ (.str (S (l.take 1))) (.tup [.str "@", .str "#", .str "="]) = some (.bl (decide (S (l.take 1) ∈ (["@", "#", "="] : List Str)))) := e
  rw [e]
  congr 2
  rw [← hd_eq, ← hd_eq, ← hd_eq, ← Bool.decide_or, ← Bool.decide_or]
  refine decide_eq_decide.mpr ?_
  simp only [List.mem_cons, List.not_mem_nil, or_false]
  have z : ∀ c : Nat, ∀ x : Str, x = S [c] → ((S (l.take 1) = x) ↔ l.take 1 = [c]) := fun c x hx => by rw [hx]; exact ⟨SX.S_inj, fun h => by rw [h]⟩
  rw [z 64 "@" (by decide +kernel), z 35 "#" (by decide +kernel), z 61 "=" (by decide +kernel)]
theorem word_ok {l : List Nat} (t : Tx l) : m_find_word [.sh (.str (S l))] = .ok (.sh (oW (findW l))) [] := by
  have w := wot_lk l
  refine (e_run [] 6 _ _ rfl).trans ?_
  rw [word_cut]
  unfold findW
  cases h0 : lk l (tab sngW) with
  | some x =>
    rw [h0] at w
    have w : lkS (S l) tab_WORDS_OF_TEXTS = some (.str x.head) := w
    show _ = FO.ok (.sh x.d) []
    rw [sng_d h0]
    generalize tab_WORDS_OF_TEXTS = T at *
    simp only [RFS, e_InK, e_inK, e_SubK, e_subK_, w, Option.isSome_some]
  | none =>
    rw [h0] at w
    have w : lkS (S l) tab_WORDS_OF_TEXTS = none := w
    have i := in_sg t
    have s1 := slh l
    have fin : ∀ {r : R Fl} {v : DV}, rv r = some v → finF [.sh (.str (S l))] r = .ok v [] := fun h => by
      obtain ⟨ρ, h⟩ := rv_some h
      rw [h]; rfl
    show _ = FO.ok (.sh (oW (signW l (restW l)))) []
    have lo := loops_ok t
    by_cases hs : l.head? = some 64 ∨ l.head? = some 35 ∨ l.head? = some 61
    · have sg : m_find_signed [.sh (.str (S l))] = .ok (.sh (oW (signW l (restW l)))) [] := by
        rcases hs with h | h | h
        · exact signed_ok t h (.inl rfl) _
        · exact signed_ok t h (.inr (.inl rfl)) _
        · exact signed_ok t h (.inr (.inr rfl)) _
      have ib : (decide (l.head? = some 64) || (decide (l.head? = some 35) || decide (l.head? = some 61))) = true := by
        rw [← Bool.decide_or, ← Bool.decide_or]; exact decide_eq_true hs
      rw [ib] at i
      generalize oW (signW l (restW l)) = v at *
      generalize tab_WORDS_OF_TEXTS = T at *
      generalize (sSeq (sFor (dItmK tab_STEP_TEXTS) g12 stB) (sSeq (sFor (dItmK tab_WEEKDAY_TEXTS) g12 wkB) (sRet (dC .non)))) = K
      simp only [RFS, SLS, e_InK, e_inK, w, Option.isSome_none, s1, i, sg]
    · have ib : (decide (l.head? = some 64) || (decide (l.head? = some 35) || decide (l.head? = some 61))) = false := by
        rw [← Bool.decide_or, ← Bool.decide_or]; exact decide_eq_false hs
      rw [ib] at i
      have e : signW l (restW l) = restW l := by
        unfold signW
        rw [if_neg (fun z => hs (.inl z)), if_neg (fun z => hs (.inr (.inl z))), if_neg (fun z => hs (.inr (.inr z)))]
      rw [e]
      refine Eq.trans ?_ (fin lo)
      unfold e6
      generalize tab_WORDS_OF_TEXTS = T at *
      generalize (sSeq (sFor (dItmK tab_STEP_TEXTS) g12 stB) (sSeq (sFor (dItmK tab_WEEKDAY_TEXTS) g12 wkB) (sRet (dC .non)))) = K
      simp only [RFS, SLS, e_InK, e_inK, w, Option.isSome_none, s1, i]
def xT (x : Str) : EX := ⟨2, [("what", .str x), ("position", .int 0)]⟩
theorem Wd.tup (w : Wd) : ∃ ds, w.d = .tup ds := by cases w <;> exact ⟨_, rfl⟩
theorem readw_some {l : List Nat} (t : Tx l) {w : Wd} (h : findW l = some w) : m_read_word [.sh (.str (S l))] = .ok (.sh w.d) [] := by
  have e := word_ok t
  rw [h] at e
  have e : m_find_word [.sh (.str (S l))] = .ok (.sh w.d) [] := e
  obtain ⟨ds, hd⟩ := w.tup
  rw [hd] at e ⊢
  refine (e_run [] 2 _ _ rfl).trans ?_
  unfold b_read_word
  simp only [RFS, RVS, isStr, e, isN_t]
theorem readw_none {l : List Nat} (t : Tx l) (h : findW l = none) : m_read_word [.sh (.str (S l))] = .exc (xT "word") [] := by
  have e := word_ok t
  rw [h] at e
  have e : m_find_word [.sh (.str (S l))] = .ok (.sh .non) [] := e
  refine (e_run [] 2 _ _ rfl).trans ?_
  unfold b_read_word
  simp only [RFS, RVS, isStr, e, isN_0, xT]
def noD (x : Str) : D := .lst [.str "no", .int 0, .str x]
theorem read_exc {d : D} {x : Str} (h : m_read_word [.sh d] = .exc (xT x) []) : m__law_read [.sh d] = .ok (.sh (noD x)) [] := by
  refine (e_run [] 3 _ _ rfl).trans ?_
  unfold b__law_read
  have f1 : ∀ ρ : ENV, dXf (fun c => c == 2) "position" (xT x) ρ = .ok (.int 0) ρ := fun _ => rfl
  have f2 : ∀ ρ : ENV, dXf (fun c => c == 2) "what" (xT x) ρ = .ok (.str x) ρ := fun _ => rfl
  have o : ∀ ρ : ENV, outK [.inl d] ρ (.exc (xT x) []) = .exc (xT x) ρ := fun _ => rfl
  have tr : ∀ ss, tryAK subT 2 2 ss (.exc (xT x) [some (.sh d), none, none]) = asgnK 2 (ss (xT x) [some (.sh d), none, none]) := fun ss => e_tryAX subT 2 2 ss (xT x) [some (.sh d), none, none] rfl (show 2 < 3 by decide)
  simp only [RFS, RVS, h, o, tr, f1, f2, noD]
theorem read_val {d r : D} (h : m_read_word [.sh d] = .ok (.sh r) []) : m__law_read [.sh d] = .ok (.sh r) [] := by
  refine (e_run [] 3 _ _ rfl).trans ?_
  unfold b__law_read
  simp only [RFS, RVS, h]
theorem readw_bad {d : D} (h : isTy "str" d = some false) : m_read_word [.sh d] = .exc (xT "text") [] := by
  refine (e_run [] 2 _ _ rfl).trans ?_
  unfold b_read_word
  simp only [RFS, RVS, h, xT]
theorem lnum_ok {l : List Nat} (h : Tx l) : m__law_number [.sh (.str (S l))] = .ok (.sh (oN (num l))) [] := by
  have q1 : CK.f .eq (.str (S (l.take 1))) (.str "-") = some (.bl (decide (l.head? = some 45))) := by rw [show CK.f .eq (.str (S (l.take 1))) (.str "-") = some (.bl (decide (l.take 1 = [45]))) from eqS _ [45], hd_eq]
  have qz : CK.f .ne (.str (S l)) (.str "0") = some (.bl (!decide (l = [48]))) := neS l [48]
  have s1 := sl1 l
  have sh := slh l
  have main : ∀ r : List Nat, Tx r → (if decide (l.head? = some 45) = true then l.tail else l) = r → m__law_number [.sh (.str (S l))] = finF [.sh (.str (S l))] ((if (decide (1 ≤ r.length) && decide (r.length ≤ 100) && r.all dig) = true then (if (decide (r.head? = some 48) && !decide (l = [48])) = true then R.ok (Fl.ret (.sh .non)) [] else (R.of (fIntT [.str (S l)]) []).bind retK) else R.ok (Fl.ret (.sh .non)) [])) := fun r tr hr => by
    have l0 : CK.f .eq (.int r.length) (.int 0) = some (.bl (!decide (1 ≤ r.length))) := by
      rw [e_eqI]
      by_cases z : 1 ≤ r.length
      · rw [decide_eq_true z, beq_false_of_ne (by omega)]; rfl
      · rw [decide_eq_false z, show (r.length : Int) = 0 by omega]; rfl
    have l1 : CK.f .gt (.int r.length) (.int 100) = some (.bl (!decide (r.length ≤ 100))) := by
      rw [e_gtI]
      by_cases z : r.length ≤ 100
      · rw [decide_eq_true z, decide_eq_false (by omega)]; rfl
      · rw [decide_eq_false z, decide_eq_true (by omega)]; rfl
    have lc := lc_fig 2 r tr [some (.sh (.str (S l))), some (.sh (.str (S r))), none] (dCmp .in_ (dVar 2) (dC (.str FIG))) (dItems (dVar 1)) rfl rfl (fun n => by simp only [RFS, in_fig])
    have al := all_f dig r
    refine (e_run [] 3 _ _ rfl).trans ?_
    unfold b__law_number
    have asg : ∀ ρ : ENV, ρ = [some (.sh (.str (S l))), none, none] → sAsg (dIf (dT (dCmp .eq (dSl (dVar 0) (dNoPart) (dPart (dC (.int 1)))) (dC (.str "-")))) (dSl (dVar 0) (dPart (dC (.int 1))) (dNoPart)) (dVar 0)) (gSet 1) ρ = .ok .nx [some (.sh (.str (S l))), some (.sh (.str (S r))), none] := fun ρ hρ => by
      subst hρ
      cases hb : decide (l.head? = some 45) with
      | true =>
        rw [hb] at q1 hr
        have hr : l.tail = r := hr
        rw [hr] at s1
        simp only [RFS, SLS, q1, s1, sh]
      | false =>
        rw [hb] at q1 hr
        have hr : l = r := hr
        rw [← hr]
        simp only [RFS, SLS, q1, sh]
    rw [show startE 3 [DV.sh (.str (S l))] = [some (.sh (.str (S l))), none, none] from rfl, seq_ok (asg _ rfl)]
    have i0 : 1 ≤ r.length → CK.f .eq (.str (S (r.take 1))) (.str "0") = some (.bl (decide (r.head? = some 48))) := fun _ => by rw [show CK.f .eq (.str (S (r.take 1))) (.str "0") = some (.bl (decide (r.take 1 = [48]))) from eqS _ [48], hd_eq]
    have ix : 1 ≤ r.length → vIxI (.str (S r)) (.int 0) = some (.str (S (r.take 1))) := fun z => ixt (by intro y; rw [y] at z; simp at z)
    by_cases z1 : 1 ≤ r.length
    · have i0 := i0 z1
      have ix := ix z1
      rw [decide_eq_true z1] at l0 ⊢
      cases z2 : decide (r.length ≤ 100) with
      | false =>
        rw [z2] at l1
        simp only [RFS, lenS, l0, l1, Bool.and_false, Bool.false_and, Bool.false_eq_true, if_false, -e_lenS, -e_eqI, -e_gtI]
      | true =>
        rw [z2] at l1
        cases z3 : r.all dig with
        | false =>
          rw [z3] at al
          simp only [RFS, lenS, l0, l1, lc, al, Bool.and_false, Bool.false_and, Bool.false_eq_true, if_false, -e_lenS, -e_eqI, -e_gtI]
        | true =>
          rw [z3] at al
          cases z4 : decide (r.head? = some 48) with
          | false =>
            rw [z4] at i0
            simp only [RFS, lenS, l0, l1, lc, al, ix, i0, Bool.and_true, Bool.false_and, Bool.false_eq_true, if_false, if_true, -e_lenS, -e_eqI, -e_gtI]
            cases fIntT [.str (S l)] <;> rfl
          | true =>
            rw [z4] at i0
            cases z5 : decide (l = [48]) with
            | false =>
              rw [z5] at qz
              simp only [RFS, lenS, l0, l1, lc, al, ix, i0, qz, Bool.and_true, Bool.false_and, Bool.false_eq_true, if_false, if_true, -e_lenS, -e_eqI, -e_gtI]
            | true =>
              rw [z5] at qz
              simp only [RFS, lenS, l0, l1, lc, al, ix, i0, qz, Bool.and_true, Bool.and_false, Bool.false_and, Bool.false_eq_true, if_false, if_true, -e_lenS, -e_eqI, -e_gtI]
              cases fIntT [.str (S l)] <;> rfl
    · rw [decide_eq_false z1] at l0 ⊢
      simp only [RFS, lenS, l0, Bool.and_false, Bool.false_and, Bool.false_eq_true, if_false, -e_lenS, -e_eqI, -e_gtI]
  by_cases hb : l.head? = some 45
  · have tl : l = 45 :: l.tail := by
      cases l with
      | nil => cases hb
      | cons c r => cases hb; rfl
    have e := main l.tail h.tail (by rw [if_pos (decide_eq_true hb)])
    rw [e]
    have nf : fig l = false := by
      unfold fig
      rw [tl, List.all_cons, show dig 45 = false from rfl]
      simp
    have nz : decide (l = [48]) = false := decide_eq_false (by rw [tl]; intro z; injection z with z _; cases z)
    rw [nz, Bool.not_false, Bool.and_true]
    have nm : num l = if l.head? = some 45 ∧ fig l.tail = true ∧ l ≠ [45, 48] then some (-((digitsVal l.tail : Nat) : Int)) else none := by
      unfold num
      exact if_neg (by rw [nf]; simp)
    rw [nm]
    clear nm
    by_cases hf : fig l.tail = true
    · have F := Fig.of hf
      rw [if_pos (show (decide (1 ≤ l.tail.length) && decide (l.tail.length ≤ 100) && l.tail.all dig) = true by rw [decide_eq_true F.lo, decide_eq_true F.hi, dig_of F.all]; rfl)]
      by_cases h48 : l.tail = [48]
      · rw [if_neg (show ¬ (l.head? = some 45 ∧ fig l.tail = true ∧ l ≠ [45, 48]) from fun z => z.2.2 (by rw [tl, h48])), if_pos (show decide (l.tail.head? = some 48) = true by rw [h48]; rfl)]
        rfl
      · rw [if_pos (show l.head? = some 45 ∧ fig l.tail = true ∧ l ≠ [45, 48] from ⟨hb, hf, fun z => h48 (by rw [z]; rfl)⟩), if_neg (show ¬ decide (l.tail.head? = some 48) = true by
          intro z
          have z := of_decide_eq_true z
          rcases F.can with q | ⟨c, r, q, hc⟩
          · exact h48 q
          · rw [q] at z; cases z; omega)]
        have ei : fIntT [.str (S l)] = some (.int (-((digitsVal l.tail : Nat) : Int))) := by
          have := PySem.intText_neg (x := S l) (cs := l.tail) tl F.all (by intro z; have := F.lo; rw [z] at this; simp at this) (by rw [SX.S_len]; have := F.hi; have := congrArg List.length tl; simp only [List.length_cons] at this; omega)
          show (if (S l).length ≤ 640 then _ else none) = _
          rw [SX.S_len, if_pos (by have := F.hi; have := congrArg List.length tl; simp only [List.length_cons] at this; omega), this]
          rfl
        rw [ei]; rfl
    · rw [if_neg (show ¬ (l.head? = some 45 ∧ fig l.tail = true ∧ l ≠ [45, 48]) from fun z => hf z.2.1)]
      by_cases hg : (decide (1 ≤ l.tail.length) && decide (l.tail.length ≤ 100) && l.tail.all dig) = true
      · rw [if_pos hg]
        have : decide (l.tail.head? = some 48) = true := by
          refine Classical.byContradiction fun z => hf ?_
          unfold fig
          rw [hg, Bool.eq_false_iff.mpr z]
          simp
        rw [if_pos this]; rfl
      · rw [if_neg hg]; rfl
  · have e := main l h (by rw [decide_eq_false hb]; rfl)
    rw [e]
    unfold num
    rw [if_neg (fun z : l.head? = some 45 ∧ fig l.tail = true ∧ l ≠ [45, 48] => hb z.1)]
    by_cases hf : fig l = true
    · have F := Fig.of hf
      rw [if_pos hf, if_pos (show (decide (1 ≤ l.length) && decide (l.length ≤ 100) && l.all dig) = true by rw [decide_eq_true F.lo, decide_eq_true F.hi, dig_of F.all]; rfl), if_neg (show ¬ (decide (l.head? = some 48) && !decide (l = [48])) = true by
        intro z
        rw [Bool.and_eq_true] at z
        have z1 := of_decide_eq_true z.1
        rcases F.can with q | ⟨c, r, q, hc⟩
        · have := z.2; rw [decide_eq_true q] at this; cases this
        · rw [q] at z1; cases z1; omega), int_d F]
      rfl
    · rw [if_neg hf]
      by_cases hg : (decide (1 ≤ l.length) && decide (l.length ≤ 100) && l.all dig) = true
      · rw [if_pos hg]
        have : (decide (l.head? = some 48) && !decide (l = [48])) = true := by
          refine Classical.byContradiction fun z => hf ?_
          unfold fig
          rw [hg, Bool.true_and]
          cases a : decide (l.head? = some 48) <;> cases b : decide (l = [48]) <;> rw [a, b] at z <;> first | rfl | exact absurd rfl z
        rw [if_pos this]; rfl
      · rw [if_neg hg]; rfl
theorem letters_ok {l : List Nat} (t : Tx l) : m__law_letters [.sh (.str (S l))] = .ok (.sh (.bl (nmS (S l)))) [] := by
  have lc := lc_low (S l) t.line
  have al := all_f low (S l).cps.toList
  have a1 : CK.f .lt (.int 0) (.int (S l).length) = some (.bl (decide (1 ≤ (S l).length))) := by rw [e_ltI]; congr 3; exact propext (by omega)
  have a2 : CK.f .lt (.int (S l).length) (.int 9) = some (.bl (decide ((S l).length ≤ 8))) := by rw [e_ltI]; congr 3; exact propext (by omega)
  refine (e_run [] 2 _ _ rfl).trans ?_
  unfold b__law_letters nmS
  generalize decide (1 ≤ (S l).length) = b1 at *
  generalize decide ((S l).length ≤ 8) = b2 at *
  cases b1 with
  | false => simp only [RFS, isStr, a1, Bool.false_and, -e_ltI]
  | true =>
    cases b2 with
    | false => simp only [RFS, isStr, a1, a2, Bool.false_and, Bool.true_and, -e_ltI]
    | true => simp only [RFS, isStr, a1, a2, lc, al, Bool.true_and, -e_ltI]
end L08
set_option Elab.async false
set_option linter.all false
set_option maxRecDepth 100000
set_option maxHeartbeats 4000000
namespace L08
open PySem L2 Rf
open SX (S)
open TL (numL)
open NumText (digitsVal AllDigits)
theorem str_it (n : Int) : (toString n : Str) = S (itL n) := by
  unfold itL
  cases n with
  | ofNat k =>
    rw [if_neg (by simp)]
    exact SX.num_S k
  | negSucc k =>
    rw [if_pos (Int.negSucc_lt_zero k)]
    refine TL.ext_tl ?_
    have e : (toString (Int.negSucc k)) = "-" ++ toString (k + 1) := rfl
    show TL.tl (Str.ofString (toString (Int.negSucc k))) = 45 :: numL (k + 1)
    rw [e, TL.tl_ofString, String.toList_append, List.map_append]
    have := TL.tl_num (k + 1)
    rw [TL.tl_ofString] at this
    rw [show (toString (((k + 1 : Nat)) : Int)) = toString (k + 1) from rfl] at this
    rw [this]
    rfl
theorem str_n {n : Int} (h : n.natAbs < 10 ^ 100) : fStrA [.int n] = some (.str (S (itL n))) := by
  have l1 : (itL n).length ≤ 101 := by
    have := num_len h
    unfold itL
    split
    · rw [List.length_cons]; omega
    · omega
  have lg : n.natAbs.log2 < 1920 := by
    by_cases z : n.natAbs = 0
    · rw [z]; decide
    · rw [Nat.log2_lt z]
      exact Nat.lt_trans h (by decide +kernel)
  show (if n.natAbs.log2 < 1920 ∧ (toString n : Str).length ≤ sizeLine then some (D.str (toString n)) else none) = _
  rw [str_it, if_pos ⟨lg, by rw [SX.S_len, sizeLine_eq]; omega⟩]
theorem addS {a b : List Nat} (h : a.length + b.length ≤ 20000) : vAdd (.str (S a)) (.str (S b)) = some (.str (S (a ++ b))) := by
  rw [e_addS _ _ (by rw [SX.S_len, SX.S_len, sizeLine_eq]; omega), SX.S_cat]
theorem it_len {n : Int} (h : n.natAbs < 10 ^ 100) : (itL n).length ≤ 101 := by
  have := num_len h
  unfold itL
  split
  · rw [List.length_cons]; omega
  · omega
theorem small {n : Int} (h : -30 ≤ n ∧ n ≤ 30) : n.natAbs < 10 ^ 100 := Nat.lt_of_le_of_lt (m := 30) (by omega) (by decide)
theorem chk_w {w : Wd} (h : w.ok) : m_check_word [.sh w.d] = .ok (.sh w.d) [] := by
  have e := kof_w h
  refine (e_run [] 1 _ _ rfl).trans ?_
  unfold b_check_word
  simp only [RFS, RVS, e]
theorem wt2 {w : Wd} {h : Str} {r : D} (hw : w.ok) (hd : w.d = .tup [.str h, r]) (v : FO)
    (k : finF [.sh (.tup [.str h, r])] ((sSeq (sIf (dT (dInK tab_SIGNED_TEXTS (dVar 1))) (sRet (dAdd (dSubK tab_SIGNED_TEXTS (dVar 1)) (dB fStrA (dCons (dVar 2) (dNil))))) (sNil))
  (sSeq (sIf (dT (dInK tab_WEEKDAY_TEXTS (dVar 1))) (sRet (dAdd (dSubK tab_WEEKDAY_TEXTS (dVar 1)) (dB fStrA (dCons (dVar 2) (dNil))))) (sNil))
  (sSeq (sAsg (dSubK tab_STEP_TEXTS (dVar 1)) (gSet 3))
  (sSeq (sIf (dT (dCmp .eq (dVar 2) (dC (.int 0)))) (sRet (dVar 3)) (sNil))
  (sRet (dAdd (dAdd (dVar 3) (dIf (dT (dCmp .gt (dVar 2) (dC (.int 0)))) (dC (.str "+")) (dC (.str "")))) (dB fStrA (dCons (dVar 2) (dNil)))))))))
    [some (.sh (.tup [.str h, r])), some (.sh (.str h)), some (.sh r), none]) = v) : m_word_text [.sh w.d] = v := by
  have c := chk_w hw
  rw [hd] at c ⊢
  rw [← k]
  refine (e_run [] 4 _ _ rfl).trans ?_
  unfold b_word_text
  have e : CK.f .eq (.int 2) (.int 1) = some (.bl false) := rfl
  generalize tab_SIGNED_TEXTS = T1
  generalize tab_WEEKDAY_TEXTS = T2
  generalize tab_STEP_TEXTS = T3
  generalize hK : (sSeq (sIf (dT (dInK T1 (dVar 1))) _ _) _ : ENV → R Fl) = K
  simp only [RFS, RVS, c, lenT2, e, ix20, ix21, -e_lenT, -e_eqI]
theorem wt_sign {w : Wd} {h s : Str} {r : D} {hl rl : List Nat} (hw : w.ok) (hd : w.d = .tup [.str h, r]) (hs : lkS h tab_SIGNED_TEXTS = some (.str (S hl))) (hr : fStrA [r] = some (.str (S rl))) (hl2 : hl.length + rl.length ≤ 20000) : m_word_text [.sh w.d] = .ok (.sh (.str (S (hl ++ rl)))) [] := by
  refine wt2 hw hd _ ?_
  have a := addS hl2
  generalize tab_SIGNED_TEXTS = T1 at *
  simp only [RFS, e_InK, e_inK, e_SubK, e_subK_, hs, Option.isSome_some, hr, a]
theorem wt_week {w : Wd} {h : Str} {r : D} {hl rl : List Nat} (hw : w.ok) (hd : w.d = .tup [.str h, r]) (h0 : lkS h tab_SIGNED_TEXTS = none) (hs : lkS h tab_WEEKDAY_TEXTS = some (.str (S hl))) (hr : fStrA [r] = some (.str (S rl))) (hl2 : hl.length + rl.length ≤ 20000) : m_word_text [.sh w.d] = .ok (.sh (.str (S (hl ++ rl)))) [] := by
  refine wt2 hw hd _ ?_
  have a := addS hl2
  generalize tab_SIGNED_TEXTS = T1 at *
  generalize tab_WEEKDAY_TEXTS = T2 at *
  simp only [RFS, e_InK, e_inK, e_SubK, e_subK_, h0, hs, Option.isSome_some, Option.isSome_none, hr, a]
theorem wt_step {w : Wd} {h : Str} {n : Int} {hl : List Nat} (hw : w.ok) (hn : -30 ≤ n ∧ n ≤ 30) (hd : w.d = .tup [.str h, .int n]) (h0 : lkS h tab_SIGNED_TEXTS = none) (h1 : lkS h tab_WEEKDAY_TEXTS = none) (hs : lkS h tab_STEP_TEXTS = some (.str (S hl))) (hl2 : hl.length ≤ 100) : m_word_text [.sh w.d] = .ok (.sh (.str (S (hl ++ stp n)))) [] := by
  refine wt2 hw hd _ ?_
  have r := str_n (small hn)
  have l2 := it_len (small hn)
  have e0 : CK.f .eq (.int n) (.int 0) = some (.bl (decide (n = 0))) := by rw [e_eqI]; rfl
  have eg : CK.f .gt (.int n) (.int 0) = some (.bl (decide (0 < n))) := rfl
  generalize tab_SIGNED_TEXTS = T1 at *
  generalize tab_WEEKDAY_TEXTS = T2 at *
  generalize tab_STEP_TEXTS = T3 at *
  unfold stp
  by_cases z : n = 0
  · rw [if_pos z, List.append_nil]
    rw [decide_eq_true z] at e0
    simp only [RFS, e_InK, e_inK, e_SubK, e_subK_, h0, h1, hs, Option.isSome_none, e0, -e_eqI]
  · rw [if_neg z]
    rw [decide_eq_false z] at e0
    by_cases p : 0 < n
    · rw [if_pos p]
      rw [decide_eq_true p] at eg
      have a1 : vAdd (.str (S hl)) (.str "+") = some (.str (S (hl ++ [43]))) := addS (b := [43]) (by simp; omega)
      have a2 := addS (a := hl ++ [43]) (b := itL n) (by simp; omega)
      rw [show hl ++ [43] ++ itL n = hl ++ 43 :: itL n by simp] at a2
      simp only [RFS, e_InK, e_inK, e_SubK, e_subK_, h0, h1, hs, Option.isSome_none, e0, eg, a1, a2, r, -e_eqI, -e_gtI]
    · rw [if_neg p]
      rw [decide_eq_false p] at eg
      have a1 : vAdd (.str (S hl)) (.str "") = some (.str (S (hl ++ []))) := addS (b := []) (by simp; omega)
      rw [List.append_nil] at a1
      have a2 := addS (a := hl) (b := itL n) (by omega)
      simp only [RFS, e_InK, e_inK, e_SubK, e_subK_, h0, h1, hs, Option.isSome_none, e0, eg, a1, a2, r, -e_eqI, -e_gtI]
theorem text_w {w : Wd} (h : w.ok) : m_word_text [.sh w.d] = .ok (.sh (.str (S w.tx))) [] := by
  have sv : ∀ {n : Int}, 0 ≤ n ∧ n ≤ 6 → n.natAbs < 10 ^ 100 := fun z => small ⟨by omega, by omega⟩
  have nl : ∀ {x : Str}, Nm x → fStrA [.str x] = some (.str (S x.cps.toList)) := fun {x} _ => by rw [SX.S_tl]; rfl
  have nn : ∀ {x : Str}, Nm x → x.cps.toList.length ≤ 8 := fun z => by have := z.hi; rw [Array.length_toList]; exact this
  cases w with
  | nam x => exact wt_sign (h := "name") (s := "") (hl := [64]) h rfl (by kernel_rfl) (nl h) (by have := nn h; simp at this ⊢; omega)
  | pla x => exact wt_sign (h := "place") (s := "") (hl := [35]) h rfl (by kernel_rfl) (nl h) (by have := nn h; simp at this ⊢; omega)
  | dat n => exact wt_sign (h := "date") (s := "") (hl := [61]) (rl := itL n) h rfl (by kernel_rfl) (str_n h) (by have := it_len h; simp at this ⊢; omega)
  | tod n => exact wt_step (h := "today") (hl := todL) h h rfl (by kernel_rfl) (by kernel_rfl) (by kernel_rfl) (by decide)
  | tha n => exact wt_step (h := "that day") (hl := thaL) h h rfl (by kernel_rfl) (by kernel_rfl) (by kernel_rfl) (by decide)
  | com n => exact wt_week (h := "coming") (hl := comL) h rfl (by kernel_rfl) (by kernel_rfl) (str_n (sv h)) (by have := it_len (sv h); simp [comL] at this ⊢; omega)
  | las n => exact wt_week (h := "last") (hl := lasL) h rfl (by kernel_rfl) (by kernel_rfl) (str_n (sv h)) (by have := it_len (sv h); simp [lasL] at this ⊢; omega)
  | tco n => exact wt_week (h := "then coming") (hl := tcoL) h rfl (by kernel_rfl) (by kernel_rfl) (str_n (sv h)) (by have := it_len (sv h); simp [tcoL] at this ⊢; omega)
  | tla n => exact wt_week (h := "then last") (hl := tlaL) h rfl (by kernel_rfl) (by kernel_rfl) (str_n (sv h)) (by have := it_len (sv h); simp [tlaL] at this ⊢; omega)
  | _ => kernel_rfl
theorem written_w {w : Wd} (h : w.ok) : m__law_written [.sh w.d] = .ok (.sh (.str (S w.tx))) [] := by
  have e := text_w h
  refine (e_run [] 2 _ _ rfl).trans ?_
  unfold b__law_written
  simp only [RFS, RVS, e]
theorem written_bad {d : D} (h : Th d) (q : kd d = .non) : m__law_written [.sh d] = .ok (.sh .non) [] := by
  have e := kof_bad h q
  have c : m_check_word [.sh d] = .exc xW [] := by
    refine (e_run [] 1 _ _ rfl).trans ?_
    unfold b_check_word
    simp only [RFS, RVS, e, oXW1]
  have t : m_word_text [.sh d] = .exc xW [] := by
    refine (e_run [] 4 _ _ rfl).trans ?_
    unfold b_word_text
    simp only [RFS, RVS, c, oXW1]
  have tr : ∀ ss ρ ρ' f, ss ρ = .ok f ρ' → tryK subT 1 ss (.exc xW ρ) = .ok f ρ' := fun ss ρ ρ' f h2 => e_tryX subT 1 ss xW ρ ρ' f rfl h2
  refine (e_run [] 2 _ _ rfl).trans ?_
  unfold b__law_written
  have tr2 := tr (sRet (dC .non)) [some (.sh d), none] [some (.sh d), none] (.ret (.sh .non)) rfl
  simp only [RFS, RVS, t, oXW1, tr2]
end L08
set_option Elab.async false
set_option linter.all false
set_option maxRecDepth 100000
set_option maxHeartbeats 4000000
namespace L08
open PySem L2 Rf
open SX (S)
open TL (numL)
open NumText (digitsVal AllDigits)
def replK (y z : Str) : D → ENV → R D := fun d ρ1 => match d with
  | .str x => if x.length + (x.length + 1) * z.length ≤ 16777216 then .ok (.str (Txt.replace x y z)) ρ1 else .bot
  | _ => .bot
theorem e_Repl (da : ENV → R D) (y z : Str) (ρ : ENV) : dRepl da y z ρ = (da ρ).bind (replK y z) := rfl
theorem e_repl {x y z w : Str} (h : x.length + (x.length + 1) * z.length ≤ 16777216) (e : Txt.replace x y z = w) (ρ : ENV) : replK y z (.str x) ρ = .ok (.str w) ρ := by
  show (if x.length + (x.length + 1) * z.length ≤ 16777216 then R.ok (D.str (Txt.replace x y z)) ρ else .bot) = _
  rw [if_pos h, e]
theorem e_Dis (kvs : List (Str × Str)) (da : ENV → R D) (ρ : ENV) : dDis kvs da ρ = (da ρ).bind (disK kvs) := rfl
theorem e_disK (kvs : List (Str × Str)) (k : Str) (ρ : ENV) : disK kvs (.str k) ρ = R.of (disV kvs k) ρ := rfl
theorem rp_com : Txt.replace "coming" " " "" = S comL := by kernel_rfl
theorem rp_las : Txt.replace "last" " " "" = S lasL := by kernel_rfl
theorem rp_tco : Txt.replace "then coming" " " "" = S tcoL := by kernel_rfl
theorem rp_tla : Txt.replace "then last" " " "" = S tlaL := by kernel_rfl
structure Hq (h : Str) (b1 b2 b3 b4 b5 b6 : Bool) : Prop where
  q1 : CK.f .eq (.str h) (.str "one day") = some (.bl b1)
  q2 : CK.f .eq (.str h) (.str "name") = some (.bl b2)
  q3 : CK.f .eq (.str h) (.str "place") = some (.bl b3)
  q4 : CK.f .eq (.str h) (.str "date") = some (.bl b4)
  q5 : CK.f .eq (.str h) (.str "today") = some (.bl b5)
  q6 : CK.f .eq (.str h) (.str "that day") = some (.bl b6)
theorem len22 (a b : D) : fLen [.tup [a, b]] = some (.int 2) := rfl
theorem e21 : CK.f .eq (.int 2) (.int 1) = some (.bl false) := rfl
theorem lw_sign {h : Str} {r : D} {b2 b3 b4 : Bool} {hl rl : List Nat} (H : Hq h false b2 b3 b4 false false) (hb : (b2 || (b3 || b4)) = true) (hs : disV [("name", "@"), ("place", "#"), ("date", "=")] h = some (.str (S hl))) (hr : fStrA [r] = some (.str (S rl))) (hl2 : hl.length + rl.length ≤ 20000) :
    m__law_word_text [.sh (.tup [.str h, r])] = .ok (.sh (.str (S (hl ++ rl)))) [] := by
  have a := addS hl2
  obtain ⟨q1, q2, q3, q4, q5, q6⟩ := H
  refine (e_run [] 2 _ _ rfl).trans ?_
  unfold b__law_word_text
  generalize [(("name" : Str), ("@" : Str)), ("place", "#"), ("date", "=")] = T at *
  cases b2 with
  | true => simp only [RFS, RVS, len22, e21, ix20, ix21, q1, q2, e_Dis, e_disK, hs, hr, a, -e_lenT, -e_eqI]
  | false => cases b3 with
    | true => simp only [RFS, RVS, len22, e21, ix20, ix21, q1, q2, q3, e_Dis, e_disK, hs, hr, a, -e_lenT, -e_eqI]
    | false => cases b4 with
      | true => simp only [RFS, RVS, len22, e21, ix20, ix21, q1, q2, q3, q4, e_Dis, e_disK, hs, hr, a, -e_lenT, -e_eqI]
      | false => cases hb
theorem lw_week {h : Str} {n : Int} {hl : List Nat} (H : Hq h false false false false false false) (hn : n.natAbs < 10 ^ 100) (hx : h.length + (h.length + 1) * ("" : Str).length ≤ 16777216) (he : Txt.replace h " " "" = S hl) (hl2 : hl.length ≤ 100) :
    m__law_word_text [.sh (.tup [.str h, .int n])] = .ok (.sh (.str (S (hl ++ itL n)))) [] := by
  have l2 := it_len hn
  have a := addS (a := hl) (b := itL n) (by omega)
  have r := str_n hn
  have rp := fun ρ => e_repl hx he ρ
  obtain ⟨q1, q2, q3, q4, q5, q6⟩ := H
  refine (e_run [] 2 _ _ rfl).trans ?_
  unfold b__law_word_text
  generalize [(("name" : Str), ("@" : Str)), ("place", "#"), ("date", "=")] = T
  simp only [RFS, RVS, len22, e21, ix20, ix21, q1, q2, q3, q4, q5, q6, e_Repl, rp, r, a, -e_lenT, -e_eqI]
theorem lw_step {h : Str} {n : Int} {b6 : Bool} {hl : List Nat} (H : Hq h false false false false (!b6) b6) (hn : -30 ≤ n ∧ n ≤ 30) (he : (if b6 = true then ("that" : Str) else "today") = S hl) (hl2 : hl.length ≤ 100) :
    m__law_word_text [.sh (.tup [.str h, .int n])] = .ok (.sh (.str (S (hl ++ stp n)))) [] := by
  have r := str_n (small hn)
  have l2 := it_len (small hn)
  have e0 : CK.f .eq (.int n) (.int 0) = some (.bl (decide (n = 0))) := by rw [e_eqI]; rfl
  have eg : CK.f .gt (.int n) (.int 0) = some (.bl (decide (0 < n))) := rfl
  have a1 : vAdd (.str (S hl)) (.str "+") = some (.str (S (hl ++ [43]))) := addS (b := [43]) (by simp; omega)
  have a2 := addS (a := hl ++ [43]) (b := itL n) (by simp; omega)
  rw [show hl ++ [43] ++ itL n = hl ++ 43 :: itL n by simp] at a2
  have a3 : vAdd (.str (S hl)) (.str "") = some (.str (S (hl ++ []))) := addS (b := []) (by simp; omega)
  rw [List.append_nil] at a3
  have a4 := addS (a := hl) (b := itL n) (by omega)
  obtain ⟨q1, q2, q3, q4, q5, q6⟩ := H
  refine (e_run [] 2 _ _ rfl).trans ?_
  unfold b__law_word_text stp
  generalize [(("name" : Str), ("@" : Str)), ("place", "#"), ("date", "=")] = T
  by_cases z : n = 0
  · rw [if_pos z, List.append_nil]
    rw [decide_eq_true z] at e0
    cases b6 with
    | true =>
      have he : ("that" : Str) = S hl := he
      simp only [RFS, RVS, len22, e21, ix20, ix21, q1, q2, q3, q4, q5, q6, he, e0, -e_lenT, -e_eqI]
    | false =>
      have he : ("today" : Str) = S hl := he
      simp only [RFS, RVS, len22, e21, ix20, ix21, q1, q2, q3, q4, q5, q6, e0, -e_lenT, -e_eqI]
      rw [he]
  · rw [if_neg z]
    rw [decide_eq_false z] at e0
    by_cases p : 0 < n
    · rw [if_pos p]
      rw [decide_eq_true p] at eg
      cases b6 with
      | true =>
        have he : ("that" : Str) = S hl := he
        rw [← he] at a1
        simp only [RFS, RVS, len22, e21, ix20, ix21, q1, q2, q3, q4, q5, q6, e0, eg, a1, a2, r, -e_lenT, -e_eqI, -e_gtI]
      | false =>
        have he : ("today" : Str) = S hl := he
        rw [← he] at a1
        simp only [RFS, RVS, len22, e21, ix20, ix21, q1, q2, q3, q4, q5, q6, e0, eg, a1, a2, r, -e_lenT, -e_eqI, -e_gtI]
    · rw [if_neg p]
      rw [decide_eq_false p] at eg
      cases b6 with
      | true =>
        have he : ("that" : Str) = S hl := he
        rw [← he] at a3 a4
        simp only [RFS, RVS, len22, e21, ix20, ix21, q1, q2, q3, q4, q5, q6, e0, eg, a3, a4, r, -e_lenT, -e_eqI, -e_gtI]
      | false =>
        have he : ("today" : Str) = S hl := he
        rw [← he] at a3 a4
        simp only [RFS, RVS, len22, e21, ix20, ix21, q1, q2, q3, q4, q5, q6, e0, eg, a3, a4, r, -e_lenT, -e_eqI, -e_gtI]
theorem lwt {w : Wd} (h : w.ok) : m__law_word_text [.sh w.d] = .ok (.sh (.str (S w.tx))) [] := by
  have sv : ∀ {n : Int}, 0 ≤ n ∧ n ≤ 6 → n.natAbs < 10 ^ 100 := fun z => small ⟨by omega, by omega⟩
  have nl : ∀ {x : Str}, Nm x → fStrA [.str x] = some (.str (S x.cps.toList)) := fun {x} _ => by rw [SX.S_tl]; rfl
  have nn : ∀ {x : Str}, Nm x → x.cps.toList.length ≤ 8 := fun z => by have := z.hi; rw [Array.length_toList]; exact this
  cases w with
  | nam x => exact lw_sign (h := "name") (b2 := true) (b3 := false) (b4 := false) (hl := [64]) ⟨by kernel_rfl, by kernel_rfl, by kernel_rfl, by kernel_rfl, by kernel_rfl, by kernel_rfl⟩ rfl (by kernel_rfl) (nl h) (by have := nn h; simp at this ⊢; omega)
  | pla x => exact lw_sign (h := "place") (b2 := false) (b3 := true) (b4 := false) (hl := [35]) ⟨by kernel_rfl, by kernel_rfl, by kernel_rfl, by kernel_rfl, by kernel_rfl, by kernel_rfl⟩ rfl (by kernel_rfl) (nl h) (by have := nn h; simp at this ⊢; omega)
  | dat n => exact lw_sign (h := "date") (b2 := false) (b3 := false) (b4 := true) (hl := [61]) (rl := itL n) ⟨by kernel_rfl, by kernel_rfl, by kernel_rfl, by kernel_rfl, by kernel_rfl, by kernel_rfl⟩ rfl (by kernel_rfl) (str_n h) (by have := it_len h; simp at this ⊢; omega)
  | tod n => exact lw_step (h := "today") (b6 := false) (hl := todL) ⟨by kernel_rfl, by kernel_rfl, by kernel_rfl, by kernel_rfl, by kernel_rfl, by kernel_rfl⟩ h (by kernel_rfl) (by decide)
  | tha n => exact lw_step (h := "that day") (b6 := true) (hl := thaL) ⟨by kernel_rfl, by kernel_rfl, by kernel_rfl, by kernel_rfl, by kernel_rfl, by kernel_rfl⟩ h (by kernel_rfl) (by decide)
  | com n => exact lw_week (h := "coming") ⟨by kernel_rfl, by kernel_rfl, by kernel_rfl, by kernel_rfl, by kernel_rfl, by kernel_rfl⟩ (sv h) (by decide +kernel) rp_com (by decide)
  | las n => exact lw_week (h := "last") ⟨by kernel_rfl, by kernel_rfl, by kernel_rfl, by kernel_rfl, by kernel_rfl, by kernel_rfl⟩ (sv h) (by decide +kernel) rp_las (by decide)
  | tco n => exact lw_week (h := "then coming") ⟨by kernel_rfl, by kernel_rfl, by kernel_rfl, by kernel_rfl, by kernel_rfl, by kernel_rfl⟩ (sv h) (by decide +kernel) rp_tco (by decide)
  | tla n => exact lw_week (h := "then last") ⟨by kernel_rfl, by kernel_rfl, by kernel_rfl, by kernel_rfl, by kernel_rfl, by kernel_rfl⟩ (sv h) (by decide +kernel) rp_tla (by decide)
  | _ => kernel_rfl
end L08
set_option Elab.async false
set_option linter.all false
set_option maxRecDepth 100000
set_option maxHeartbeats 4000000
namespace L08
open PySem L2 Rf
open SX (S)
open TL (numL)
open NumText (digitsVal AllDigits)
theorem lk_app (l : List Nat) (b : List Wd) : ∀ a : List Wd, lk l (tab (a ++ b)) = orW (lk l (tab a)) (lk l (tab b))
  | [] => rfl
  | w :: a => by
    show (if l = w.tx then some w else lk l (tab (a ++ b))) = orW (if l = w.tx then some w else lk l (tab a)) _
    by_cases e : l = w.tx
    · rw [if_pos e, if_pos e]; rfl
    · rw [if_neg e, if_neg e]; exact lk_app l b a
theorem loop_lk {α : Type} {l : List Nat} {B : ENV → R Fl} {j : Nat} {item : α → D} {f : α → Wd} {E : Option DV → ENV} (hE : ∀ o x, (E o).set j x = E x) (hj : ∀ o, j < (E o).length) :
    ∀ is : List α, (∀ i ∈ is, B (E (some (.sh (item i)))) = if l = (f i).tx then .ok (.ret (.sh (f i).d)) (E (some (.sh (item i)))) else .ok .nx (E (some (.sh (item i))))) → ∀ o,
    (∀ w, lk l (tab (is.map f)) = some w → rv (forL (gSet j) B (is.map item) (E o)) = some (.sh w.d)) ∧ (lk l (tab (is.map f)) = none → ∃ o', forL (gSet j) B (is.map item) (E o) = .ok .nx (E o'))
  | [], _, o => ⟨fun w h => (by cases h), fun _ => ⟨o, rfl⟩⟩
  | i :: is, hB, o => by
    have h1 := hB i List.mem_cons_self
    have ih := loop_lk (item := item) hE hj is (fun k hk => hB k (List.mem_cons_of_mem _ hk)) (some (.sh (item i)))
    rw [List.map_cons, List.map_cons, forL_set j B _ _ _ (hj o), hE]
    have e0 : lk l (tab (f i :: is.map f)) = if l = (f i).tx then some (f i) else lk l (tab (is.map f)) := rfl
    rw [e0]
    by_cases e : l = (f i).tx
    · rw [if_pos e] at h1 ⊢
      rw [h1]
      exact ⟨fun w h => by cases h; rfl, fun h => by cases h⟩
    · rw [if_neg e] at h1 ⊢
      rw [h1]
      exact ih
def dueB1 : ENV → R Fl := sIf (dT (dCmp .eq (dVar 0) (dCall m__law_word_text (aVal (dVar 1) (aNil))))) (sRet (dVar 1)) (sNil)
def dueB4 : ENV → R Fl := sIf (dT (dCmp .eq (dVar 0) (dAdd (dRepl (dVar 3) " " "") (dB fStrA (dCons (dVar 4) (dNil)))))) (sRet (dTup (dCons (dVar 3) (dCons (dVar 4) (dNil))))) (sNil)
def dueB3 : ENV → R Fl := sFor (dRng1 (dC (.int 7))) (gSet 4) dueB4
def dueB5 : ENV → R Fl := sIf (dT (dCmp .eq (dVar 0) (dCall m__law_word_text (aVal (dTup (dCons (dVar 3) (dCons (dVar 5) (dNil)))) (aNil))))) (sRet (dTup (dCons (dVar 3) (dCons (dVar 5) (dNil))))) (sNil)
def dueB6 : ENV → R Fl := sFor (dRng2 (dNeg (dC (.int 30))) (dC (.int 31))) (gSet 5) dueB5
def dueL1 : ENV → R (List D) := dItems (dLst (dCons (dTup (dCons (dC (.str "I")) (dNil))) (dCons (dTup (dCons (dC (.str "you")) (dNil))) (dCons (dTup (dCons (dC (.str "self")) (dNil))) (dCons (dTup (dCons (dC (.str "told")) (dNil))) (dCons (dTup (dCons (dC (.str "somebody")) (dNil))) (dCons (dTup (dCons (dC (.str "one day")) (dNil))) (dCons (dTup (dCons (dC (.str "here")) (dNil))) (dCons (dTup (dCons (dC (.str "there")) (dNil))) (dCons (dTup (dCons (dC (.str "somewhere")) (dNil))) (dNil)))))))))))
def dueL3 : ENV → R (List D) := dItems (dLst (dCons (dC (.str "coming")) (dCons (dC (.str "last")) (dCons (dC (.str "then coming")) (dCons (dC (.str "then last")) (dNil))))))
def dueL6 : ENV → R (List D) := dItems (dLst (dCons (dC (.str "today")) (dCons (dC (.str "that day")) (dNil))))
def dueN : ENV → R Fl := sSeq (sAsg (dCall m__law_number (aVal (dSl (dVar 0) (dPart (dC (.int 1))) (dNoPart)) (aNil))) (gSet 2))
  (sRet (dIf (dT (dCmp .isN (dVar 2) (dC .non))) (dC .non) (dTup (dCons (dC (.str "date")) (dCons (dVar 2) (dNil))))))
def dueS : ENV → R Fl := sRet (dIf (dTru (dCall m__law_letters (aVal (dSl (dVar 0) (dPart (dC (.int 1))) (dNoPart)) (aNil)))) (dTup (dCons (dOp vIxB (dLst (dCons (dC (.str "name")) (dCons (dC (.str "place")) (dNil)))) (dCmp .eq (dIx (dVar 0) (dC (.int 0))) (dC (.str "#")))) (dCons (dSl (dVar 0) (dPart (dC (.int 1))) (dNoPart)) (dNil)))) (dC .non))
def dueT : ENV → R Fl := sSeq (sFor dueL3 (gSet 3) dueB3)
  (sSeq (sIf (dAnd (dT (dCmp .ne (dSl (dVar 0) (dNoPart) (dPart (dC (.int 5)))) (dC (.str "today")))) (dT (dCmp .ne (dSl (dVar 0) (dNoPart) (dPart (dC (.int 4)))) (dC (.str "that"))))) (sRet (dC .non)) (sNil))
  (sSeq (sFor dueL6 (gSet 3) dueB6)
  (sRet (dC .non))))
theorem due_cut : b__law_due = sSeq (sFor dueL1 (gSet 1) dueB1)
  (sSeq (sIf (dOr (dT (dCmp .eq (dSl (dVar 0) (dNoPart) (dPart (dC (.int 1)))) (dC (.str "@")))) (dT (dCmp .eq (dSl (dVar 0) (dNoPart) (dPart (dC (.int 1)))) (dC (.str "#"))))) dueS (sNil))
  (sSeq (sIf (dT (dCmp .eq (dSl (dVar 0) (dNoPart) (dPart (dC (.int 1)))) (dC (.str "=")))) dueN (sNil)) dueT)) := rfl
def E1 (l : List Nat) (o : Option DV) : ENV := [some (.sh (.str (S l))), o, none, none, none, none]
def E4 (l : List Nat) (o : Option DV) (h : Option DV) (x : Option DV) : ENV := [some (.sh (.str (S l))), o, none, h, x, none]
def E5 (l : List Nat) (o : Option DV) (h x : Option DV) (y : Option DV) : ENV := [some (.sh (.str (S l))), o, none, h, x, y]
theorem sng_ok {w : Wd} (h : w ∈ sngW) : w.ok := by
  simp only [sngW, List.mem_cons, List.not_mem_nil, or_false] at h
  rcases h with rfl | rfl | rfl | rfl | rfl | rfl | rfl | rfl | rfl <;> trivial
theorem b1_ok (l : List Nat) {w : Wd} (h : w.ok) : dueB1 (E1 l (some (.sh w.d))) = if l = w.tx then .ok (.ret (.sh w.d)) (E1 l (some (.sh w.d))) else .ok .nx (E1 l (some (.sh w.d))) := by
  have e := lwt h
  have q := eqS l w.tx
  unfold dueB1 E1
  by_cases z : l = w.tx
  · rw [decide_eq_true z] at q
    rw [if_pos z]
    simp only [RFS, e, q]
  · rw [decide_eq_false z] at q
    rw [if_neg z]
    simp only [RFS, e, q]
theorem loop1 (l : List Nat) : (∀ w, lk l (tab sngW) = some w → rv (sFor dueL1 (gSet 1) dueB1 (E1 l none)) = some (.sh w.d)) ∧ (lk l (tab sngW) = none → ∃ o, sFor dueL1 (gSet 1) dueB1 (E1 l none) = .ok .nx (E1 l o)) := by
  have a := loop_lk (l := l) (B := dueB1) (j := 1) (item := Wd.d) (f := id) (E := E1 l) (fun o x => rfl) (fun o => by show 1 < 6; decide) sngW (fun w hw => b1_ok l (sng_ok hw)) none
  rw [List.map_id] at a
  have e : sFor dueL1 (gSet 1) dueB1 (E1 l none) = forL (gSet 1) dueB1 (sngW.map Wd.d) (E1 l none) := by
    show (dueL1 (E1 l none)).bind (forK (gSet 1) dueB1) = _
    have d : dueL1 (E1 l none) = .ok (sngW.map Wd.d) (E1 l none) := by kernel_rfl
    rw [d]; rfl
  rw [e]
  exact a
theorem b4_ok (l : List Nat) (o : Option DV) {h : Str} {hl : List Nat} {f : Int → Wd} (hd : ∀ n, (f n).d = .tup [.str h, .int n]) (ht : ∀ n, (f n).tx = hl ++ itL n) (hx : h.length + (h.length + 1) * ("" : Str).length ≤ 16777216) (he : Txt.replace h " " "" = S hl) (hl2 : hl.length ≤ 100) {n : Int} (hn : 0 ≤ n ∧ n ≤ 6) :
    dueB4 (E4 l o (some (.sh (.str h))) (some (.sh (.int n)))) = if l = (f n).tx then .ok (.ret (.sh (f n).d)) (E4 l o (some (.sh (.str h))) (some (.sh (.int n)))) else .ok .nx (E4 l o (some (.sh (.str h))) (some (.sh (.int n)))) := by
  have sm : n.natAbs < 10 ^ 100 := small ⟨by omega, by omega⟩
  have l2 := it_len sm
  have a := addS (a := hl) (b := itL n) (by omega)
  have r := str_n sm
  have rp := fun ρ => e_repl hx he ρ
  have q := eqS l (hl ++ itL n)
  rw [hd, ht]
  unfold dueB4 E4
  by_cases z : l = hl ++ itL n
  · rw [decide_eq_true z] at q
    rw [if_pos z]
    simp only [RFS, e_Repl, rp, r, a, q]
  · rw [decide_eq_false z] at q
    rw [if_neg z]
    simp only [RFS, e_Repl, rp, r, a, q]
theorem int7 : (intR 7 0).map D.int = [.int 0, .int 1, .int 2, .int 3, .int 4, .int 5, .int 6] := by kernel_rfl
theorem b3_ok (l : List Nat) (o x : Option DV) {h : Str} {hl : List Nat} {f : Int → Wd} (hd : ∀ n, (f n).d = .tup [.str h, .int n]) (ht : ∀ n, (f n).tx = hl ++ itL n) (hx : h.length + (h.length + 1) * ("" : Str).length ≤ 16777216) (he : Txt.replace h " " "" = S hl) (hl2 : hl.length ≤ 100) :
    (∀ w, lk l (tab ((intR 7 0).map f)) = some w → rv (dueB3 (E4 l o (some (.sh (.str h))) x)) = some (.sh w.d)) ∧ (lk l (tab ((intR 7 0).map f)) = none → ∃ x', dueB3 (E4 l o (some (.sh (.str h))) x) = .ok .nx (E4 l o (some (.sh (.str h))) x')) := by
  have a := loop_lk (l := l) (B := dueB4) (j := 4) (item := D.int) (f := f) (E := E4 l o (some (.sh (.str h)))) (fun o x => rfl) (fun o => by show 4 < 6; decide) (intR 7 0) (fun n hn => b4_ok l o hd ht hx he hl2 ⟨(mem_intR.mp hn).1, by have := (mem_intR.mp hn).2; omega⟩) x
  have e : dueB3 (E4 l o (some (.sh (.str h))) x) = forL (gSet 4) dueB4 ((intR 7 0).map D.int) (E4 l o (some (.sh (.str h))) x) := by
    rw [int7]
    unfold dueB3
    generalize dueB4 = B
    simp only [RFS]
  rw [e]
  exact a
theorem b5_ok (l : List Nat) (o x : Option DV) {h : Str} {f : Int → Wd} (hd : ∀ n, (f n).d = .tup [.str h, .int n]) {n : Int} (hw : (f n).ok) :
    dueB5 (E5 l o (some (.sh (.str h))) x (some (.sh (.int n)))) = if l = (f n).tx then .ok (.ret (.sh (f n).d)) (E5 l o (some (.sh (.str h))) x (some (.sh (.int n)))) else .ok .nx (E5 l o (some (.sh (.str h))) x (some (.sh (.int n)))) := by
  have e := lwt hw
  have q := eqS l (f n).tx
  rw [hd] at e ⊢
  unfold dueB5 E5
  by_cases z : l = (f n).tx
  · rw [decide_eq_true z] at q
    rw [if_pos z]
    simp only [RFS, e, q]
  · rw [decide_eq_false z] at q
    rw [if_neg z]
    simp only [RFS, e, q]
theorem int61 : rng (-30) 31 = (intR 61 (-30)).map D.int := by kernel_rfl
theorem b6_ok (l : List Nat) (o x y : Option DV) {h : Str} {f : Int → Wd} (hd : ∀ n, (f n).d = .tup [.str h, .int n]) (hw : ∀ n, -30 ≤ n ∧ n ≤ 30 → (f n).ok) :
    (∀ w, lk l (tab ((intR 61 (-30)).map f)) = some w → rv (dueB6 (E5 l o (some (.sh (.str h))) x y)) = some (.sh w.d)) ∧ (lk l (tab ((intR 61 (-30)).map f)) = none → ∃ y', dueB6 (E5 l o (some (.sh (.str h))) x y) = .ok .nx (E5 l o (some (.sh (.str h))) x y')) := by
  have a := loop_lk (l := l) (B := dueB5) (j := 5) (item := D.int) (f := f) (E := E5 l o (some (.sh (.str h))) x) (fun o x => rfl) (fun o => by show 5 < 6; decide) (intR 61 (-30)) (fun n hn => b5_ok l o x hd (hw n ⟨(mem_intR.mp hn).1, by have := (mem_intR.mp hn).2; omega⟩)) y
  have e : dueB6 (E5 l o (some (.sh (.str h))) x y) = forL (gSet 5) dueB5 ((intR 61 (-30)).map D.int) (E5 l o (some (.sh (.str h))) x y) := by
    have d : dRng2 (dNeg (dC (.int 30))) (dC (.int 31)) (E5 l o (some (.sh (.str h))) x y) = .ok (rng (-30) 31) (E5 l o (some (.sh (.str h))) x y) := by kernel_rfl
    show (dRng2 (dNeg (dC (.int 30))) (dC (.int 31)) (E5 l o (some (.sh (.str h))) x y)).bind (forK (gSet 5) dueB5) = _
    rw [d, int61]; rfl
  rw [e]
  exact a
theorem seq_rv {A K : ENV → R Fl} {ρ : ENV} {v : DV} (h : rv (A ρ) = some v) : rv (sSeq A K ρ) = some v := by
  obtain ⟨ρ', h⟩ := rv_some h
  rw [seq_ret h]; rfl
theorem turn_rv {j : Nat} {B : ENV → R Fl} {d : D} {ds : List D} {ρ : ENV} {v : DV} (hj : j < ρ.length) (h : rv (B (ρ.set j (some (.sh d)))) = some v) : rv (forL (gSet j) B (d :: ds) ρ) = some v := by
  obtain ⟨ρ', h⟩ := rv_some h
  rw [forL_set j B _ _ _ hj, h]; rfl
theorem turn_nx {j : Nat} {B : ENV → R Fl} {d : D} {ds : List D} {ρ ρ' : ENV} (hj : j < ρ.length) (h : B (ρ.set j (some (.sh d))) = .ok .nx ρ') : forL (gSet j) B (d :: ds) ρ = forL (gSet j) B ds ρ' := by
  rw [forL_set j B _ _ _ hj, h]; rfl
theorem loop3 (l : List Nat) (o h0 x0 : Option DV) : (∀ w, lk l (tab wkW) = some w → rv (sFor dueL3 (gSet 3) dueB3 (E4 l o h0 x0)) = some (.sh w.d)) ∧ (lk l (tab wkW) = none → ∃ h x, sFor dueL3 (gSet 3) dueB3 (E4 l o h0 x0) = .ok .nx (E4 l o h x)) := by
  have e : sFor dueL3 (gSet 3) dueB3 (E4 l o h0 x0) = forL (gSet 3) dueB3 [.str "coming", .str "last", .str "then coming", .str "then last"] (E4 l o h0 x0) := by
    have d : dueL3 (E4 l o h0 x0) = .ok [.str "coming", .str "last", .str "then coming", .str "then last"] (E4 l o h0 x0) := by kernel_rfl
    show (dueL3 (E4 l o h0 x0)).bind (forK (gSet 3) dueB3) = _
    rw [d]; rfl
  rw [e]
  have j3 : ∀ h x, 3 < (E4 l o h x).length := fun _ _ => by show 3 < 6; decide
  have k1 := fun x => b3_ok l o x (f := .com) (h := "coming") (fun _ => rfl) (fun _ => rfl) (by decide +kernel) rp_com (by decide)
  have k2 := fun x => b3_ok l o x (f := .las) (h := "last") (fun _ => rfl) (fun _ => rfl) (by decide +kernel) rp_las (by decide)
  have k3 := fun x => b3_ok l o x (f := .tco) (h := "then coming") (fun _ => rfl) (fun _ => rfl) (by decide +kernel) rp_tco (by decide)
  have k4 := fun x => b3_ok l o x (f := .tla) (h := "then last") (fun _ => rfl) (fun _ => rfl) (by decide +kernel) rp_tla (by decide)
  unfold wkW
  rw [lk_app, lk_app, lk_app]
  generalize lk l (tab ((intR 7 0).map Wd.com)) = a1 at *
  generalize lk l (tab ((intR 7 0).map Wd.las)) = a2 at *
  generalize lk l (tab ((intR 7 0).map Wd.tco)) = a3 at *
  generalize lk l (tab ((intR 7 0).map Wd.tla)) = a4 at *
  cases a1 with
  | some w => exact ⟨fun v h => by cases h; exact turn_rv (j3 _ _) ((k1 x0).1 w rfl), fun h => by cases h⟩
  | none =>
    obtain ⟨x1, r1⟩ := (k1 x0).2 rfl
    rw [turn_nx (j3 _ _) r1]
    cases a2 with
    | some w => exact ⟨fun v h => by cases h; exact turn_rv (j3 _ _) ((k2 x1).1 w rfl), fun h => by cases h⟩
    | none =>
      obtain ⟨x2, r2⟩ := (k2 x1).2 rfl
      rw [turn_nx (j3 _ _) r2]
      cases a3 with
      | some w => exact ⟨fun v h => by cases h; exact turn_rv (j3 _ _) ((k3 x2).1 w rfl), fun h => by cases h⟩
      | none =>
        obtain ⟨x3, r3⟩ := (k3 x2).2 rfl
        rw [turn_nx (j3 _ _) r3]
        cases a4 with
        | some w => exact ⟨fun v h => by cases h; exact turn_rv (j3 _ _) ((k4 x3).1 w rfl), fun h => by cases h⟩
        | none =>
          obtain ⟨x4, r4⟩ := (k4 x3).2 rfl
          rw [turn_nx (j3 _ _) r4]
          exact ⟨fun v h => (by cases h), fun _ => ⟨_, x4, rfl⟩⟩
theorem loop6 (l : List Nat) (o h0 x : Option DV) : (∀ w, lk l (tab stW) = some w → rv (sFor dueL6 (gSet 3) dueB6 (E5 l o h0 x none)) = some (.sh w.d)) ∧ (lk l (tab stW) = none → ∃ ρ, sFor dueL6 (gSet 3) dueB6 (E5 l o h0 x none) = .ok .nx ρ) := by
  have e : sFor dueL6 (gSet 3) dueB6 (E5 l o h0 x none) = forL (gSet 3) dueB6 [.str "today", .str "that day"] (E5 l o h0 x none) := by
    have d : dueL6 (E5 l o h0 x none) = .ok [.str "today", .str "that day"] (E5 l o h0 x none) := by kernel_rfl
    show (dueL6 (E5 l o h0 x none)).bind (forK (gSet 3) dueB6) = _
    rw [d]; rfl
  rw [e]
  have j3 : ∀ h y, 3 < (E5 l o h x y).length := fun _ _ => by show 3 < 6; decide
  have k1 := fun y => b6_ok l o x y (f := .tod) (h := "today") (fun _ => rfl) (fun _ z => z)
  have k2 := fun y => b6_ok l o x y (f := .tha) (h := "that day") (fun _ => rfl) (fun _ z => z)
  unfold stW
  rw [lk_app]
  generalize lk l (tab ((intR 61 (-30)).map Wd.tod)) = a1 at *
  generalize lk l (tab ((intR 61 (-30)).map Wd.tha)) = a2 at *
  cases a1 with
  | some w => exact ⟨fun v h => by cases h; exact turn_rv (j3 _ _) ((k1 none).1 w rfl), fun h => by cases h⟩
  | none =>
    obtain ⟨x1, r1⟩ := (k1 none).2 rfl
    rw [turn_nx (j3 _ _) r1]
    cases a2 with
    | some w => exact ⟨fun v h => by cases h; exact turn_rv (j3 _ _) ((k2 x1).1 w rfl), fun h => by cases h⟩
    | none =>
      obtain ⟨x2, r2⟩ := (k2 x1).2 rfl
      rw [turn_nx (j3 _ _) r2]
      exact ⟨fun v h => (by cases h), fun _ => ⟨_, rfl⟩⟩
end L08
set_option Elab.async false
set_option linter.all false
set_option maxRecDepth 100000
set_option maxHeartbeats 4000000
namespace L08
open PySem L2 Rf
open SX (S)
open TL (numL)
open NumText (digitsVal AllDigits)
theorem fin_rv {d : D} {r : R Fl} {v : DV} (h : rv r = some v) : finF [.sh d] r = .ok v [] := by
  obtain ⟨ρ, h⟩ := rv_some h
  rw [h]; rfl
theorem head_q (l : List Nat) {c : Nat} {x : Str} (hx : x = S [c]) : CK.f .eq (.str (S (l.take 1))) (.str x) = some (.bl (decide (l.head? = some c))) := by
  rw [hx, eqS, hd_eq]
theorem tail_of {l : List Nat} {c : Nat} (h : l.head? = some c) : l = c :: l.tail := by
  cases l with
  | nil => cases h
  | cons d r => cases h; rfl
theorem dueS_ok {l : List Nat} (t : Tx l) (o : Option DV) {c : Nat} (hc : l.head? = some c) (hs : c = 64 ∨ c = 35) (e : Option Wd) : rv (dueS (E1 l o)) = some (.sh (oW (signW l e))) := by
  have s1 := sl1 l
  have le := letters_ok t.tail
  have i0 := ixt (hd_ne hc)
  have q := head_q l (c := 35) (x := "#") (by decide +kernel)
  have tl := tail_of hc
  rw [hd_t hc] at i0 q
  rw [hc] at q
  unfold dueS E1
  rcases hs with rfl | rfl
  · rw [show decide (some 64 = some 35) = false from rfl] at q
    have e0 : signW l e = if nmS (S l.tail) = true then some (.nam (S l.tail)) else none := by rw [tl]; exact sg64 _ _
    rw [e0]
    have b : vIxB (.lst [.str "name", .str "place"]) (.bl false) = some (.str "name") := rfl
    cases nm : nmS (S l.tail) with
    | true =>
      rw [nm] at le
      show rv _ = some (.sh (.tup [.str "name", .str (S l.tail)]))
      simp only [e_rv, RFS, SLS, s1, le, i0, q, b]
    | false =>
      rw [nm] at le
      show rv _ = some (.sh .non)
      simp only [e_rv, RFS, SLS, s1, le]
  · rw [show decide (some 35 = some 35) = true from rfl] at q
    have e0 : signW l e = if nmS (S l.tail) = true then some (.pla (S l.tail)) else none := by rw [tl]; exact sg35 _ _
    rw [e0]
    have b : vIxB (.lst [.str "name", .str "place"]) (.bl true) = some (.str "place") := rfl
    cases nm : nmS (S l.tail) with
    | true =>
      rw [nm] at le
      show rv _ = some (.sh (.tup [.str "place", .str (S l.tail)]))
      simp only [e_rv, RFS, SLS, s1, le, i0, q, b]
    | false =>
      rw [nm] at le
      show rv _ = some (.sh .non)
      simp only [e_rv, RFS, SLS, s1, le]
theorem dueN_ok {l : List Nat} (t : Tx l) (o : Option DV) (hc : l.head? = some 61) (e : Option Wd) : rv (dueN (E1 l o)) = some (.sh (oW (signW l e))) := by
  have s1 := sl1 l
  have nn := lnum_ok t.tail
  have e0 : signW l e = (num l.tail).map .dat := by rw [tail_of hc]; exact sg61 _ _
  rw [e0]
  unfold dueN E1
  cases nm : num l.tail with
  | none =>
    rw [nm] at nn
    have nn : m__law_number [.sh (.str (S l.tail))] = .ok (.sh .non) [] := nn
    show rv _ = some (.sh .non)
    simp only [e_rv, RFS, SLS, s1, nn, isN_0]
  | some n =>
    rw [nm] at nn
    have nn : m__law_number [.sh (.str (S l.tail))] = .ok (.sh (.int n)) [] := nn
    show rv _ = some (.sh (.tup [.str "date", .int n]))
    simp only [e_rv, RFS, SLS, s1, nn, isN_n]
theorem dueT_ok (l : List Nat) (o : Option DV) : rv (dueT (E1 l o)) = some (.sh (oW (restW l))) := by
  rw [← due_rest l]
  obtain ⟨a, b⟩ := loop3 l o none none
  unfold dueT
  rw [show E1 l o = E4 l o none none from rfl]
  cases h1 : lk l (tab wkW) with
  | some w => exact seq_rv (a w h1)
  | none =>
    obtain ⟨h, x, r⟩ := b h1
    rw [seq_ok r]
    show _ = some (DV.sh (oW (if l.take 5 ≠ todL ∧ l.take 4 ≠ thaL then none else lk l (tab stW))))
    have q1 : CK.f .ne (.str (S (l.take 5))) (.str "today") = some (.bl (!decide (l.take 5 = todL))) := by rw [show ("today" : Str) = S todL by decide +kernel]; exact neS _ _
    have q2 : CK.f .ne (.str (S (l.take 4))) (.str "that") = some (.bl (!decide (l.take 4 = thaL))) := by rw [show ("that" : Str) = S thaL by decide +kernel]; exact neS _ _
    have s5 : vSl (.str (S l)) none (some 5) = some (.str (S (l.take 5))) := slT l (by decide)
    have s4 : vSl (.str (S l)) none (some 4) = some (.str (S (l.take 4))) := slT l (by decide)
    obtain ⟨c, d⟩ := loop6 l o h x
    by_cases z : l.take 5 ≠ todL ∧ l.take 4 ≠ thaL
    · rw [if_pos z]
      rw [decide_eq_false z.1] at q1
      rw [decide_eq_false z.2] at q2
      unfold E4
      generalize (sSeq (sFor dueL6 (gSet 3) dueB6) (sRet (dC .non)) : ENV → R Fl) = K
      simp only [e_rv, RFS, SLS, s5, s4, q1, q2, oW]
    · rw [if_neg z]
      have st : sIf (dAnd (dT (dCmp .ne (dSl (dVar 0) (dNoPart) (dPart (dC (.int 5)))) (dC (.str "today")))) (dT (dCmp .ne (dSl (dVar 0) (dNoPart) (dPart (dC (.int 4)))) (dC (.str "that"))))) (sRet (dC .non)) (sNil) (E4 l o h x) = .ok .nx (E4 l o h x) := by
        unfold E4
        by_cases z1 : l.take 5 = todL
        · rw [decide_eq_true z1] at q1
          simp only [RFS, SLS, s5, q1]
        · have z2 : l.take 4 = thaL := Classical.byContradiction fun y => z ⟨z1, y⟩
          rw [decide_eq_false z1] at q1
          rw [decide_eq_true z2] at q2
          simp only [RFS, SLS, s5, s4, q1, q2]
      rw [seq_ok st, show E4 l o h x = E5 l o h x none from rfl]
      cases h2 : lk l (tab stW) with
      | some w => exact seq_rv (c w h2)
      | none =>
        obtain ⟨ρ, r⟩ := d h2
        rw [seq_ok r]
        rfl
theorem due_ok {l : List Nat} (t : Tx l) : m__law_due [.sh (.str (S l))] = .ok (.sh (oW (findW l))) [] := by
  refine (e_run [] 6 _ _ rfl).trans (fin_rv ?_)
  rw [due_cut, show startE 6 [DV.sh (.str (S l))] = E1 l none from rfl]
  obtain ⟨a, b⟩ := loop1 l
  unfold findW
  cases h1 : lk l (tab sngW) with
  | some w => exact seq_rv (a w h1)
  | none =>
    obtain ⟨o, r⟩ := b h1
    rw [seq_ok r]
    show _ = some (DV.sh (oW (signW l (restW l))))
    have q64 := head_q l (c := 64) (x := "@") (by decide +kernel)
    have q35 := head_q l (c := 35) (x := "#") (by decide +kernel)
    have q61 := head_q l (c := 61) (x := "=") (by decide +kernel)
    have sh := slh l
    have if1 : ∀ b : Bool, (decide (l.head? = some 64) || decide (l.head? = some 35)) = b → ∀ P Q : ENV → R Fl, sIf (dOr (dT (dCmp .eq (dSl (dVar 0) (dNoPart) (dPart (dC (.int 1)))) (dC (.str "@")))) (dT (dCmp .eq (dSl (dVar 0) (dNoPart) (dPart (dC (.int 1)))) (dC (.str "#"))))) P Q (E1 l o) = (if b = true then P else Q) (E1 l o) := fun b hb P Q => by
      unfold E1
      generalize decide (l.head? = some 64) = b1 at *
      generalize decide (l.head? = some 35) = b2 at *
      cases b1 <;> cases b2 <;> cases hb <;> simp only [RFS, SLS, sh, q64, q35, Bool.or_true, Bool.or_false, if_true, if_false, Bool.false_eq_true]
    have if2 : ∀ b : Bool, decide (l.head? = some 61) = b → ∀ P Q : ENV → R Fl, sIf (dT (dCmp .eq (dSl (dVar 0) (dNoPart) (dPart (dC (.int 1)))) (dC (.str "=")))) P Q (E1 l o) = (if b = true then P else Q) (E1 l o) := fun b hb P Q => by
      unfold E1
      rw [hb] at q61
      cases b <;> simp only [RFS, SLS, sh, q61, if_true, if_false, Bool.false_eq_true]
    by_cases h64 : l.head? = some 64
    · exact seq_rv (by rw [if1 true (by rw [decide_eq_true h64]; rfl)]; exact dueS_ok t o h64 (.inl rfl) _)
    by_cases h35 : l.head? = some 35
    · exact seq_rv (by rw [if1 true (by rw [decide_eq_true h35, Bool.or_true])]; exact dueS_ok t o h35 (.inr rfl) _)
    rw [seq_ok (show _ = R.ok Fl.nx (E1 l o) by rw [if1 false (by rw [decide_eq_false h64, decide_eq_false h35]; rfl)]; rfl)]
    by_cases h61 : l.head? = some 61
    · exact seq_rv (by rw [if2 true (decide_eq_true h61)]; exact dueN_ok t o h61 _)
    rw [seq_ok (show _ = R.ok Fl.nx (E1 l o) by rw [if2 false (decide_eq_false h61)]; rfl)]
    have e : signW l (restW l) = restW l := by
      unfold signW
      rw [if_neg h64, if_neg h35, if_neg h61]
    rw [e]
    exact dueT_ok l o
theorem eq_t1 {h : Str} (ok : PyData.strOk h = true) : CK.f .eq (.tup [.str h]) (.tup [.str h]) = some (.bl true) := by
  have e : PyData.eqv (D.tup [.str h]).toPy (D.tup [.str h]).toPy = true := by simp [D.toPy, toPyL, PyData.eqv, PyData.eqvAll]
  have s : SeqAt.shaped (D.tup [.str h]).toPy = true := by simp [SeqAt.shaped, D.toPy, toPyL, PyData.canLay0, PyData.canLayAll0, PyData.depth, PyData.depthAll, ok]
  show vEq false _ _ = _
  unfold vEq
  rw [if_pos ⟨s, s⟩, e]; rfl
theorem eq_ts {h x : Str} (ok : PyData.strOk h = true) (ok2 : PyData.strOk x = true) : CK.f .eq (.tup [.str h, .str x]) (.tup [.str h, .str x]) = some (.bl true) := by
  have e : PyData.eqv (D.tup [.str h, .str x]).toPy (D.tup [.str h, .str x]).toPy = true := by simp [D.toPy, toPyL, PyData.eqv, PyData.eqvAll]
  have s : SeqAt.shaped (D.tup [.str h, .str x]).toPy = true := by simp [SeqAt.shaped, D.toPy, toPyL, PyData.canLay0, PyData.canLayAll0, PyData.depth, PyData.depthAll, ok, ok2]
  show vEq false _ _ = _
  unfold vEq
  rw [if_pos ⟨s, s⟩, e]; rfl
theorem eq_ti {h : Str} (n : Int) (ok : PyData.strOk h = true) : CK.f .eq (.tup [.str h, .int n]) (.tup [.str h, .int n]) = some (.bl true) := by
  have e : PyData.eqv (D.tup [.str h, .int n]).toPy (D.tup [.str h, .int n]).toPy = true := by simp [D.toPy, toPyL, PyData.eqv, PyData.eqvAll]
  have s : SeqAt.shaped (D.tup [.str h, .int n]).toPy = true := by simp [SeqAt.shaped, D.toPy, toPyL, PyData.canLay0, PyData.canLayAll0, PyData.depth, PyData.depthAll, ok]
  show vEq false _ _ = _
  unfold vEq
  rw [if_pos ⟨s, s⟩, e]; rfl
theorem eq_w {w : Wd} (h : w.ok) : CK.f .eq w.d w.d = some (.bl true) := by
  cases w with
  | nam x => exact eq_ts (by decide +kernel) (Nm.ok h)
  | pla x => exact eq_ts (by decide +kernel) (Nm.ok h)
  | dat n => exact eq_ti n (by decide +kernel)
  | tod n => exact eq_ti n (by decide +kernel)
  | tha n => exact eq_ti n (by decide +kernel)
  | com n => exact eq_ti n (by decide +kernel)
  | las n => exact eq_ti n (by decide +kernel)
  | tco n => exact eq_ti n (by decide +kernel)
  | tla n => exact eq_ti n (by decide +kernel)
  | _ => exact eq_t1 (by decide +kernel)
theorem right_ok {l : List Nat} (t : Tx l) (hl : l.length ≤ 5000) : m__law_right [.sh (.str (S l))] = .ok (.sh (.bl true)) [] := by
  have d := due_ok t
  refine (e_run [] 3 _ _ rfl).trans ?_
  unfold b__law_right
  cases h : findW l with
  | none =>
    rw [h] at d
    have d : m__law_due [.sh (.str (S l))] = .ok (.sh .non) [] := d
    have r := read_exc (readw_none t h)
    have q : CK.f .eq (noD "word") (.lst [.str "no", .int 0, .str "word"]) = some (.bl true) := by kernel_rfl
    unfold noD at r q
    simp only [RFS, RVS, d, r, q, isN_0]
  | some w =>
    rw [h] at d
    have d : m__law_due [.sh (.str (S l))] = .ok (.sh w.d) [] := d
    have r := read_val (readw_some t h)
    obtain ⟨e, ok⟩ := find_some hl h
    have wr := written_w ok
    rw [e] at wr
    have q := eq_w ok
    have q2 := eqS l l
    rw [decide_eq_true rfl] at q2
    obtain ⟨ds, hd⟩ := w.tup
    rw [hd] at d r wr q
    simp only [RFS, RVS, d, r, q, isN_t, isT, wr, q2]
end L08
set_option Elab.async false
set_option linter.all false
set_option maxRecDepth 100000
set_option maxHeartbeats 4000000
namespace L08
open PySem L2 Rf
open SX (S)
open TL (numL)
open NumText (digitsVal AllDigits)
theorem log_s {n : Int} (h : n.natAbs < 32768) : n.natAbs.log2 < 9000 := by
  by_cases z : n.natAbs = 0
  · rw [z]; decide
  · have : n.natAbs.log2 < 15 := (Nat.log2_lt z).mpr h
    omega
theorem at_sign (z : Str) {r : Int} (h0 : 0 ≤ r) (h1 : r < z.cps.toList.length) : ∃ c, vIxI (.str z) (.int r) = some (.str (S [c])) ∧ c ∈ z.cps.toList := by
  have hr : r.toNat < z.cps.toList.length := by omega
  refine ⟨z.cps.toList[r.toNat], ?_, List.getElem_mem hr⟩
  rw [e_ixS, atN h0 (List.getElem?_eq_getElem hr)]
  rfl
def bnd (l : List Nat) : Bool := l.all fun c => decide (c < 0x110000)
theorem bnd_ok {l : List Nat} (h : bnd l = true) : ∀ c ∈ l, c < 0x110000 := fun c hc => of_decide_eq_true (List.all_eq_true.mp h c hc)
theorem Tx.app {a b : List Nat} (ha : Tx a) (hb : Tx b) (h : a.length + b.length ≤ 20000) : Tx (a ++ b) := ⟨by rw [List.length_append]; exact h, fun c hc => (List.mem_append.mp hc).elim (ha.ok c) (hb.ok c)⟩
theorem Tx.lit {l : List Nat} (h : bnd l = true) (h2 : l.length ≤ 20000) : Tx l := ⟨h2, bnd_ok h⟩
theorem Tx.one {c : Nat} (h : c < 0x110000) : Tx [c] := ⟨by simp, fun d hd => by rw [List.mem_singleton.mp hd]; exact h⟩
abbrev NEAR : Str := "+-=@#0123456789abcdefghijklmnopqrstuvwxyzIAZ /"
theorem near_len : NEAR.cps.toList.length = 46 := by kernel_rfl
theorem near_bnd : bnd NEAR.cps.toList = true := by kernel_rfl
theorem near_txt {m : M} {l : List Nat} (hm : Good m) (t : Tx l) (hl : l.length ≤ 2000) : ∃ l' m', m__law_near [.ow m, .sh (.str (S l))] = .ok (.sh (.str (S l'))) [m'] ∧ Good m' ∧ Tx l' ∧ l'.length ≤ 2 * l.length + 1 := by
  obtain ⟨a, m1, e1, g1, a0, a1⟩ := tk (n := (l.length : Int) + 1) hm (by omega) (log_s (by omega))
  obtain ⟨b, m2, e2, g2, b0, b1⟩ := tk (n := 46) g1 (by decide)
  obtain ⟨c, hc, hcm⟩ := at_sign NEAR b0 (by rw [near_len]; exact b1)
  have tc : Tx [c] := .one (bnd_ok near_bnd c hcm)
  obtain ⟨d, m3, e3, g3, d0, d1⟩ := tk (n := 4) g2 (by decide)
  have lS := lenS l
  have s1 : vSl (.str (S l)) none (some a) = some (.str (S (l.take a.toNat))) := slT l a0
  have s2 : vSl (.str (S l)) (some a) none = some (.str (S (l.drop a.toNat))) := slF l a0
  have s3 : vSl (.str (S l)) (some (a + 1)) none = some (.str (S (l.drop (a + 1).toNat))) := slF l (by omega)
  have t1 := t.take a.toNat
  have t2 := t.drop a.toNat
  have t3 := t.drop (a + 1).toNat
  have n1 : (l.take a.toNat).length ≤ l.length := by rw [List.length_take]; omega
  have n2 : (l.drop a.toNat).length ≤ l.length := by rw [List.length_drop]; omega
  have n3 : (l.drop (a + 1).toNat).length ≤ l.length := by rw [List.length_drop]; omega
  have n12 : (l.take a.toNat).length + (l.drop a.toNat).length ≤ l.length := by rw [List.length_take, List.length_drop]; omega
  have n13 : (l.take a.toNat).length + (l.drop (a + 1).toNat).length ≤ l.length := by rw [List.length_take, List.length_drop]; omega
  have a1' : vAdd (.str (S (l.take a.toNat))) (.str (S [c])) = some (.str (S (l.take a.toNat ++ [c]))) := addS (by simp only [List.length_singleton]; omega)
  have a2 : vAdd (.str (S (l.take a.toNat ++ [c]))) (.str (S (l.drop a.toNat))) = some (.str (S (l.take a.toNat ++ [c] ++ l.drop a.toNat))) := addS (by rw [List.length_append, List.length_singleton]; omega)
  have a3 : vAdd (.str (S (l.take a.toNat ++ [c]))) (.str (S (l.drop (a + 1).toNat))) = some (.str (S (l.take a.toNat ++ [c] ++ l.drop (a + 1).toNat))) := addS (by rw [List.length_append, List.length_singleton]; omega)
  have a4 : vAdd (.str (S (l.take a.toNat))) (.str (S (l.drop (a + 1).toNat))) = some (.str (S (l.take a.toNat ++ l.drop (a + 1).toNat))) := addS (by omega)
  have a5 : vAdd (.str (S l)) (.str (S (l.drop a.toNat))) = some (.str (S (l ++ l.drop a.toNat))) := addS (by omega)
  have tt := t1.app tc (by rw [List.length_singleton]; omega)
  have q0 := eqI d 0
  have q1 := eqI d 1
  have q2 := eqI d 2
  generalize l.take a.toNat = x1 at *
  generalize l.drop a.toNat = x2 at *
  generalize l.drop (a + 1).toNat = x3 at *
  have run : ∀ r : List Nat, (d = 0 → r = x1 ++ [c] ++ x2) → (d = 1 → r = x1 ++ x3) → (d = 2 → r = x1 ++ [c] ++ x3) → (d = 3 → r = l ++ x2) → m__law_near [.ow m, .sh (.str (S l))] = .ok (.sh (.str (S r))) [m3] := fun r r0 r1 r2 r3 => by
    refine (e_run [0] 5 _ _ rfl).trans ?_
    unfold b__law_near
    have : d = 0 ∨ d = 1 ∨ d = 2 ∨ d = 3 := by omega
    rcases this with rfl | rfl | rfl | rfl
    · rw [r0 rfl]
      rw [show ((0 : Int) == 0) = true from rfl] at q0
      simp only [RFS, RVS, SLS, lS, e_aIo (m := m), stepO2 (m := m), e1, e_aIo (m := m1), stepO2 (m := m1), e2, hc, e_aIo (m := m2), stepO2 (m := m2), e3, q0, s1, s2, a1', a2, -e_lenS, -e_eqI]
    · rw [r1 rfl]
      rw [show ((1 : Int) == 0) = false from rfl] at q0
      rw [show ((1 : Int) == 1) = true from rfl] at q1
      simp only [RFS, RVS, SLS, lS, e_aIo (m := m), stepO2 (m := m), e1, e_aIo (m := m1), stepO2 (m := m1), e2, hc, e_aIo (m := m2), stepO2 (m := m2), e3, q0, q1, s1, s3, a4, -e_lenS, -e_eqI]
    · rw [r2 rfl]
      rw [show ((2 : Int) == 0) = false from rfl] at q0
      rw [show ((2 : Int) == 1) = false from rfl] at q1
      rw [show ((2 : Int) == 2) = true from rfl] at q2
      simp only [RFS, RVS, SLS, lS, e_aIo (m := m), stepO2 (m := m), e1, e_aIo (m := m1), stepO2 (m := m1), e2, hc, e_aIo (m := m2), stepO2 (m := m2), e3, q0, q1, q2, s1, s3, a1', a3, -e_lenS, -e_eqI]
    · rw [r3 rfl]
      rw [show ((3 : Int) == 0) = false from rfl] at q0
      rw [show ((3 : Int) == 1) = false from rfl] at q1
      rw [show ((3 : Int) == 2) = false from rfl] at q2
      simp only [RFS, RVS, SLS, lS, e_aIo (m := m), stepO2 (m := m), e1, e_aIo (m := m1), stepO2 (m := m1), e2, hc, e_aIo (m := m2), stepO2 (m := m2), e3, q0, q1, q2, s2, a5, -e_lenS, -e_eqI]
  have : d = 0 ∨ d = 1 ∨ d = 2 ∨ d = 3 := by omega
  rcases this with z | z | z | z
  · exact ⟨_, m3, run (x1 ++ [c] ++ x2) (fun _ => rfl) (fun y => by omega) (fun y => by omega) (fun y => by omega), g3, tt.app t2 (by rw [List.length_append, List.length_singleton]; omega), by rw [List.length_append, List.length_append, List.length_singleton]; omega⟩
  · exact ⟨_, m3, run (x1 ++ x3) (fun y => by omega) (fun _ => rfl) (fun y => by omega) (fun y => by omega), g3, t1.app t3 (by omega), by rw [List.length_append]; omega⟩
  · exact ⟨_, m3, run (x1 ++ [c] ++ x3) (fun y => by omega) (fun y => by omega) (fun _ => rfl) (fun y => by omega), g3, tt.app t3 (by rw [List.length_append, List.length_singleton]; omega), by rw [List.length_append, List.length_append, List.length_singleton]; omega⟩
  · exact ⟨_, m3, run (l ++ x2) (fun y => by omega) (fun y => by omega) (fun y => by omega) (fun _ => rfl), g3, t.app t2 (by omega), by rw [List.length_append]; omega⟩
theorem it_tx {n : Int} (h : n.natAbs < 10 ^ 100) : Tx (itL n) := by
  refine ⟨Nat.le_trans (it_len h) (by decide), fun c hc => ?_⟩
  unfold itL at hc
  have d : ∀ c ∈ numL n.natAbs, c < 0x110000 := fun c hc => by
    have := TL.numL_digits n.natAbs c hc
    omega
  by_cases z : n < 0
  · rw [if_pos z] at hc
    rcases List.mem_cons.mp hc with rfl | hc
    · decide
    · exact d c hc
  · rw [if_neg z] at hc; exact d c hc
theorem nm_tx {x : Str} (h : Nm x) : Tx x.cps.toList := ⟨by have := h.hi; rw [Array.length_toList]; omega, fun c hc => by
  have e : lowS.all (fun c => decide (c < 0x110000)) = true := low_lt
  exact of_decide_eq_true (List.all_eq_true.mp e c (h.mem c hc))⟩
theorem nm_len {x : Str} (h : Nm x) : x.cps.toList.length ≤ 8 := by have := h.hi; rw [Array.length_toList]; exact this
theorem stp_tx {n : Int} (h : -30 ≤ n ∧ n ≤ 30) : Tx (stp n) ∧ (stp n).length ≤ 102 := by
  have t := it_tx (small h)
  have l := it_len (small h)
  unfold stp
  by_cases z : n = 0
  · rw [if_pos z]; exact ⟨⟨by simp, fun c hc => by cases hc⟩, by simp⟩
  · rw [if_neg z]
    by_cases p : 0 < n
    · rw [if_pos p]
      show Tx ([43] ++ itL n) ∧ ([43] ++ itL n).length ≤ 102
      generalize itL n = r at *
      exact ⟨(Tx.one (c := 43) (by decide)).app t (by rw [List.length_singleton]; omega), by rw [List.length_append, List.length_singleton]; omega⟩
    · rw [if_neg p]; exact ⟨t, by omega⟩
theorem tx_w {w : Wd} (h : w.ok) : Tx w.tx ∧ w.tx.length ≤ 120 := by
  have cat : ∀ {a b : List Nat}, bnd a = true → a.length ≤ 10 → Tx b → b.length ≤ 102 → Tx (a ++ b) ∧ (a ++ b).length ≤ 120 := fun ha hl hb h2 => ⟨(Tx.lit ha (by omega)).app hb (by omega), by rw [List.length_append]; omega⟩
  have it7 : ∀ {n : Int}, 0 ≤ n ∧ n ≤ 6 → Tx (itL n) ∧ (itL n).length ≤ 102 := fun z => ⟨it_tx (small ⟨by omega, by omega⟩), Nat.le_trans (it_len (small ⟨by omega, by omega⟩)) (by decide)⟩
  cases w with
  | nam x => exact cat (a := [64]) rfl (by decide) (nm_tx h) (Nat.le_trans (nm_len h) (by decide))
  | pla x => exact cat (a := [35]) rfl (by decide) (nm_tx h) (Nat.le_trans (nm_len h) (by decide))
  | dat n => exact cat (a := [61]) rfl (by decide) (it_tx h) (Nat.le_trans (it_len h) (by decide))
  | tod n => exact cat (a := todL) rfl (by decide) (stp_tx h).1 (stp_tx h).2
  | tha n => exact cat (a := thaL) rfl (by decide) (stp_tx h).1 (stp_tx h).2
  | com n => exact cat (a := comL) rfl (by decide) (it7 h).1 (it7 h).2
  | las n => exact cat (a := lasL) rfl (by decide) (it7 h).1 (it7 h).2
  | tco n => exact cat (a := tcoL) rfl (by decide) (it7 h).1 (it7 h).2
  | tla n => exact cat (a := tlaL) rfl (by decide) (it7 h).1 (it7 h).2
  | _ => exact ⟨Tx.lit rfl (by decide), by decide⟩
theorem odd_ok {m : M} (hm : Good m) : ∃ d m', m__law_odd_word [.ow m] = .ok (.sh d) [m'] ∧ Good m' ∧ Th d ∧ kd d = .non := by
  obtain ⟨a, m1, e1, g1, a0, a1⟩ := tk (n := 20) hm (by decide)
  have q1 := ltI a 10
  have q2 := ltI a 15
  have fin : ∀ {d : D}, m__law_odd_word [.ow m] = .ok (.sh d) [m1] → Th d → kd d = .non → ∃ d m', m__law_odd_word [.ow m] = .ok (.sh d) [m'] ∧ Good m' ∧ Th d ∧ kd d = .non := fun {d} h1 h2 h3 => ⟨d, m1, h1, g1, h2, h3⟩
  by_cases z1 : a < 10
  · rw [decide_eq_true z1] at q1
    have go : ∀ d, vIxI (.lst [.non, .bl true, .int 3, .str "I", .lst [.str "I"], .tup [.str "I", .str "I"], .tup [], .tup [.str "it"], .tup [.str "today"], .tup [.str "today", .int 31]]) (.int a) = some d → m__law_odd_word [.ow m] = .ok (.sh d) [m1] := fun d hd => by
      refine (e_run [0] 2 _ _ rfl).trans ?_
      unfold b__law_odd_word
      simp only [RFS, RVS, e_aIo (m := m), stepO2 (m := m), e1, q1, hd, -e_ltI, -e_ixL]
    have : a = 0 ∨ a = 1 ∨ a = 2 ∨ a = 3 ∨ a = 4 ∨ a = 5 ∨ a = 6 ∨ a = 7 ∨ a = 8 ∨ a = 9 := by omega
    rcases this with rfl | rfl | rfl | rfl | rfl | rfl | rfl | rfl | rfl | rfl
    · exact fin (go _ rfl) .non rfl
    · exact fin (go _ rfl) (.bl _) rfl
    · exact fin (go _ rfl) (.int _) rfl
    · exact fin (go _ rfl) (.str _) rfl
    · exact fin (go _ rfl) (.lst _) rfl
    · exact fin (go _ rfl) (.two (by decide +kernel) ⟨.bad (x := "I") (by kernel_rfl) (by decide +kernel)⟩) (by kernel_rfl)
    · exact fin (go _ rfl) .nil rfl
    · exact fin (go _ rfl) (.one (by decide +kernel)) (by kernel_rfl)
    · exact fin (go _ rfl) (.one (by decide +kernel)) (by kernel_rfl)
    · exact fin (go _ rfl) (.two (by decide +kernel) ⟨.int _⟩) (by kernel_rfl)
  · rw [decide_eq_false z1] at q1
    by_cases z2 : a < 15
    · rw [decide_eq_true z2] at q2
      have go : ∀ d, vIxI (.lst [.tup [.str "that day", .int (-31)], .tup [.str "coming", .int 7], .tup [.str "last", .int (-1)], .tup [.str "date", .str "1"], .tup [.str "name", .str "Ann"]]) (.int (a - 10)) = some d → m__law_odd_word [.ow m] = .ok (.sh d) [m1] := fun d hd => by
        refine (e_run [0] 2 _ _ rfl).trans ?_
        unfold b__law_odd_word
        simp only [RFS, RVS, e_aIo (m := m), stepO2 (m := m), e1, q1, q2, hd, -e_ltI, -e_ixL]
      have : a = 10 ∨ a = 11 ∨ a = 12 ∨ a = 13 ∨ a = 14 := by omega
      rcases this with rfl | rfl | rfl | rfl | rfl
      · exact fin (go _ rfl) (.two (by decide +kernel) ⟨.int _⟩) (by kernel_rfl)
      · exact fin (go _ rfl) (.two (by decide +kernel) ⟨.int _⟩) (by kernel_rfl)
      · exact fin (go _ rfl) (.two (by decide +kernel) ⟨.int _⟩) (by kernel_rfl)
      · exact fin (go _ rfl) (.two (by decide +kernel) ⟨.bad (x := "1") (by kernel_rfl) (by decide +kernel)⟩) (by kernel_rfl)
      · exact fin (go _ rfl) (.two (by decide +kernel) ⟨.bad (x := "Ann") (by kernel_rfl) (by decide +kernel)⟩) (by kernel_rfl)
    · rw [decide_eq_false z2] at q2
      have go : ∀ d, vIxI (.lst [.tup [.str "place", .str ""], .tup [.str "name", .str "abcdefghi"], .tup [.str "today", .non], .tup [.int 1], .tup [.str "here", .int 0]]) (.int (a - 15)) = some d → m__law_odd_word [.ow m] = .ok (.sh d) [m1] := fun d hd => by
        refine (e_run [0] 2 _ _ rfl).trans ?_
        unfold b__law_odd_word
        simp only [RFS, RVS, e_aIo (m := m), stepO2 (m := m), e1, q1, q2, hd, -e_ltI, -e_ixL]
      have : a = 15 ∨ a = 16 ∨ a = 17 ∨ a = 18 ∨ a = 19 := by omega
      rcases this with rfl | rfl | rfl | rfl | rfl
      · exact fin (go _ rfl) (.two (by decide +kernel) ⟨.bad (x := "") (by kernel_rfl) (by decide +kernel)⟩) (by kernel_rfl)
      · exact fin (go _ rfl) (.two (by decide +kernel) ⟨.bad (x := "abcdefghi") (by kernel_rfl) (by decide +kernel)⟩) (by kernel_rfl)
      · exact fin (go _ rfl) (.two (by decide +kernel) ⟨.non⟩) (by kernel_rfl)
      · exact fin (go _ rfl) (.num _) rfl
      · exact fin (go _ rfl) (.two (by decide +kernel) ⟨.int _⟩) (by kernel_rfl)
end L08
set_option Elab.async false
set_option linter.all false
set_option maxRecDepth 100000
set_option maxHeartbeats 4000000
namespace L08
open PySem L2 Rf
open SX (S)
open TL (numL)
def lb0 : ENV → R Fl := (sAsg (dIx (dLst (dCons (dCall m__law_word (aIo 1 (aVal (dVar 2) (aVal (dC (.bl true)) (aNil))))) (dCons (dTup (dCons (dC (.str "somebody")) (dNil))) (dCons (dTup (dCons (dC (.str "one day")) (dNil))) (dCons (dTup (dCons (dC (.str "somewhere")) (dNil))) (dCons (dTup (dCons (dC (.str "date")) (dCons (dSub (dCall m__law_take (aIo 1 (aVal (dMul (dC (.int 2)) (dPow (dC (.int 10)) (dC (.int 60)))) (aNil)))) (dPow (dC (.int 10)) (dC (.int 60)))) (dNil)))) (dCons (dTup (dCons (dC (.str "name")) (dCons (dCall m__law_name (aIo 1 (aNil))) (dNil)))) (dNil)))))))) (dCall m__law_take (aIo 1 (aVal (dC (.int 6)) (aNil))))) (gSet 4))
def lb1 : ENV → R Fl := (sAsg (dCall m__law_written (aVal (dVar 4) (aNil))) (gSet 5))
def lb2 : ENV → R Fl := (sIf (dOr (dT (dCmp .ne (dVar 5) (dCall m__law_word_text (aVal (dVar 4) (aNil))))) (dOr (dNot (dTru (dIs (isTy "str") (dVar 5)))) (dT (dCmp .ne (dCall m__law_read (aVal (dVar 5) (aNil))) (dVar 4))))) (sRet (dC (.bl false))) (sNil))
def lb3 : ENV → R Fl := (sIf (dOr (dNot (dTru (dCall m__law_right (aVal (dCall m__law_near (aIo 1 (aVal (dVar 5) (aNil)))) (aNil))))) (dNot (dTru (dCall m__law_right (aVal (dCall m__law_near (aIo 1 (aVal (dCall m__law_near (aIo 1 (aVal (dVar 5) (aNil)))) (aNil)))) (aNil)))))) (sRet (dC (.bl false))) (sNil))
def lb4 : ENV → R Fl := (sIf (dT (dCmp .notN (dCall m__law_written (aVal (dCall m__law_odd_word (aIo 1 (aNil))) (aNil))) (dC .non))) (sRet (dC (.bl false))) (sNil))
def lbB : ENV → R Fl := sSeq lb0 (sSeq lb1 (sSeq lb2 (sSeq lb3 (lb4))))
def rB : ENV → R Fl := (sIf (dNot (dTru (dCall m__law_right (aVal (dVar 5) (aNil))))) (sRet (dC (.bl false))) (sNil))
def hb0 : ENV → R Fl := (sAsg (dCall m__law_take (aIo 1 (aVal (dC (.int 67)) (aNil)))) (gSet 7))
def hbL : ENV → R (List D) := (dItems (dLst (dCons (dVar 6) (dCons (dAdd (dVar 6) (dB fStrA (dCons (dVar 7) (dNil)))) (dCons (dAdd (dAdd (dVar 6) (dC (.str "0"))) (dB fStrA (dCons (dVar 7) (dNil)))) (dCons (dAdd (dVar 6) (dC (.str "7"))) (dCons (dAdd (dVar 6) (dC (.str "00"))) (dCons (dAdd (dVar 6) (dIx (dIx (dVar 2) (dC (.int 0))) (dC (.int 0)))) (dCons (dAdd (dC (.str " ")) (dVar 6)) (dNil))))))))))
def hbB : ENV → R Fl := sSeq hb0 (sFor hbL (gSet 5) rB)
def heads : ENV → R (List D) := (dItems (dLst (dCons (dC (.str "coming")) (dCons (dC (.str "last")) (dCons (dC (.str "thencoming")) (dCons (dC (.str "thenlast")) (dCons (dC (.str "today")) (dCons (dC (.str "that")) (dCons (dC (.str "today+")) (dCons (dC (.str "today-")) (dCons (dC (.str "that+")) (dCons (dC (.str "that-")) (dCons (dC (.str "=")) (dCons (dC (.str "=-")) (dCons (dC (.str "@")) (dCons (dC (.str "#")) (dCons (dC (.str "")) (dNil))))))))))))))))))
def l6 : ENV → R (List D) := (dItems (dLst (dCons (dAdd (dAdd (dC (.str "=")) (dVar 8)) (dVar 9)) (dCons (dAdd (dAdd (dC (.str "=-")) (dVar 8)) (dVar 9)) (dCons (dAdd (dAdd (dAdd (dC (.str "=")) (dVar 8)) (dVar 9)) (dC (.str "5"))) (dCons (dAdd (dAdd (dAdd (dC (.str "=-")) (dVar 8)) (dVar 9)) (dC (.str "0"))) (dCons (dAdd (dC (.str "=0")) (dVar 9)) (dCons (dAdd (dC (.str "=")) (dVar 9)) (dNil)))))))))
def l8 : ENV → R (List D) := (dItems (dLst (dCons (dAdd (dC (.str "=")) (dOp vMulS (dVar 8) (dVar 10))) (dCons (dAdd (dC (.str "=-")) (dOp vMulS (dVar 8) (dVar 10))) (dCons (dAdd (dC (.str "today+")) (dOp vMulS (dVar 8) (dVar 10))) (dCons (dAdd (dC (.str "coming")) (dOp vMulS (dVar 8) (dVar 10))) (dNil)))))))
def l9 : ENV → R (List D) := (dItems (dLst (dCons (dC .non) (dCons (dC (.int 5)) (dCons (dC (.bl true)) (dCons (dLst (dCons (dC (.str "I")) (dNil))) (dCons (dTup (dCons (dC (.str "I")) (dNil))) (dNil))))))))
def tB : ENV → R Fl := (sIf (dT (dCmp .ne (dCall m__law_read (aVal (dVar 11) (aNil))) (dLst (dCons (dC (.str "no")) (dCons (dC (.int 0)) (dCons (dC (.str "text")) (dNil))))))) (sRet (dC (.bl false))) (sNil))
def lw0 : ENV → R Fl := (sOwn (fCall m__law_hand (aVal (dVar 0) (aNil))) 1)
def lw1 : ENV → R Fl := (sAsg (dCall m__law_world (aIo 1 (aNil))) (gSet 2))
def lw2 : ENV → R Fl := (sFor (dRng1 (dC (.int 10))) (gSet 3) (sSeq (sAsg (dIx (dLst (dCons (dCall m__law_word (aIo 1 (aVal (dVar 2) (aVal (dC (.bl true)) (aNil))))) (dCons (dTup (dCons (dC (.str "somebody")) (dNil))) (dCons (dTup (dCons (dC (.str "one day")) (dNil))) (dCons (dTup (dCons (dC (.str "somewhere")) (dNil))) (dCons (dTup (dCons (dC (.str "date")) (dCons (dSub (dCall m__law_take (aIo 1 (aVal (dMul (dC (.int 2)) (dPow (dC (.int 10)) (dC (.int 60)))) (aNil)))) (dPow (dC (.int 10)) (dC (.int 60)))) (dNil)))) (dCons (dTup (dCons (dC (.str "name")) (dCons (dCall m__law_name (aIo 1 (aNil))) (dNil)))) (dNil)))))))) (dCall m__law_take (aIo 1 (aVal (dC (.int 6)) (aNil))))) (gSet 4))
  (sSeq (sAsg (dCall m__law_written (aVal (dVar 4) (aNil))) (gSet 5))
  (sSeq (sIf (dOr (dT (dCmp .ne (dVar 5) (dCall m__law_word_text (aVal (dVar 4) (aNil))))) (dOr (dNot (dTru (dIs (isTy "str") (dVar 5)))) (dT (dCmp .ne (dCall m__law_read (aVal (dVar 5) (aNil))) (dVar 4))))) (sRet (dC (.bl false))) (sNil))
  (sSeq (sIf (dOr (dNot (dTru (dCall m__law_right (aVal (dCall m__law_near (aIo 1 (aVal (dVar 5) (aNil)))) (aNil))))) (dNot (dTru (dCall m__law_right (aVal (dCall m__law_near (aIo 1 (aVal (dCall m__law_near (aIo 1 (aVal (dVar 5) (aNil)))) (aNil)))) (aNil)))))) (sRet (dC (.bl false))) (sNil))
  (sIf (dT (dCmp .notN (dCall m__law_written (aVal (dCall m__law_odd_word (aIo 1 (aNil))) (aNil))) (dC .non))) (sRet (dC (.bl false))) (sNil)))))))
def lw3 : ENV → R Fl := (sFor (dItems (dLst (dCons (dC (.str "coming")) (dCons (dC (.str "last")) (dCons (dC (.str "thencoming")) (dCons (dC (.str "thenlast")) (dCons (dC (.str "today")) (dCons (dC (.str "that")) (dCons (dC (.str "today+")) (dCons (dC (.str "today-")) (dCons (dC (.str "that+")) (dCons (dC (.str "that-")) (dCons (dC (.str "=")) (dCons (dC (.str "=-")) (dCons (dC (.str "@")) (dCons (dC (.str "#")) (dCons (dC (.str "")) (dNil)))))))))))))))))) (gSet 6) (sSeq (sAsg (dCall m__law_take (aIo 1 (aVal (dC (.int 67)) (aNil)))) (gSet 7))
  (sFor (dItems (dLst (dCons (dVar 6) (dCons (dAdd (dVar 6) (dB fStrA (dCons (dVar 7) (dNil)))) (dCons (dAdd (dAdd (dVar 6) (dC (.str "0"))) (dB fStrA (dCons (dVar 7) (dNil)))) (dCons (dAdd (dVar 6) (dC (.str "7"))) (dCons (dAdd (dVar 6) (dC (.str "00"))) (dCons (dAdd (dVar 6) (dIx (dIx (dVar 2) (dC (.int 0))) (dC (.int 0)))) (dCons (dAdd (dC (.str " ")) (dVar 6)) (dNil)))))))))) (gSet 5) (sIf (dNot (dTru (dCall m__law_right (aVal (dVar 5) (aNil))))) (sRet (dC (.bl false))) (sNil)))))
def lw4 : ENV → R Fl := (sAsg (dIx (dC (.str "123456789")) (dCall m__law_take (aIo 1 (aVal (dC (.int 9)) (aNil))))) (gSet 8))
def lw5 : ENV → R Fl := (sAsg (dOp vMulS (dAdd (dAdd (dIx (dC (.str "0123456789")) (dCall m__law_take (aIo 1 (aVal (dC (.int 10)) (aNil))))) (dIx (dC (.str "0123456789")) (dCall m__law_take (aIo 1 (aVal (dC (.int 10)) (aNil)))))) (dIx (dC (.str "0123456789")) (dCall m__law_take (aIo 1 (aVal (dC (.int 10)) (aNil)))))) (dC (.int 33))) (gSet 9))
def lw6 : ENV → R Fl := (sFor (dItems (dLst (dCons (dAdd (dAdd (dC (.str "=")) (dVar 8)) (dVar 9)) (dCons (dAdd (dAdd (dC (.str "=-")) (dVar 8)) (dVar 9)) (dCons (dAdd (dAdd (dAdd (dC (.str "=")) (dVar 8)) (dVar 9)) (dC (.str "5"))) (dCons (dAdd (dAdd (dAdd (dC (.str "=-")) (dVar 8)) (dVar 9)) (dC (.str "0"))) (dCons (dAdd (dC (.str "=0")) (dVar 9)) (dCons (dAdd (dC (.str "=")) (dVar 9)) (dNil))))))))) (gSet 5) (sIf (dNot (dTru (dCall m__law_right (aVal (dVar 5) (aNil))))) (sRet (dC (.bl false))) (sNil)))
def lw7 : ENV → R Fl := (sAsg (dAdd (dC (.int 4301)) (dCall m__law_take (aIo 1 (aVal (dC (.int 60)) (aNil))))) (gSet 10))
def lw8 : ENV → R Fl := (sFor (dItems (dLst (dCons (dAdd (dC (.str "=")) (dOp vMulS (dVar 8) (dVar 10))) (dCons (dAdd (dC (.str "=-")) (dOp vMulS (dVar 8) (dVar 10))) (dCons (dAdd (dC (.str "today+")) (dOp vMulS (dVar 8) (dVar 10))) (dCons (dAdd (dC (.str "coming")) (dOp vMulS (dVar 8) (dVar 10))) (dNil))))))) (gSet 5) (sIf (dNot (dTru (dCall m__law_right (aVal (dVar 5) (aNil))))) (sRet (dC (.bl false))) (sNil)))
def lw9 : ENV → R Fl := (sFor (dItems (dLst (dCons (dC .non) (dCons (dC (.int 5)) (dCons (dC (.bl true)) (dCons (dLst (dCons (dC (.str "I")) (dNil))) (dCons (dTup (dCons (dC (.str "I")) (dNil))) (dNil)))))))) (gSet 11) (sIf (dT (dCmp .ne (dCall m__law_read (aVal (dVar 11) (aNil))) (dLst (dCons (dC (.str "no")) (dCons (dC (.int 0)) (dCons (dC (.str "text")) (dNil))))))) (sRet (dC (.bl false))) (sNil)))
def lw10 : ENV → R Fl := (sRet (dC (.bl true)))
theorem lw_cut : b_law = sSeq lw0 (sSeq lw1 (sSeq lw2 (sSeq lw3 (sSeq lw4 (sSeq lw5 (sSeq lw6 (sSeq lw7 (sSeq lw8 (sSeq lw9 (lw10)))))))))) := rfl
theorem lw2_cut : lw2 = sFor (dRng1 (dC (.int 10))) (gSet 3) lbB := rfl
theorem lw3_cut : lw3 = sFor heads (gSet 6) hbB := rfl
theorem lw6_cut : lw6 = sFor l6 (gSet 5) rB := rfl
theorem lw8_cut : lw8 = sFor l8 (gSet 5) rB := rfl
theorem lw9_cut : lw9 = sFor l9 (gSet 11) tB := rfl
def EE (s : D) (m : M) (W : D) (o3 o4 o5 o6 o7 o8 o9 o10 o11 : Option DV) : ENV := [some (.sh s), some (.ow m), some (.sh W), o3, o4, o5, o6, o7, o8, o9, o10, o11]
abbrev K60 : Int := 1000000000000000000000000000000000000000000000000000000000000
theorem pw60 : vIc cPow (fun i j => i ^ j.toNat) (.int 10) (.int 60) = some (.int K60) := by kernel_rfl
theorem mu60 : vIc cMul (fun i j => i * j) (.int 2) (.int K60) = some (.int 2000000000000000000000000000000000000000000000000000000000000) := by kernel_rfl
theorem ne_w {w : Wd} (h : w.ok) : CK.f .ne w.d w.d = some (.bl false) := by
  have e := eq_w h
  have e : vEq false w.d w.d = some (.bl true) := by
    obtain ⟨ds, hd⟩ := w.tup
    rw [hd] at e ⊢
    exact e
  unfold vEq at e
  have n : vEq true w.d w.d = some (.bl false) := by
    unfold vEq
    split at e
    · rename_i hs
      rw [if_pos hs]
      have e : some (D.bl (PyData.eqv w.d.toPy w.d.toPy)) = some (.bl true) := e
      injection e with e
      injection e with e
      rw [e]; rfl
    · cases e
  obtain ⟨ds, hd⟩ := w.tup
  rw [hd] at n ⊢
  exact n
section
variable {s : D} {m : M} {ns ps : List Str}
theorem lb0_ok (hm : Good m) (w : Wo ns ps) (o3 o4 o5 : Option DV) : ∃ v m', lb0 (EE s m (WD ns ps) o3 o4 o5 none none none none none none) = .ok .nx (EE s m' (WD ns ps) o3 (some (.sh (Wd.d v))) o5 none none none none none none) ∧ Good m' ∧ v.ok := by
  obtain ⟨x, m1, e1, g1, dw⟩ := word_t hm w
  obtain ⟨a, m2, e2, g2, a0, a1⟩ := tk (n := 2000000000000000000000000000000000000000000000000000000000000) g1 (by decide) (by decide +kernel)
  obtain ⟨y, m3, e3, g3, ny⟩ := dname_ok g2
  obtain ⟨r, m4, e4, g4, r0, r1⟩ := tk (n := 6) g3 (by decide)
  generalize WD ns ps = W at *
  have go : ∀ v : Wd, vIxI (.lst [x.d, .tup [.str "somebody"], .tup [.str "one day"], .tup [.str "somewhere"], .tup [.str "date", .int (a - K60)], .tup [.str "name", .str y]]) (.int r) = some v.d → lb0 (EE s m W o3 o4 o5 none none none none none none) = .ok .nx (EE s m4 W o3 (some (.sh v.d)) o5 none none none none none none) := fun v hv => by
    unfold lb0 EE
    simp only [RFS, RVS, e_aIo (m := m), stepO3 (m := m), e1, e_aIo (m := m1), stepO2 (m := m1), pw60, mu60, e2, e_aIo (m := m2), stepO1 (m := m2), e3, e_aIo (m := m3), stepO2 (m := m3), e4, hv, -e_ixL]
  have : r = 0 ∨ r = 1 ∨ r = 2 ∨ r = 3 ∨ r = 4 ∨ r = 5 := by omega
  rcases this with rfl | rfl | rfl | rfl | rfl | rfl
  · exact ⟨x, m4, go x rfl, g4, dw.ok⟩
  · exact ⟨.somebody, m4, go .somebody rfl, g4, trivial⟩
  · exact ⟨.oneDay, m4, go .oneDay rfl, g4, trivial⟩
  · exact ⟨.somewhere, m4, go .somewhere rfl, g4, trivial⟩
  · exact ⟨.dat (a - K60), m4, go (.dat (a - K60)) rfl, g4, Nat.lt_of_le_of_lt (m := 1000000000000000000000000000000000000000000000000000000000000) (by unfold K60; omega) (by decide +kernel)⟩
  · exact ⟨.nam y, m4, go (.nam y) rfl, g4, ny⟩
theorem lb1_ok {W : D} {v : Wd} (hv : v.ok) (o3 o5 : Option DV) : lb1 (EE s m W o3 (some (.sh v.d)) o5 none none none none none none) = .ok .nx (EE s m W o3 (some (.sh v.d)) (some (.sh (.str (S v.tx)))) none none none none none none) := by
  have e := written_w hv
  unfold lb1 EE
  simp only [RFS, RVS, e]
theorem lb2_ok {W : D} {v : Wd} (hv : v.ok) (o3 : Option DV) : lb2 (EE s m W o3 (some (.sh v.d)) (some (.sh (.str (S v.tx)))) none none none none none none) = .ok .nx (EE s m W o3 (some (.sh v.d)) (some (.sh (.str (S v.tx)))) none none none none none none) := by
  have e := lwt hv
  have q := neS v.tx v.tx
  rw [decide_eq_true rfl] at q
  have r := read_val (readw_some (tx_w hv).1 (find_tx hv))
  have n := ne_w hv
  unfold lb2 EE
  simp only [RFS, RVS, e, q, isStr, r, n]
theorem lb3_ok {W : D} {v : Wd} (hm : Good m) (hv : v.ok) (o3 o4 : Option DV) : ∃ m', lb3 (EE s m W o3 o4 (some (.sh (.str (S v.tx)))) none none none none none none) = .ok .nx (EE s m' W o3 o4 (some (.sh (.str (S v.tx)))) none none none none none none) ∧ Good m' := by
  obtain ⟨t, tl⟩ := tx_w hv
  generalize v.tx = l at *
  obtain ⟨l1, m1, e1, g1, t1, n1⟩ := near_txt hm t (by omega)
  obtain ⟨l2, m2, e2, g2, t2, n2⟩ := near_txt g1 t (by omega)
  obtain ⟨l3, m3, e3, g3, t3, n3⟩ := near_txt g2 t2 (by omega)
  have r1 := right_ok t1 (by omega)
  have r3 := right_ok t3 (by omega)
  refine ⟨m3, ?_, g3⟩
  unfold lb3 EE
  simp only [RFS, RVS, e_aIo (m := m), stepO2 (m := m), e1, r1, e_aIo (m := m1), stepO2 (m := m1), e2, e_aIo (m := m2), stepO2 (m := m2), e3, r3]
theorem lb4_ok {W : D} (hm : Good m) (o3 o4 o5 : Option DV) : ∃ m', lb4 (EE s m W o3 o4 o5 none none none none none none) = .ok .nx (EE s m' W o3 o4 o5 none none none none none none) ∧ Good m' := by
  obtain ⟨d, m1, e1, g1, th, q⟩ := odd_ok hm
  have w := written_bad th q
  have n : CK.f .notN .non .non = some (.bl false) := rfl
  refine ⟨m1, ?_, g1⟩
  unfold lb4 EE
  simp only [RFS, RVS, e_aIo (m := m), stepO1 (m := m), e1, w, n]
theorem lbB_ok (hm : Good m) (w : Wo ns ps) (o3 o4 o5 : Option DV) : ∃ m' p4 p5, lbB (EE s m (WD ns ps) o3 o4 o5 none none none none none none) = .ok .nx (EE s m' (WD ns ps) o3 p4 p5 none none none none none none) ∧ Good m' := by
  obtain ⟨v, m1, e1, g1, hv⟩ := lb0_ok (s := s) hm w o3 o4 o5
  obtain ⟨m2, e2, g2⟩ := lb3_ok (s := s) (W := WD ns ps) g1 hv o3 (some (.sh v.d))
  obtain ⟨m3, e3, g3⟩ := lb4_ok (s := s) (W := WD ns ps) g2 o3 (some (.sh v.d)) (some (.sh (.str (S v.tx))))
  refine ⟨m3, some (.sh v.d), some (.sh (.str (S v.tx))), ?_, g3⟩
  unfold lbB
  rw [seq_ok e1, seq_ok (lb1_ok hv o3 o5), seq_ok (lb2_ok hv o3), seq_ok e2]
  exact e3
theorem lb_loop (w : Wo ns ps) : ∀ (ds : List D) (m : M) (o3 o4 o5 : Option DV), Good m → ∃ m' p3 p4 p5, forL (gSet 3) lbB ds (EE s m (WD ns ps) o3 o4 o5 none none none none none none) = .ok .nx (EE s m' (WD ns ps) p3 p4 p5 none none none none none none) ∧ Good m'
  | [], m, o3, o4, o5, hm => ⟨m, o3, o4, o5, rfl, hm⟩
  | d :: ds, m, o3, o4, o5, hm => by
    obtain ⟨m1, q4, q5, e1, g1⟩ := lbB_ok (s := s) hm w (some (.sh d)) o4 o5
    obtain ⟨m2, p3, p4, p5, e2, g2⟩ := lb_loop w ds m1 (some (.sh d)) q4 q5 g1
    refine ⟨m2, p3, p4, p5, ?_, g2⟩
    rw [forL_set 3 lbB d ds (EE s m (WD ns ps) o3 o4 o5 none none none none none none) (show 3 < 12 by decide), show (EE s m (WD ns ps) o3 o4 o5 none none none none none none).set 3 (some (.sh d)) = EE s m (WD ns ps) (some (.sh d)) o4 o5 none none none none none none from rfl, e1]
    exact e2
theorem lw2_ok (hm : Good m) (w : Wo ns ps) : ∃ m' p3 p4 p5, lw2 (EE s m (WD ns ps) none none none none none none none none none) = .ok .nx (EE s m' (WD ns ps) p3 p4 p5 none none none none none none) ∧ Good m' := by
  rw [lw2_cut]
  have d : dRng1 (dC (.int 10)) (EE s m (WD ns ps) none none none none none none none none none) = .ok (rng 0 10) (EE s m (WD ns ps) none none none none none none none none none) := by
    simp only [RFS, e_Rng1, e_rng1K (h := rngOk_le (show (0 : Int) ≤ 10 by decide) (show (10 : Int) ≤ 100 by decide))]
  show ∃ m' p3 p4 p5, (dRng1 (dC (.int 10)) (EE s m (WD ns ps) none none none none none none none none none)).bind (forK (gSet 3) lbB) = _ ∧ _
  rw [d]
  exact lb_loop w (rng 0 10) m none none none hm
end
def Rt (l : List Nat) : Prop := Tx l ∧ l.length ≤ 5000
def tS (ts : List (List Nat)) : List D := ts.map fun l => D.str (S l)
theorem rB_ok {l : List Nat} (h : Rt l) {ρ : ENV} (hg : ρ[5]? = some (some (.sh (.str (S l))))) : rB ρ = .ok .nx ρ := by
  have r := right_ok h.1 h.2
  unfold rB
  simp only [RFS, hg, r]
theorem r_loop {E : Option DV → ENV} (hE : ∀ o x, (E o).set 5 x = E x) (hl : ∀ o, 5 < (E o).length) : ∀ (ts : List (List Nat)) (o : Option DV), (∀ l ∈ ts, Rt l) → ∃ o', forL (gSet 5) rB (tS ts) (E o) = .ok .nx (E o')
  | [], o, _ => ⟨o, rfl⟩
  | l :: ts, o, h => by
    obtain ⟨o', e⟩ := r_loop hE hl ts (some (.sh (.str (S l)))) fun x hx => h x (List.mem_cons_of_mem _ hx)
    refine ⟨o', ?_⟩
    have b := rB_ok (h l List.mem_cons_self) (ρ := E (some (.sh (.str (S l))))) (by rw [← hE o]; rw [List.getElem?_set_self (hl o)])
    show forL (gSet 5) rB (D.str (S l) :: tS ts) (E o) = _
    rw [forL_set 5 rB _ _ _ (hl o), hE, b]
    exact e
theorem rt_for {di : ENV → R (List D)} {ts : List (List Nat)} {E : Option DV → ENV} (o : Option DV) (hd : di (E o) = .ok (tS ts) (E o)) (hE : ∀ o x, (E o).set 5 x = E x) (hl : ∀ o, 5 < (E o).length) (h : ∀ l ∈ ts, Rt l) : ∃ o', sFor di (gSet 5) rB (E o) = .ok .nx (E o') := by
  show ∃ o', (di (E o)).bind (forK (gSet 5) rB) = _
  rw [hd]
  exact r_loop hE hl ts o h
end L08
set_option Elab.async false
set_option linter.all false
set_option maxRecDepth 100000
set_option maxHeartbeats 4000000
namespace L08
open PySem L2 Rf
open SX (S)
open TL (numL)
def rp (l : List Nat) (k : Nat) : List Nat := (List.replicate k l).flatten
theorem rep_list (a : Array Nat) : ∀ (k : Nat) (acc : Array Nat), ((List.replicate k a).foldl (· ++ ·) acc).toList = acc.toList ++ (List.replicate k a.toList).flatten
  | 0, acc => by simp
  | k + 1, acc => by
    rw [List.replicate_succ, List.foldl_cons, rep_list a k, List.replicate_succ, List.flatten_cons, Array.toList_append, List.append_assoc]
theorem repS_S (l : List Nat) (k : Nat) : repS (S l) k = S (rp l k) := by
  refine TL.ext_tl ?_
  show ((List.replicate k l.toArray).foldl (· ++ ·) #[]).toList = _
  rw [rep_list]
  rfl
theorem rp_len (l : List Nat) : ∀ k, (rp l k).length = k * l.length
  | 0 => by simp [rp]
  | k + 1 => by
    show (List.flatten (List.replicate (k + 1) l)).length = _
    rw [List.replicate_succ, List.flatten_cons, List.length_append]
    have := rp_len l k
    unfold rp at this
    rw [this, Nat.succ_mul, Nat.add_comm]
theorem rp_mem {l : List Nat} {c k : Nat} (h : c ∈ rp l k) : c ∈ l := by
  unfold rp at h
  obtain ⟨x, hx, hc⟩ := List.mem_flatten.mp h
  rw [(List.mem_replicate.mp hx).2] at hc
  exact hc
theorem rp_tx {l : List Nat} {k : Nat} (t : Tx l) (h : k * l.length ≤ 20000) : Tx (rp l k) := ⟨by rw [rp_len]; exact h, fun c hc => t.ok c (rp_mem hc)⟩
theorem mulS {l : List Nat} {n : Int} (h1 : 1 < n) (h2 : n ≤ 5000) (h0 : 0 < l.length) (hl : l.length ≤ 3) : vMulS (.str (S l)) (.int n) = some (.str (S (rp l n.toNat))) := by
  have hb : n.toNat * l.length ≤ 15000 := Nat.le_trans (Nat.mul_le_mul (show n.toNat ≤ 5000 by omega) hl) (by decide)
  show (if 1 < n ∧ n < 2 ^ 24 ∧ 0 < (S l).length ∧ (S l).length * n.toNat ≤ sizeLine ∧ (repS (S l) n.toNat).length ≤ sizeLine then some (D.str (repS (S l) n.toNat)) else none) = _
  rw [repS_S, SX.S_len, SX.S_len, rp_len, if_pos ⟨h1, by omega, h0, by rw [sizeLine_eq, Nat.mul_comm]; omega, by rw [sizeLine_eq]; omega⟩]
def headL : List (List Nat) := [comL, lasL, tcoL, tlaL, todL, thaL, [116, 111, 100, 97, 121, 43], [116, 111, 100, 97, 121, 45], [116, 104, 97, 116, 43], [116, 104, 97, 116, 45], [61], [61, 45], [64], [35], []]
structure Sm (h : List Nat) : Prop where
  tx : Tx h
  len : h.length ≤ 20
theorem head_sm : ∀ h ∈ headL, Sm h := fun h hh => by
  have e : (headL.all fun h => bnd h && decide (h.length ≤ 20)) = true := by kernel_rfl
  have := List.all_eq_true.mp e h hh
  rw [Bool.and_eq_true] at this
  have hl := of_decide_eq_true this.2
  exact ⟨Tx.lit this.1 (by omega), hl⟩
theorem heads_eq (ρ : ENV) : heads ρ = .ok (tS headL) ρ := by
  have a : [D.str "coming", .str "last", .str "thencoming", .str "thenlast", .str "today", .str "that", .str "today+", .str "today-", .str "that+", .str "that-", .str "=", .str "=-", .str "@", .str "#", .str ""] = tS headL := by kernel_rfl
  rw [← a]
  unfold heads
  simp only [RFS, RVS]
section
variable {s : D} {m : M} {ns ps : List Str}
theorem hbB_ok (hm : Good m) (w : Wo ns ps) {h : List Nat} (sm : Sm h) (o3 o4 o5 o7 : Option DV) : ∃ m' p5 p7, hbB (EE s m (WD ns ps) o3 o4 o5 (some (.sh (.str (S h)))) o7 none none none none) = .ok .nx (EE s m' (WD ns ps) o3 o4 p5 (some (.sh (.str (S h)))) p7 none none none none) ∧ Good m' := by
  obtain ⟨r, m1, e1, g1, r0, r1⟩ := tk (n := 67) hm (by decide)
  have rs : r.natAbs < 10 ^ 100 := Nat.lt_of_le_of_lt (m := 67) (by omega) (by decide)
  have s0 : hb0 (EE s m (WD ns ps) o3 o4 o5 (some (.sh (.str (S h)))) o7 none none none none) = .ok .nx (EE s m1 (WD ns ps) o3 o4 o5 (some (.sh (.str (S h)))) (some (.sh (.int r))) none none none none) := by
    unfold hb0 EE
    generalize WD ns ps = W
    simp only [RFS, RVS, e_aIo (m := m), stepO2 (m := m), e1]
  obtain ⟨x, hx, xm⟩ := at_name (ns := ns) (r := 0) (by decide) (by rw [w.l1]; decide) w.h1
  have nx := w.h1 x xm
  have i0 := wd0 ns ps
  have st := str_n rs
  have lt := it_len rs
  have tt := it_tx rs
  have xt := nm_tx nx
  have xl := nm_len nx
  have hl := sm.len
  have a1 : vAdd (.str (S h)) (.str (S (itL r))) = some (.str (S (h ++ itL r))) := addS (by omega)
  have a2 : vAdd (.str (S h)) (.str "0") = some (.str (S (h ++ [48]))) := addS (b := [48]) (by simp; omega)
  have a3 : vAdd (.str (S (h ++ [48]))) (.str (S (itL r))) = some (.str (S (h ++ [48] ++ itL r))) := addS (by rw [List.length_append, List.length_singleton]; omega)
  have a4 : vAdd (.str (S h)) (.str "7") = some (.str (S (h ++ [55]))) := addS (b := [55]) (by simp; omega)
  have a5 : vAdd (.str (S h)) (.str "00") = some (.str (S (h ++ [48, 48]))) := addS (b := [48, 48]) (by simp; omega)
  have a6 : vAdd (.str (S h)) (.str x) = some (.str (S (h ++ x.cps.toList))) := by
    have := addS (a := h) (b := x.cps.toList) (by omega)
    rw [SX.S_tl] at this
    exact this
  have a7 : vAdd (.str " ") (.str (S h)) = some (.str (S ([32] ++ h))) := addS (a := [32]) (by simp; omega)
  have hd : hbL (EE s m1 (WD ns ps) o3 o4 o5 (some (.sh (.str (S h)))) (some (.sh (.int r))) none none none none) = .ok (tS [h, h ++ itL r, h ++ [48] ++ itL r, h ++ [55], h ++ [48, 48], h ++ x.cps.toList, [32] ++ h]) (EE s m1 (WD ns ps) o3 o4 o5 (some (.sh (.str (S h)))) (some (.sh (.int r))) none none none none) := by
    unfold hbL EE tS
    generalize WD ns ps = W at *
    generalize ND ns = N at *
    generalize itL r = ir at *
    generalize x.cps.toList = xs at *
    simp only [RFS, RVS, i0, hx, st, a1, a2, a3, a4, a5, a6, a7, -e_ixL]
  obtain ⟨p5, e2⟩ := rt_for (E := fun o => EE s m1 (WD ns ps) o3 o4 o (some (.sh (.str (S h)))) (some (.sh (.int r))) none none none none) o5 hd (fun _ _ => rfl) (fun _ => show 5 < 12 by decide) (fun l hl' => by
    have ap : ∀ {a b : List Nat}, Tx a → a.length ≤ 200 → Tx b → b.length ≤ 200 → Rt (a ++ b) := fun ha h1 hb h2 => ⟨ha.app hb (by omega), by rw [List.length_append]; omega⟩
    have l1 : ∀ c, c < 0x110000 → Tx [c] ∧ [c].length ≤ 200 := fun c hc => ⟨Tx.one hc, by simp⟩
    have z : Tx (h ++ [48]) ∧ (h ++ [48]).length ≤ 200 := ⟨sm.tx.app (Tx.one (by decide)) (by simp; omega), by simp; omega⟩
    simp only [List.mem_cons, List.not_mem_nil, or_false] at hl'
    rcases hl' with rfl | rfl | rfl | rfl | rfl | rfl | rfl
    · exact ⟨sm.tx, by omega⟩
    · exact ap sm.tx (by omega) tt (by omega)
    · exact ap z.1 z.2 tt (by omega)
    · exact ap sm.tx (by omega) (l1 55 (by decide)).1 (by simp)
    · exact ap sm.tx (by omega) (Tx.lit (l := [48, 48]) rfl (by decide)) (by simp)
    · exact ap sm.tx (by omega) xt (by omega)
    · exact ap (l1 32 (by decide)).1 (by simp) sm.tx (by omega))
  refine ⟨m1, p5, some (.sh (.int r)), ?_, g1⟩
  unfold hbB
  rw [seq_ok s0]
  exact e2
theorem hb_loop (w : Wo ns ps) : ∀ (hs : List (List Nat)) (m : M) (o3 o4 o5 o6 o7 : Option DV), Good m → (∀ h ∈ hs, Sm h) → ∃ m' p5 p6 p7, forL (gSet 6) hbB (tS hs) (EE s m (WD ns ps) o3 o4 o5 o6 o7 none none none none) = .ok .nx (EE s m' (WD ns ps) o3 o4 p5 p6 p7 none none none none) ∧ Good m'
  | [], m, o3, o4, o5, o6, o7, hm, _ => ⟨m, o5, o6, o7, rfl, hm⟩
  | h :: hs, m, o3, o4, o5, o6, o7, hm, a => by
    obtain ⟨m1, q5, q7, e1, g1⟩ := hbB_ok (s := s) hm w (a h List.mem_cons_self) o3 o4 o5 o7
    obtain ⟨m2, p5, p6, p7, e2, g2⟩ := hb_loop w hs m1 o3 o4 q5 (some (.sh (.str (S h)))) q7 g1 fun x hx => a x (List.mem_cons_of_mem _ hx)
    refine ⟨m2, p5, p6, p7, ?_, g2⟩
    show forL (gSet 6) hbB (D.str (S h) :: tS hs) _ = _
    rw [forL_set 6 hbB _ _ (EE s m (WD ns ps) o3 o4 o5 o6 o7 none none none none) (show 6 < 12 by decide), show (EE s m (WD ns ps) o3 o4 o5 o6 o7 none none none none).set 6 (some (.sh (.str (S h)))) = EE s m (WD ns ps) o3 o4 o5 (some (.sh (.str (S h)))) o7 none none none none from rfl, e1]
    exact e2
theorem lw3_ok (hm : Good m) (w : Wo ns ps) (o3 o4 o5 : Option DV) : ∃ m' p5 p6 p7, lw3 (EE s m (WD ns ps) o3 o4 o5 none none none none none none) = .ok .nx (EE s m' (WD ns ps) o3 o4 p5 p6 p7 none none none none) ∧ Good m' := by
  rw [lw3_cut]
  show ∃ m' p5 p6 p7, (heads _).bind (forK (gSet 6) hbB) = _ ∧ _
  rw [heads_eq]
  exact hb_loop w headL m o3 o4 o5 none none hm head_sm
variable {W : D} {o3 o4 o5 o6 o7 : Option DV}
theorem lw4_ok (hm : Good m) : ∃ m' c, lw4 (EE s m W o3 o4 o5 o6 o7 none none none none) = .ok .nx (EE s m' W o3 o4 o5 o6 o7 (some (.sh (.str (S [c])))) none none none) ∧ Good m' ∧ c < 0x110000 := by
  obtain ⟨r, m1, e1, g1, r0, r1⟩ := tk (n := 9) hm (by decide)
  obtain ⟨c, hc, hm⟩ := at_sign "123456789" r0 (by rw [show ("123456789" : Str).cps.toList.length = 9 by kernel_rfl]; exact r1)
  refine ⟨m1, c, ?_, g1, bnd_ok (show bnd ("123456789" : Str).cps.toList = true by kernel_rfl) c hm⟩
  unfold lw4 EE
  simp only [RFS, RVS, e_aIo (m := m), stepO2 (m := m), e1, hc]
theorem dig_at {r : Int} (r0 : 0 ≤ r) (r1 : r < 10) : ∃ c, vIxI (.str "0123456789") (.int r) = some (.str (S [c])) ∧ c < 0x110000 := by
  obtain ⟨c, hc, hm⟩ := at_sign "0123456789" r0 (by rw [show ("0123456789" : Str).cps.toList.length = 10 by kernel_rfl]; exact r1)
  exact ⟨c, hc, bnd_ok (show bnd ("0123456789" : Str).cps.toList = true by kernel_rfl) c hm⟩
theorem lw5_ok {o8 : Option DV} (hm : Good m) : ∃ m' R, lw5 (EE s m W o3 o4 o5 o6 o7 o8 none none none) = .ok .nx (EE s m' W o3 o4 o5 o6 o7 o8 (some (.sh (.str (S R)))) none none) ∧ Good m' ∧ Tx R ∧ R.length ≤ 200 := by
  obtain ⟨a, m1, e1, g1, a0, a1⟩ := tk (n := 10) hm (by decide)
  obtain ⟨b, m2, e2, g2, b0, b1⟩ := tk (n := 10) g1 (by decide)
  obtain ⟨c, m3, e3, g3, c0, c1⟩ := tk (n := 10) g2 (by decide)
  obtain ⟨x, hx, tx⟩ := dig_at a0 a1
  obtain ⟨y, hy, ty⟩ := dig_at b0 b1
  obtain ⟨z, hz, tz⟩ := dig_at c0 c1
  have s1 : vAdd (.str (S [x])) (.str (S [y])) = some (.str (S [x, y])) := addS (a := [x]) (b := [y]) (by simp)
  have s2 : vAdd (.str (S [x, y])) (.str (S [z])) = some (.str (S [x, y, z])) := addS (a := [x, y]) (b := [z]) (by simp)
  have s3 := mulS (l := [x, y, z]) (n := 33) (by decide) (by decide) (by simp) (by simp)
  have t3 : Tx [x, y, z] := ⟨by simp, fun d hd => by
    simp only [List.mem_cons, List.not_mem_nil, or_false] at hd
    rcases hd with rfl | rfl | rfl <;> assumption⟩
  refine ⟨m3, rp [x, y, z] (33 : Int).toNat, ?_, g3, rp_tx t3 (by simp), by rw [rp_len]; simp⟩
  generalize rp [x, y, z] (33 : Int).toNat = R at *
  unfold lw5 EE
  simp only [RFS, RVS, e_aIo (m := m), stepO2 (m := m), e1, hx, e_aIo (m := m1), stepO2 (m := m1), e2, hy, e_aIo (m := m2), stepO2 (m := m2), e3, hz, s1, s2, s3]
theorem lw6_ok {c : Nat} {R : List Nat} (hc : c < 0x110000) (t : Tx R) (hl : R.length ≤ 200) : ∃ p5, lw6 (EE s m W o3 o4 o5 o6 o7 (some (.sh (.str (S [c])))) (some (.sh (.str (S R)))) none none) = .ok .nx (EE s m W o3 o4 p5 o6 o7 (some (.sh (.str (S [c])))) (some (.sh (.str (S R)))) none none) := by
  rw [lw6_cut]
  have a1 : vAdd (.str "=") (.str (S [c])) = some (.str (S ([61] ++ [c]))) := addS (a := [61]) (by simp)
  have a2 : vAdd (.str (S ([61] ++ [c]))) (.str (S R)) = some (.str (S ([61] ++ [c] ++ R))) := addS (by simp; omega)
  have a3 : vAdd (.str "=-") (.str (S [c])) = some (.str (S ([61, 45] ++ [c]))) := addS (a := [61, 45]) (by simp)
  have a4 : vAdd (.str (S ([61, 45] ++ [c]))) (.str (S R)) = some (.str (S ([61, 45] ++ [c] ++ R))) := addS (by simp; omega)
  have a5 : vAdd (.str (S ([61] ++ [c] ++ R))) (.str "5") = some (.str (S ([61] ++ [c] ++ R ++ [53]))) := addS (b := [53]) (by simp; omega)
  have a6 : vAdd (.str (S ([61, 45] ++ [c] ++ R))) (.str "0") = some (.str (S ([61, 45] ++ [c] ++ R ++ [48]))) := addS (b := [48]) (by simp; omega)
  have a7 : vAdd (.str "=0") (.str (S R)) = some (.str (S ([61, 48] ++ R))) := addS (a := [61, 48]) (by simp; omega)
  have a8 : vAdd (.str "=") (.str (S R)) = some (.str (S ([61] ++ R))) := addS (a := [61]) (by simp; omega)
  have app : ∀ {a b : List Nat}, Tx a → a.length ≤ 300 → Tx b → b.length ≤ 300 → Rt (a ++ b) := fun ha h1 hb h2 => ⟨ha.app hb (by omega), by rw [List.length_append]; omega⟩
  have c1 : Tx ([61] ++ [c]) := (Tx.lit (l := [61]) rfl (by decide)).app (Tx.one hc) (by simp)
  have c2 : Tx ([61, 45] ++ [c]) := (Tx.lit (l := [61, 45]) rfl (by decide)).app (Tx.one hc) (by simp)
  have r1 : Rt ([61] ++ [c] ++ R) := app c1 (by simp) t (by omega)
  have r2 : Rt ([61, 45] ++ [c] ++ R) := app c2 (by simp) t (by omega)
  have n1 : ([61] ++ [c] ++ R).length ≤ 300 := by simp; omega
  have n2 : ([61, 45] ++ [c] ++ R).length ≤ 300 := by simp; omega
  have r3 : Rt ([61] ++ [c] ++ R ++ [53]) := app r1.1 n1 (Tx.one (by decide)) (by simp)
  have r4 : Rt ([61, 45] ++ [c] ++ R ++ [48]) := app r2.1 n2 (Tx.one (by decide)) (by simp)
  have r5 : Rt ([61, 48] ++ R) := app (Tx.lit (l := [61, 48]) rfl (by decide)) (by simp) t (by omega)
  have r6 : Rt ([61] ++ R) := app (Tx.lit (l := [61]) rfl (by decide)) (by simp) t (by omega)
  generalize [61] ++ [c] ++ R ++ [53] = b3 at *
  generalize [61, 45] ++ [c] ++ R ++ [48] = b4 at *
  generalize [61] ++ [c] ++ R = b1 at *
  generalize [61, 45] ++ [c] ++ R = b2 at *
  generalize [61] ++ [c] = d1 at *
  generalize [61, 45] ++ [c] = d2 at *
  generalize [61, 48] ++ R = b5 at *
  generalize [61] ++ R = b6 at *
  have hd : l6 (EE s m W o3 o4 o5 o6 o7 (some (.sh (.str (S [c])))) (some (.sh (.str (S R)))) none none) = .ok (tS [b1, b2, b3, b4, b5, b6]) (EE s m W o3 o4 o5 o6 o7 (some (.sh (.str (S [c])))) (some (.sh (.str (S R)))) none none) := by
    unfold l6 EE tS
    simp only [RFS, RVS, a1, a2, a3, a4, a5, a6, a7, a8]
  exact rt_for (E := fun o => EE s m W o3 o4 o o6 o7 (some (.sh (.str (S [c])))) (some (.sh (.str (S R)))) none none) o5 hd (fun _ _ => rfl) (fun _ => show 5 < 12 by decide) (fun l hl' => by
    simp only [List.mem_cons, List.not_mem_nil, or_false] at hl'
    rcases hl' with rfl | rfl | rfl | rfl | rfl | rfl <;> assumption)
theorem lw7_ok {o8 o9 : Option DV} (hm : Good m) : ∃ m' n, lw7 (EE s m W o3 o4 o5 o6 o7 o8 o9 none none) = .ok .nx (EE s m' W o3 o4 o5 o6 o7 o8 o9 (some (.sh (.int n))) none) ∧ Good m' ∧ 4301 ≤ n ∧ n ≤ 4360 := by
  obtain ⟨r, m1, e1, g1, r0, r1⟩ := tk (n := 60) hm (by decide)
  refine ⟨m1, 4301 + r, ?_, g1, by omega, by omega⟩
  unfold lw7 EE
  simp only [RFS, RVS, e_aIo (m := m), stepO2 (m := m), e1]
theorem lw8_ok {c : Nat} {n : Int} {o9 : Option DV} (hc : c < 0x110000) (n0 : 4301 ≤ n) (n1 : n ≤ 4360) : ∃ p5, lw8 (EE s m W o3 o4 o5 o6 o7 (some (.sh (.str (S [c])))) o9 (some (.sh (.int n))) none) = .ok .nx (EE s m W o3 o4 p5 o6 o7 (some (.sh (.str (S [c])))) o9 (some (.sh (.int n))) none) := by
  rw [lw8_cut]
  have mu := mulS (l := [c]) (n := n) (by omega) (by omega) (by simp) (by simp)
  have t : Tx (rp [c] n.toNat) := rp_tx (Tx.one hc) (by simp; omega)
  have hl : (rp [c] n.toNat).length ≤ 4360 := by rw [rp_len]; simp; omega
  generalize rp [c] n.toNat = R at *
  have a1 : vAdd (.str "=") (.str (S R)) = some (.str (S ([61] ++ R))) := addS (a := [61]) (by simp; omega)
  have a2 : vAdd (.str "=-") (.str (S R)) = some (.str (S ([61, 45] ++ R))) := addS (a := [61, 45]) (by simp; omega)
  have a3 : vAdd (.str "today+") (.str (S R)) = some (.str (S ([116, 111, 100, 97, 121, 43] ++ R))) := addS (a := [116, 111, 100, 97, 121, 43]) (by simp; omega)
  have a4 : vAdd (.str "coming") (.str (S R)) = some (.str (S (comL ++ R))) := addS (a := comL) (by simp [comL]; omega)
  have app : ∀ {a : List Nat}, bnd a = true → a.length ≤ 30 → Rt (a ++ R) := fun ha h1 => ⟨(Tx.lit ha (by omega)).app t (by omega), by rw [List.length_append]; omega⟩
  have r1 : Rt ([61] ++ R) := app rfl (by decide)
  have r2 : Rt ([61, 45] ++ R) := app rfl (by decide)
  have r3 : Rt ([116, 111, 100, 97, 121, 43] ++ R) := app rfl (by decide)
  have r4 : Rt (comL ++ R) := app rfl (by decide)
  generalize [116, 111, 100, 97, 121, 43] ++ R = b3 at *
  generalize comL ++ R = b4 at *
  generalize [61, 45] ++ R = b2 at *
  generalize [61] ++ R = b1 at *
  have hd : l8 (EE s m W o3 o4 o5 o6 o7 (some (.sh (.str (S [c])))) o9 (some (.sh (.int n))) none) = .ok (tS [b1, b2, b3, b4]) (EE s m W o3 o4 o5 o6 o7 (some (.sh (.str (S [c])))) o9 (some (.sh (.int n))) none) := by
    unfold l8 EE tS
    simp only [RFS, RVS, mu, a1, a2, a3, a4]
  exact rt_for (E := fun o => EE s m W o3 o4 o o6 o7 (some (.sh (.str (S [c])))) o9 (some (.sh (.int n))) none) o5 hd (fun _ _ => rfl) (fun _ => show 5 < 12 by decide) (fun l hl' => by
    simp only [List.mem_cons, List.not_mem_nil, or_false] at hl'
    rcases hl' with rfl | rfl | rfl | rfl <;> assumption)
theorem tB_ok {d : D} {ρ : ENV} (hg : ρ[11]? = some (some (.sh d))) (h : isTy "str" d = some false) : tB ρ = .ok .nx ρ := by
  have r := read_exc (readw_bad h)
  have n : CK.f .ne (noD "text") (.lst [.str "no", .int 0, .str "text"]) = some (.bl false) := by kernel_rfl
  unfold tB
  unfold noD at r n
  simp only [RFS, RVS, hg, r, n]
theorem lw9_ok {o8 o9 o10 : Option DV} : ∃ p, lw9 (EE s m W o3 o4 o5 o6 o7 o8 o9 o10 none) = .ok .nx (EE s m W o3 o4 o5 o6 o7 o8 o9 o10 p) := by
  rw [lw9_cut]
  have hd : l9 (EE s m W o3 o4 o5 o6 o7 o8 o9 o10 none) = .ok [.non, .int 5, .bl true, .lst [.str "I"], .tup [.str "I"]] (EE s m W o3 o4 o5 o6 o7 o8 o9 o10 none) := by
    unfold l9 EE
    simp only [RFS, RVS]
  have st : ∀ (d : D) (ds : List D) (x : Option DV), isTy "str" d = some false → forL (gSet 11) tB (d :: ds) (EE s m W o3 o4 o5 o6 o7 o8 o9 o10 x) = forL (gSet 11) tB ds (EE s m W o3 o4 o5 o6 o7 o8 o9 o10 (some (.sh d))) := fun d ds x h => by
    rw [forL_set 11 tB d ds (EE s m W o3 o4 o5 o6 o7 o8 o9 o10 x) (show 11 < 12 by decide), show (EE s m W o3 o4 o5 o6 o7 o8 o9 o10 x).set 11 (some (.sh d)) = EE s m W o3 o4 o5 o6 o7 o8 o9 o10 (some (.sh d)) from rfl, tB_ok (d := d) rfl h]
    rfl
  refine ⟨some (.sh (.tup [.str "I"])), ?_⟩
  show (l9 _).bind (forK (gSet 11) tB) = _
  rw [hd]
  show forL (gSet 11) tB _ _ = _
  rw [st _ _ _ rfl, st _ _ _ rfl, st _ _ _ rfl, st _ _ _ rfl, st _ _ _ rfl]
  rfl
end
theorem law_true (xs : List Int) (hn : xs.length ≤ 63) : m_law [.sh (.scr (xs.map D.int))] = .ok (.sh (.bl true)) [] := by
  obtain ⟨m, e, hm⟩ := hand_ok xs hn
  generalize hS : D.scr (xs.map D.int) = s at *
  have s0 : lw0 [some (.sh s), none, none, none, none, none, none, none, none, none, none, none] = .ok .nx [some (.sh s), some (.ow m), none, none, none, none, none, none, none, none, none, none] := by
    unfold lw0
    simp only [RFS, e]
  obtain ⟨m1, ns, ps, e1, g1, w⟩ := world_ok hm
  have s1 : lw1 [some (.sh s), some (.ow m), none, none, none, none, none, none, none, none, none, none] = .ok .nx (EE s m1 (WD ns ps) none none none none none none none none none) := by
    unfold lw1 EE
    generalize WD ns ps = W at *
    simp only [RFS, RVS, e_aIo (m := m), stepO1 (m := m), outO1, e1]
  obtain ⟨m2, p3, p4, p5, e2, g2⟩ := lw2_ok (s := s) g1 w
  obtain ⟨m3, q5, q6, q7, e3, g3⟩ := lw3_ok (s := s) g2 w p3 p4 p5
  obtain ⟨m4, c, e4, g4, hc⟩ := lw4_ok (s := s) (W := WD ns ps) (o3 := p3) (o4 := p4) (o5 := q5) (o6 := q6) (o7 := q7) g3
  obtain ⟨m5, R, e5, g5, tR, lR⟩ := lw5_ok (s := s) (W := WD ns ps) (o3 := p3) (o4 := p4) (o5 := q5) (o6 := q6) (o7 := q7) (o8 := some (.sh (.str (S [c])))) g4
  obtain ⟨r5, e6⟩ := lw6_ok (s := s) (m := m5) (W := WD ns ps) (o3 := p3) (o4 := p4) (o5 := q5) (o6 := q6) (o7 := q7) hc tR lR
  obtain ⟨m7, n, e7, g7, n0, n1⟩ := lw7_ok (s := s) (W := WD ns ps) (o3 := p3) (o4 := p4) (o5 := r5) (o6 := q6) (o7 := q7) (o8 := some (.sh (.str (S [c])))) (o9 := some (.sh (.str (S R)))) g5
  obtain ⟨r8, e8⟩ := lw8_ok (s := s) (m := m7) (W := WD ns ps) (o3 := p3) (o4 := p4) (o5 := r5) (o6 := q6) (o7 := q7) (o9 := some (.sh (.str (S R)))) hc n0 n1
  obtain ⟨p, e9⟩ := lw9_ok (s := s) (m := m7) (W := WD ns ps) (o3 := p3) (o4 := p4) (o5 := r8) (o6 := q6) (o7 := q7) (o8 := some (.sh (.str (S [c])))) (o9 := some (.sh (.str (S R)))) (o10 := some (.sh (.int n)))
  refine (e_run [] 12 _ _ rfl).trans ?_
  rw [lw_cut, show startE 12 [.sh s] = [some (.sh s), none, none, none, none, none, none, none, none, none, none, none] from rfl, seq_ok s0, seq_ok s1, seq_ok e2, seq_ok e3, seq_ok e4, seq_ok e5, seq_ok e6, seq_ok e7, seq_ok e8, seq_ok e9]
  rfl
end L08
set_option Elab.async false
set_option linter.all false
set_option maxRecDepth 100000
set_option maxHeartbeats 8000000
namespace L08
open PySem PySem.Spec L2 Rf
theorem sub_all {P : Nat → Nat → Bool → Prop} (h0 : P 1 1 true) (h1 : P 1 2 false) (h2 : P 2 1 false) (h3 : P 2 2 true) : ∀ i j b, subT i j = some b → P i j b := by
  intro i j b e
  unfold subT at e
  by_cases c0 : i = 1 ∧ j = 1
  · rw [if_pos c0] at e; obtain ⟨rfl, rfl⟩ := c0; cases e; exact h0
  rw [if_neg c0] at e
  by_cases c1 : i = 1 ∧ j = 2
  · rw [if_pos c1] at e; obtain ⟨rfl, rfl⟩ := c1; cases e; exact h1
  rw [if_neg c1] at e
  by_cases c2 : i = 2 ∧ j = 1
  · rw [if_pos c2] at e; obtain ⟨rfl, rfl⟩ := c2; cases e; exact h2
  rw [if_neg c2] at e
  by_cases c3 : i = 2 ∧ j = 2
  · rw [if_pos c3] at e; obtain ⟨rfl, rfl⟩ := c3; cases e; exact h3
  rw [if_neg c3] at e
  cases e
theorem txt_mk {K : PySem.W.Frag} {h : Heap} {mg : Str → Option Value} (X : K.In h) (G : h.Ns mainGlobals mg) {C1 C2 C0 g_SINGLE_WORDS_a g_STEP_WORDS_a g_WEEKDAY_WORDS_a g_SINGLE_TEXTS_a g_WORDS_OF_TEXTS_a g_SIGNED_TEXTS_a g_WEEKDAY_TEXTS_a g_STEP_TEXTS_a : Addr} {t_LETTERS_0 t_MOST_STEP_0 t_SINGLE_WORDS_0 t_SINGLE_WORDS_1 t_SINGLE_WORDS_2 t_SINGLE_WORDS_3 t_SINGLE_WORDS_4 t_SINGLE_WORDS_5 t_SINGLE_WORDS_6 t_SINGLE_WORDS_7 t_SINGLE_WORDS_8 t_SINGLE_WORDS_9 t_SINGLE_WORDS_10 t_SINGLE_WORDS_11 t_SINGLE_WORDS_12 t_SINGLE_WORDS_13 t_SINGLE_WORDS_14 t_SINGLE_WORDS_15 t_SINGLE_WORDS_16 t_SINGLE_WORDS_17 t_STEP_WORDS_0 t_STEP_WORDS_1 t_WEEKDAY_WORDS_0 t_WEEKDAY_WORDS_1 t_WEEKDAY_WORDS_2 t_WEEKDAY_WORDS_3 t_MOST_FIGURES_0 t_SINGLE_TEXTS_0 t_SINGLE_TEXTS_1 t_SINGLE_TEXTS_2 t_SINGLE_TEXTS_3 t_SINGLE_TEXTS_4 t_SINGLE_TEXTS_5 t_SINGLE_TEXTS_6 t_SINGLE_TEXTS_7 t_SINGLE_TEXTS_8 t_SINGLE_TEXTS_9 t_SINGLE_TEXTS_10 t_SINGLE_TEXTS_11 t_SINGLE_TEXTS_12 t_SINGLE_TEXTS_13 t_SINGLE_TEXTS_14 t_SINGLE_TEXTS_15 t_SINGLE_TEXTS_16 t_SINGLE_TEXTS_17 t_WORDS_OF_TEXTS_0 t_WORDS_OF_TEXTS_1 t_WORDS_OF_TEXTS_2 t_WORDS_OF_TEXTS_3 t_WORDS_OF_TEXTS_4 t_WORDS_OF_TEXTS_5 t_WORDS_OF_TEXTS_6 t_WORDS_OF_TEXTS_7 t_WORDS_OF_TEXTS_8 t_WORDS_OF_TEXTS_9 t_WORDS_OF_TEXTS_10 t_WORDS_OF_TEXTS_11 t_WORDS_OF_TEXTS_12 t_WORDS_OF_TEXTS_13 t_WORDS_OF_TEXTS_14 t_WORDS_OF_TEXTS_15 t_WORDS_OF_TEXTS_16 t_WORDS_OF_TEXTS_17 t_SIGNED_TEXTS_0 t_SIGNED_TEXTS_1 t_SIGNED_TEXTS_2 t_SIGNED_TEXTS_3 t_SIGNED_TEXTS_4 t_SIGNED_TEXTS_5 t_WEEKDAY_TEXTS_0 t_WEEKDAY_TEXTS_1 t_WEEKDAY_TEXTS_2 t_WEEKDAY_TEXTS_3 t_WEEKDAY_TEXTS_4 t_WEEKDAY_TEXTS_5 t_WEEKDAY_TEXTS_6 t_WEEKDAY_TEXTS_7 t_STEP_TEXTS_0 t_STEP_TEXTS_1 t_STEP_TEXTS_2 t_STEP_TEXTS_3 : Tok}
    {N2 : Addr} {nm2 q2 : Str} {bs2 bm2 : List Value} {sn2 : List Str} {su2 : List Value} {ab2 : Bool} {col2 : Option Bool} {dd2 : Option Addr} {ka2 kb2 kc2 kd2 ke2 : Option Value}
    {n_SINGLE_WORDS : Nat} {h_SINGLE_WORDS_0 h_SINGLE_WORDS_1 h_SINGLE_WORDS_2 h_SINGLE_WORDS_3 h_SINGLE_WORDS_4 h_SINGLE_WORDS_5 h_SINGLE_WORDS_6 h_SINGLE_WORDS_7 h_SINGLE_WORDS_8 : Int}
    {od_STEP_WORDS : Option Addr} {sl_STEP_WORDS : Array (Option Value)} {n_STEP_WORDS : Nat}
    {od_WEEKDAY_WORDS : Option Addr} {sl_WEEKDAY_WORDS : Array (Option Value)} {n_WEEKDAY_WORDS : Nat}
    {n_SINGLE_TEXTS : Nat} {h_SINGLE_TEXTS_0 h_SINGLE_TEXTS_1 h_SINGLE_TEXTS_2 h_SINGLE_TEXTS_3 h_SINGLE_TEXTS_4 h_SINGLE_TEXTS_5 h_SINGLE_TEXTS_6 h_SINGLE_TEXTS_7 h_SINGLE_TEXTS_8 : Int}
    {n_WORDS_OF_TEXTS : Nat} {h_WORDS_OF_TEXTS_0 h_WORDS_OF_TEXTS_1 h_WORDS_OF_TEXTS_2 h_WORDS_OF_TEXTS_3 h_WORDS_OF_TEXTS_4 h_WORDS_OF_TEXTS_5 h_WORDS_OF_TEXTS_6 h_WORDS_OF_TEXTS_7 h_WORDS_OF_TEXTS_8 : Int}
    {n_SIGNED_TEXTS : Nat} {h_SIGNED_TEXTS_0 h_SIGNED_TEXTS_1 h_SIGNED_TEXTS_2 : Int}
    {n_WEEKDAY_TEXTS : Nat} {h_WEEKDAY_TEXTS_0 h_WEEKDAY_TEXTS_1 h_WEEKDAY_TEXTS_2 h_WEEKDAY_TEXTS_3 : Int}
    {n_STEP_TEXTS : Nat} {h_STEP_TEXTS_0 h_STEP_TEXTS_1 : Int}
    {f29 : Addr} {od29 an29 : Option Addr} {sl29 : Array (Option Value)} {oc29 kV29 dc29 pm29 cd29 ct29 : Value}
    {f30 : Addr} {od30 an30 : Option Addr} {sl30 : Array (Option Value)} {oc30 kV30 dc30 pm30 cd30 ct30 : Value}
    {f31 : Addr} {od31 an31 : Option Addr} {sl31 : Array (Option Value)} {oc31 kV31 dc31 pm31 cd31 ct31 : Value}
    {f32 : Addr} {od32 an32 : Option Addr} {sl32 : Array (Option Value)} {oc32 kV32 dc32 pm32 cd32 ct32 : Value}
    {f33 : Addr} {od33 an33 : Option Addr} {sl33 : Array (Option Value)} {oc33 kV33 dc33 pm33 cd33 ct33 : Value}
    {f34 : Addr} {od34 an34 : Option Addr} {sl34 : Array (Option Value)} {oc34 kV34 dc34 pm34 cd34 ct34 : Value}
    {f10 : Addr} {od10 an10 : Option Addr} {sl10 : Array (Option Value)} {oc10 kV10 dc10 pm10 cd10 ct10 : Value}
    {f11 : Addr} {od11 an11 : Option Addr} {sl11 : Array (Option Value)} {oc11 kV11 dc11 pm11 cd11 ct11 : Value}
    {f12 : Addr} {od12 an12 : Option Addr} {sl12 : Array (Option Value)} {oc12 kV12 dc12 pm12 cd12 ct12 : Value}
    {f13 : Addr} {od13 an13 : Option Addr} {sl13 : Array (Option Value)} {oc13 kV13 dc13 pm13 cd13 ct13 : Value}
    {f14 : Addr} {od14 an14 : Option Addr} {sl14 : Array (Option Value)} {oc14 kV14 dc14 pm14 cd14 ct14 : Value}
    {f22 : Addr} {od22 an22 : Option Addr} {sl22 : Array (Option Value)} {oc22 kV22 dc22 pm22 cd22 ct22 : Value}
    {f45 : Addr} {od45 an45 : Option Addr} {sl45 : Array (Option Value)} {oc45 kV45 dc45 pm45 cd45 ct45 : Value}
    {f46 : Addr} {od46 an46 : Option Addr} {sl46 : Array (Option Value)} {oc46 kV46 dc46 pm46 cd46 ct46 : Value}
    {f43 : Addr} {od43 an43 : Option Addr} {sl43 : Array (Option Value)} {oc43 kV43 dc43 pm43 cd43 ct43 : Value}
    {f41 : Addr} {od41 an41 : Option Addr} {sl41 : Array (Option Value)} {oc41 kV41 dc41 pm41 cd41 ct41 : Value}
    {f47 : Addr} {od47 an47 : Option Addr} {sl47 : Array (Option Value)} {oc47 kV47 dc47 pm47 cd47 ct47 : Value}
    {f23 : Addr} {od23 an23 : Option Addr} {sl23 : Array (Option Value)} {oc23 kV23 dc23 pm23 cd23 ct23 : Value}
    {f24 : Addr} {od24 an24 : Option Addr} {sl24 : Array (Option Value)} {oc24 kV24 dc24 pm24 cd24 ct24 : Value}
    {f25 : Addr} {od25 an25 : Option Addr} {sl25 : Array (Option Value)} {oc25 kV25 dc25 pm25 cd25 ct25 : Value}
    {f26 : Addr} {od26 an26 : Option Addr} {sl26 : Array (Option Value)} {oc26 kV26 dc26 pm26 cd26 ct26 : Value}
    {f27 : Addr} {od27 an27 : Option Addr} {sl27 : Array (Option Value)} {oc27 kV27 dc27 pm27 cd27 ct27 : Value}
    {f44 : Addr} {od44 an44 : Option Addr} {sl44 : Array (Option Value)} {oc44 kV44 dc44 pm44 cd44 ct44 : Value}
    {f49 : Addr} {od49 an49 : Option Addr} {sl49 : Array (Option Value)} {oc49 kV49 dc49 pm49 cd49 ct49 : Value}
    {f37 : Addr} {od37 an37 : Option Addr} {sl37 : Array (Option Value)} {oc37 kV37 dc37 pm37 cd37 ct37 : Value}
    {f39 : Addr} {od39 an39 : Option Addr} {sl39 : Array (Option Value)} {oc39 kV39 dc39 pm39 cd39 ct39 : Value}
    {f35 : Addr} {od35 an35 : Option Addr} {sl35 : Array (Option Value)} {oc35 kV35 dc35 pm35 cd35 ct35 : Value}
    {f36 : Addr} {od36 an36 : Option Addr} {sl36 : Array (Option Value)} {oc36 kV36 dc36 pm36 cd36 ct36 : Value}
    {f38 : Addr} {od38 an38 : Option Addr} {sl38 : Array (Option Value)} {oc38 kV38 dc38 pm38 cd38 ct38 : Value}
    {f40 : Addr} {od40 an40 : Option Addr} {sl40 : Array (Option Value)} {oc40 kV40 dc40 pm40 cd40 ct40 : Value}
    {f42 : Addr} {od42 an42 : Option Addr} {sl42 : Array (Option Value)} {oc42 kV42 dc42 pm42 cd42 ct42 : Value}
    {f48 : Addr} {od48 an48 : Option Addr} {sl48 : Array (Option Value)} {oc48 kV48 dc48 pm48 cd48 ct48 : Value}
    {f50 : Addr} {od50 an50 : Option Addr} {sl50 : Array (Option Value)} {oc50 kV50 dc50 pm50 cd50 ct50 : Value}
    {f2_x : Addr} {od2_x an2_x : Option Addr} {sl2_x : Array (Option Value)} {oc2_x kV2_x dc2_x pm2_x cd2_x ct2_x : Value}
    (zb_all : PySem.W.nsIn K mainGlobals "all" = some none)
    (zb_bool : PySem.W.nsIn K mainGlobals "bool" = some none)
    (zb_int : PySem.W.nsIn K mainGlobals "int" = some none)
    (zb_isinstance : PySem.W.nsIn K mainGlobals "isinstance" = some none)
    (zb_len : PySem.W.nsIn K mainGlobals "len" = some none)
    (zb_range : PySem.W.nsIn K mainGlobals "range" = some none)
    (zb_str : PySem.W.nsIn K mainGlobals "str" = some none)
    (zb_tuple : PySem.W.nsIn K mainGlobals "tuple" = some none)
    (xa1 : PySem.W.nsIn K mainGlobals "BadWord" = some (some (.ref C1)))
    (xq1 : PySem.W.excIn K C1 PySem.HandSPX.veTail "ValueError.__new__" = true)
    (xk1 : PySem.W.keepIn K (.ref C1) = true)
    (xb1 : PySem.W.subIn K (.ref C1) (.type "BaseException") = some true)
    (xt1 : PySem.W.typeIn K (.ref C1) = some (.type "type"))
    (xi1 : PySem.W.isClsIn K C1 = true)
    (xa2 : PySem.W.nsIn K mainGlobals "BadText" = some (some (.ref C2)))
    (xk2 : PySem.W.keepIn K (.ref C2) = true)
    (xb2 : PySem.W.subIn K (.ref C2) (.type "BaseException") = some true)
    (xt2 : PySem.W.typeIn K (.ref C2) = some (.type "type"))
    (xi2 : PySem.W.isClsIn K C2 = true)
    (xl2 : K.lookup C2 = some (excClassObj nm2 q2 C2 N2 bs2 bm2 true sn2 su2 ab2 col2 dd2 ka2 kb2 kc2 kd2 ke2 "ValueError.__new__"))
    (xr2 : PySem.HandSPX.refsVE bm2 = true)
    (xs2 : PySem.W.findIn K (.ref C2) "__setattr__" = some (some (.builtin "object.__setattr__")))
    (xh2_position : PySem.W.findIn K (.ref C2) "position" = some none)
    (xh2_what : PySem.W.findIn K (.ref C2) "what" = some none)
    (xa0 : PySem.W.nsIn K mainGlobals "TalkError" = some (some (.ref C0)))
    (bg0 : PySem.W.specialIn K (.ref C0) "__getattribute__" = some (some (.builtin "type.__getattribute__")))
    (br0 : PySem.W.readsIn K C0 (.type "type") = true)
    (bv0 : PySem.W.findCls K (.ref C0) (.type "type") "__init__" = some (.val (.builtin "ValueError.__init__")))
    (ya2 : PySem.W.findIn K (.ref C2) "__getattribute__" = some (some (.builtin "BaseException.__getattribute__")))
    (yg2 : PySem.W.findIn K (.ref C2) "__getattr__" = some none)
    (yd2 : PySem.W.hasDictIn K C2 = true)
    (xs1_1 : PySem.W.subIn K (.ref C1) (.ref C1) = some true)
    (xs1_2 : PySem.W.subIn K (.ref C1) (.ref C2) = some false)
    (xs2_1 : PySem.W.subIn K (.ref C2) (.ref C1) = some false)
    (xs2_2 : PySem.W.subIn K (.ref C2) (.ref C2) = some true)
    (gc_LETTERS : PySem.W.nsIn K mainGlobals "LETTERS" = some (some (.str "abcdefghijklmnopqrstuvwxyz" t_LETTERS_0)))
    (gc_MOST_STEP : PySem.W.nsIn K mainGlobals "MOST_STEP" = some (some (.int 30 t_MOST_STEP_0)))
    (gc_SINGLE_WORDS : PySem.W.nsIn K mainGlobals "SINGLE_WORDS" = some (some (.ref g_SINGLE_WORDS_a)))
    (gl_SINGLE_WORDS : K.lookup g_SINGLE_WORDS_a = some ⟨.type "dict", none, .dict #[⟨h_SINGLE_WORDS_0, (.str "I" t_SINGLE_WORDS_0), (.str "person" t_SINGLE_WORDS_1)⟩, ⟨h_SINGLE_WORDS_1, (.str "you" t_SINGLE_WORDS_2), (.str "person" t_SINGLE_WORDS_3)⟩, ⟨h_SINGLE_WORDS_2, (.str "self" t_SINGLE_WORDS_4), (.str "person" t_SINGLE_WORDS_5)⟩, ⟨h_SINGLE_WORDS_3, (.str "told" t_SINGLE_WORDS_6), (.str "person" t_SINGLE_WORDS_7)⟩, ⟨h_SINGLE_WORDS_4, (.str "somebody" t_SINGLE_WORDS_8), (.str "person" t_SINGLE_WORDS_9)⟩, ⟨h_SINGLE_WORDS_5, (.str "one day" t_SINGLE_WORDS_10), (.str "day" t_SINGLE_WORDS_11)⟩, ⟨h_SINGLE_WORDS_6, (.str "here" t_SINGLE_WORDS_12), (.str "place" t_SINGLE_WORDS_13)⟩, ⟨h_SINGLE_WORDS_7, (.str "there" t_SINGLE_WORDS_14), (.str "place" t_SINGLE_WORDS_15)⟩, ⟨h_SINGLE_WORDS_8, (.str "somewhere" t_SINGLE_WORDS_16), (.str "place" t_SINGLE_WORDS_17)⟩] n_SINGLE_WORDS, #[]⟩)
    (gs_SINGLE_WORDS : (g_SINGLE_WORDS_a == sysModules) = false)
    (gc_STEP_WORDS : PySem.W.nsIn K mainGlobals "STEP_WORDS" = some (some (.ref g_STEP_WORDS_a)))
    (gl_STEP_WORDS : K.lookup g_STEP_WORDS_a = some ⟨.type "tuple", od_STEP_WORDS, .seq #[(.str "today" t_STEP_WORDS_0), (.str "that day" t_STEP_WORDS_1)] n_STEP_WORDS, sl_STEP_WORDS⟩)
    (gc_WEEKDAY_WORDS : PySem.W.nsIn K mainGlobals "WEEKDAY_WORDS" = some (some (.ref g_WEEKDAY_WORDS_a)))
    (gl_WEEKDAY_WORDS : K.lookup g_WEEKDAY_WORDS_a = some ⟨.type "tuple", od_WEEKDAY_WORDS, .seq #[(.str "coming" t_WEEKDAY_WORDS_0), (.str "last" t_WEEKDAY_WORDS_1), (.str "then coming" t_WEEKDAY_WORDS_2), (.str "then last" t_WEEKDAY_WORDS_3)] n_WEEKDAY_WORDS, sl_WEEKDAY_WORDS⟩)
    (gc_MOST_FIGURES : PySem.W.nsIn K mainGlobals "MOST_FIGURES" = some (some (.int 100 t_MOST_FIGURES_0)))
    (gc_SINGLE_TEXTS : PySem.W.nsIn K mainGlobals "SINGLE_TEXTS" = some (some (.ref g_SINGLE_TEXTS_a)))
    (gl_SINGLE_TEXTS : K.lookup g_SINGLE_TEXTS_a = some ⟨.type "dict", none, .dict #[⟨h_SINGLE_TEXTS_0, (.str "I" t_SINGLE_TEXTS_0), (.str "I" t_SINGLE_TEXTS_1)⟩, ⟨h_SINGLE_TEXTS_1, (.str "you" t_SINGLE_TEXTS_2), (.str "you" t_SINGLE_TEXTS_3)⟩, ⟨h_SINGLE_TEXTS_2, (.str "self" t_SINGLE_TEXTS_4), (.str "self" t_SINGLE_TEXTS_5)⟩, ⟨h_SINGLE_TEXTS_3, (.str "told" t_SINGLE_TEXTS_6), (.str "told" t_SINGLE_TEXTS_7)⟩, ⟨h_SINGLE_TEXTS_4, (.str "somebody" t_SINGLE_TEXTS_8), (.str "somebody" t_SINGLE_TEXTS_9)⟩, ⟨h_SINGLE_TEXTS_5, (.str "one day" t_SINGLE_TEXTS_10), (.str "someday" t_SINGLE_TEXTS_11)⟩, ⟨h_SINGLE_TEXTS_6, (.str "here" t_SINGLE_TEXTS_12), (.str "here" t_SINGLE_TEXTS_13)⟩, ⟨h_SINGLE_TEXTS_7, (.str "there" t_SINGLE_TEXTS_14), (.str "there" t_SINGLE_TEXTS_15)⟩, ⟨h_SINGLE_TEXTS_8, (.str "somewhere" t_SINGLE_TEXTS_16), (.str "somewhere" t_SINGLE_TEXTS_17)⟩] n_SINGLE_TEXTS, #[]⟩)
    (gs_SINGLE_TEXTS : (g_SINGLE_TEXTS_a == sysModules) = false)
    (gc_WORDS_OF_TEXTS : PySem.W.nsIn K mainGlobals "WORDS_OF_TEXTS" = some (some (.ref g_WORDS_OF_TEXTS_a)))
    (gl_WORDS_OF_TEXTS : K.lookup g_WORDS_OF_TEXTS_a = some ⟨.type "dict", none, .dict #[⟨h_WORDS_OF_TEXTS_0, (.str "I" t_WORDS_OF_TEXTS_0), (.str "I" t_WORDS_OF_TEXTS_1)⟩, ⟨h_WORDS_OF_TEXTS_1, (.str "you" t_WORDS_OF_TEXTS_2), (.str "you" t_WORDS_OF_TEXTS_3)⟩, ⟨h_WORDS_OF_TEXTS_2, (.str "self" t_WORDS_OF_TEXTS_4), (.str "self" t_WORDS_OF_TEXTS_5)⟩, ⟨h_WORDS_OF_TEXTS_3, (.str "told" t_WORDS_OF_TEXTS_6), (.str "told" t_WORDS_OF_TEXTS_7)⟩, ⟨h_WORDS_OF_TEXTS_4, (.str "somebody" t_WORDS_OF_TEXTS_8), (.str "somebody" t_WORDS_OF_TEXTS_9)⟩, ⟨h_WORDS_OF_TEXTS_5, (.str "someday" t_WORDS_OF_TEXTS_10), (.str "one day" t_WORDS_OF_TEXTS_11)⟩, ⟨h_WORDS_OF_TEXTS_6, (.str "here" t_WORDS_OF_TEXTS_12), (.str "here" t_WORDS_OF_TEXTS_13)⟩, ⟨h_WORDS_OF_TEXTS_7, (.str "there" t_WORDS_OF_TEXTS_14), (.str "there" t_WORDS_OF_TEXTS_15)⟩, ⟨h_WORDS_OF_TEXTS_8, (.str "somewhere" t_WORDS_OF_TEXTS_16), (.str "somewhere" t_WORDS_OF_TEXTS_17)⟩] n_WORDS_OF_TEXTS, #[]⟩)
    (gs_WORDS_OF_TEXTS : (g_WORDS_OF_TEXTS_a == sysModules) = false)
    (gc_SIGNED_TEXTS : PySem.W.nsIn K mainGlobals "SIGNED_TEXTS" = some (some (.ref g_SIGNED_TEXTS_a)))
    (gl_SIGNED_TEXTS : K.lookup g_SIGNED_TEXTS_a = some ⟨.type "dict", none, .dict #[⟨h_SIGNED_TEXTS_0, (.str "name" t_SIGNED_TEXTS_0), (.str "@" t_SIGNED_TEXTS_1)⟩, ⟨h_SIGNED_TEXTS_1, (.str "place" t_SIGNED_TEXTS_2), (.str "#" t_SIGNED_TEXTS_3)⟩, ⟨h_SIGNED_TEXTS_2, (.str "date" t_SIGNED_TEXTS_4), (.str "=" t_SIGNED_TEXTS_5)⟩] n_SIGNED_TEXTS, #[]⟩)
    (gs_SIGNED_TEXTS : (g_SIGNED_TEXTS_a == sysModules) = false)
    (gc_WEEKDAY_TEXTS : PySem.W.nsIn K mainGlobals "WEEKDAY_TEXTS" = some (some (.ref g_WEEKDAY_TEXTS_a)))
    (gl_WEEKDAY_TEXTS : K.lookup g_WEEKDAY_TEXTS_a = some ⟨.type "dict", none, .dict #[⟨h_WEEKDAY_TEXTS_0, (.str "coming" t_WEEKDAY_TEXTS_0), (.str "coming" t_WEEKDAY_TEXTS_1)⟩, ⟨h_WEEKDAY_TEXTS_1, (.str "last" t_WEEKDAY_TEXTS_2), (.str "last" t_WEEKDAY_TEXTS_3)⟩, ⟨h_WEEKDAY_TEXTS_2, (.str "then coming" t_WEEKDAY_TEXTS_4), (.str "thencoming" t_WEEKDAY_TEXTS_5)⟩, ⟨h_WEEKDAY_TEXTS_3, (.str "then last" t_WEEKDAY_TEXTS_6), (.str "thenlast" t_WEEKDAY_TEXTS_7)⟩] n_WEEKDAY_TEXTS, #[]⟩)
    (gs_WEEKDAY_TEXTS : (g_WEEKDAY_TEXTS_a == sysModules) = false)
    (gc_STEP_TEXTS : PySem.W.nsIn K mainGlobals "STEP_TEXTS" = some (some (.ref g_STEP_TEXTS_a)))
    (gl_STEP_TEXTS : K.lookup g_STEP_TEXTS_a = some ⟨.type "dict", none, .dict #[⟨h_STEP_TEXTS_0, (.str "today" t_STEP_TEXTS_0), (.str "today" t_STEP_TEXTS_1)⟩, ⟨h_STEP_TEXTS_1, (.str "that day" t_STEP_TEXTS_2), (.str "that" t_STEP_TEXTS_3)⟩] n_STEP_TEXTS, #[]⟩)
    (gs_STEP_TEXTS : (g_STEP_TEXTS_a == sysModules) = false)
    (a29 : PySem.W.nsIn K mainGlobals "_law_hand" = some (some (.ref f29)))
    (l29 : K.lookup f29 = some ⟨oc29, od29, .func (PySem.W.fnOf "_law_hand" "_law_hand" (defArgs (top 29)) (defBody (top 29)) (defScope (top 29)) .none kV29 dc29 pm29 an29 cd29 ct29), sl29⟩)
    (c29 : PySem.W.codeIn K cd29 "_law_hand" = true)
    (k29 : PySem.W.keepIn K (.ref f29) = true)
    (a30 : PySem.W.nsIn K mainGlobals "_law_mixed" = some (some (.ref f30)))
    (l30 : K.lookup f30 = some ⟨oc30, od30, .func (PySem.W.fnOf "_law_mixed" "_law_mixed" (defArgs (top 30)) (defBody (top 30)) (defScope (top 30)) .none kV30 dc30 pm30 an30 cd30 ct30), sl30⟩)
    (c30 : PySem.W.codeIn K cd30 "_law_mixed" = true)
    (k30 : PySem.W.keepIn K (.ref f30) = true)
    (a31 : PySem.W.nsIn K mainGlobals "_law_take" = some (some (.ref f31)))
    (l31 : K.lookup f31 = some ⟨oc31, od31, .func (PySem.W.fnOf "_law_take" "_law_take" (defArgs (top 31)) (defBody (top 31)) (defScope (top 31)) .none kV31 dc31 pm31 an31 cd31 ct31), sl31⟩)
    (c31 : PySem.W.codeIn K cd31 "_law_take" = true)
    (k31 : PySem.W.keepIn K (.ref f31) = true)
    (a32 : PySem.W.nsIn K mainGlobals "_law_name" = some (some (.ref f32)))
    (l32 : K.lookup f32 = some ⟨oc32, od32, .func (PySem.W.fnOf "_law_name" "_law_name" (defArgs (top 32)) (defBody (top 32)) (defScope (top 32)) .none kV32 dc32 pm32 an32 cd32 ct32), sl32⟩)
    (c32 : PySem.W.codeIn K cd32 "_law_name" = true)
    (k32 : PySem.W.keepIn K (.ref f32) = true)
    (a33 : PySem.W.nsIn K mainGlobals "_law_names" = some (some (.ref f33)))
    (l33 : K.lookup f33 = some ⟨oc33, od33, .func (PySem.W.fnOf "_law_names" "_law_names" (defArgs (top 33)) (defBody (top 33)) (defScope (top 33)) .none kV33 dc33 pm33 an33 cd33 ct33), sl33⟩)
    (c33 : PySem.W.codeIn K cd33 "_law_names" = true)
    (k33 : PySem.W.keepIn K (.ref f33) = true)
    (a34 : PySem.W.nsIn K mainGlobals "_law_world" = some (some (.ref f34)))
    (l34 : K.lookup f34 = some ⟨oc34, od34, .func (PySem.W.fnOf "_law_world" "_law_world" (defArgs (top 34)) (defBody (top 34)) (defScope (top 34)) .none kV34 dc34 pm34 an34 cd34 ct34), sl34⟩)
    (c34 : PySem.W.codeIn K cd34 "_law_world" = true)
    (k34 : PySem.W.keepIn K (.ref f34) = true)
    (a10 : PySem.W.nsIn K mainGlobals "is_whole" = some (some (.ref f10)))
    (l10 : K.lookup f10 = some ⟨oc10, od10, .func (PySem.W.fnOf "is_whole" "is_whole" (defArgs (top 10)) (defBody (top 10)) (defScope (top 10)) .none kV10 dc10 pm10 an10 cd10 ct10), sl10⟩)
    (c10 : PySem.W.codeIn K cd10 "is_whole" = true)
    (k10 : PySem.W.keepIn K (.ref f10) = true)
    (a11 : PySem.W.nsIn K mainGlobals "is_name" = some (some (.ref f11)))
    (l11 : K.lookup f11 = some ⟨oc11, od11, .func (PySem.W.fnOf "is_name" "is_name" (defArgs (top 11)) (defBody (top 11)) (defScope (top 11)) .none kV11 dc11 pm11 an11 cd11 ct11), sl11⟩)
    (c11 : PySem.W.codeIn K cd11 "is_name" = true)
    (k11 : PySem.W.keepIn K (.ref f11) = true)
    (a12 : PySem.W.nsIn K mainGlobals "find_kind" = some (some (.ref f12)))
    (l12 : K.lookup f12 = some ⟨oc12, od12, .func (PySem.W.fnOf "find_kind" "find_kind" (defArgs (top 12)) (defBody (top 12)) (defScope (top 12)) .none kV12 dc12 pm12 an12 cd12 ct12), sl12⟩)
    (c12 : PySem.W.codeIn K cd12 "find_kind" = true)
    (k12 : PySem.W.keepIn K (.ref f12) = true)
    (a13 : PySem.W.nsIn K mainGlobals "kind_of" = some (some (.ref f13)))
    (l13 : K.lookup f13 = some ⟨oc13, od13, .func (PySem.W.fnOf "kind_of" "kind_of" (defArgs (top 13)) (defBody (top 13)) (defScope (top 13)) .none kV13 dc13 pm13 an13 cd13 ct13), sl13⟩)
    (c13 : PySem.W.codeIn K cd13 "kind_of" = true)
    (k13 : PySem.W.keepIn K (.ref f13) = true)
    (a14 : PySem.W.nsIn K mainGlobals "check_word" = some (some (.ref f14)))
    (l14 : K.lookup f14 = some ⟨oc14, od14, .func (PySem.W.fnOf "check_word" "check_word" (defArgs (top 14)) (defBody (top 14)) (defScope (top 14)) .none kV14 dc14 pm14 an14 cd14 ct14), sl14⟩)
    (c14 : PySem.W.codeIn K cd14 "check_word" = true)
    (k14 : PySem.W.keepIn K (.ref f14) = true)
    (a22 : PySem.W.nsIn K mainGlobals "word_text" = some (some (.ref f22)))
    (l22 : K.lookup f22 = some ⟨oc22, od22, .func (PySem.W.fnOf "word_text" "word_text" (defArgs (top 22)) (defBody (top 22)) (defScope (top 22)) .none kV22 dc22 pm22 an22 cd22 ct22), sl22⟩)
    (c22 : PySem.W.codeIn K cd22 "word_text" = true)
    (k22 : PySem.W.keepIn K (.ref f22) = true)
    (a45 : PySem.W.nsIn K mainGlobals "_law_written" = some (some (.ref f45)))
    (l45 : K.lookup f45 = some ⟨oc45, od45, .func (PySem.W.fnOf "_law_written" "_law_written" (defArgs (top 45)) (defBody (top 45)) (defScope (top 45)) .none kV45 dc45 pm45 an45 cd45 ct45), sl45⟩)
    (c45 : PySem.W.codeIn K cd45 "_law_written" = true)
    (k45 : PySem.W.keepIn K (.ref f45) = true)
    (a46 : PySem.W.nsIn K mainGlobals "_law_number" = some (some (.ref f46)))
    (l46 : K.lookup f46 = some ⟨oc46, od46, .func (PySem.W.fnOf "_law_number" "_law_number" (defArgs (top 46)) (defBody (top 46)) (defScope (top 46)) .none kV46 dc46 pm46 an46 cd46 ct46), sl46⟩)
    (c46 : PySem.W.codeIn K cd46 "_law_number" = true)
    (k46 : PySem.W.keepIn K (.ref f46) = true)
    (a43 : PySem.W.nsIn K mainGlobals "_law_word_text" = some (some (.ref f43)))
    (l43 : K.lookup f43 = some ⟨oc43, od43, .func (PySem.W.fnOf "_law_word_text" "_law_word_text" (defArgs (top 43)) (defBody (top 43)) (defScope (top 43)) .none kV43 dc43 pm43 an43 cd43 ct43), sl43⟩)
    (c43 : PySem.W.codeIn K cd43 "_law_word_text" = true)
    (k43 : PySem.W.keepIn K (.ref f43) = true)
    (a41 : PySem.W.nsIn K mainGlobals "_law_letters" = some (some (.ref f41)))
    (l41 : K.lookup f41 = some ⟨oc41, od41, .func (PySem.W.fnOf "_law_letters" "_law_letters" (defArgs (top 41)) (defBody (top 41)) (defScope (top 41)) .none kV41 dc41 pm41 an41 cd41 ct41), sl41⟩)
    (c41 : PySem.W.codeIn K cd41 "_law_letters" = true)
    (k41 : PySem.W.keepIn K (.ref f41) = true)
    (a47 : PySem.W.nsIn K mainGlobals "_law_due" = some (some (.ref f47)))
    (l47 : K.lookup f47 = some ⟨oc47, od47, .func (PySem.W.fnOf "_law_due" "_law_due" (defArgs (top 47)) (defBody (top 47)) (defScope (top 47)) .none kV47 dc47 pm47 an47 cd47 ct47), sl47⟩)
    (c47 : PySem.W.codeIn K cd47 "_law_due" = true)
    (k47 : PySem.W.keepIn K (.ref f47) = true)
    (a23 : PySem.W.nsIn K mainGlobals "is_figures" = some (some (.ref f23)))
    (l23 : K.lookup f23 = some ⟨oc23, od23, .func (PySem.W.fnOf "is_figures" "is_figures" (defArgs (top 23)) (defBody (top 23)) (defScope (top 23)) .none kV23 dc23 pm23 an23 cd23 ct23), sl23⟩)
    (c23 : PySem.W.codeIn K cd23 "is_figures" = true)
    (k23 : PySem.W.keepIn K (.ref f23) = true)
    (a24 : PySem.W.nsIn K mainGlobals "number_from" = some (some (.ref f24)))
    (l24 : K.lookup f24 = some ⟨oc24, od24, .func (PySem.W.fnOf "number_from" "number_from" (defArgs (top 24)) (defBody (top 24)) (defScope (top 24)) .none kV24 dc24 pm24 an24 cd24 ct24), sl24⟩)
    (c24 : PySem.W.codeIn K cd24 "number_from" = true)
    (k24 : PySem.W.keepIn K (.ref f24) = true)
    (a25 : PySem.W.nsIn K mainGlobals "find_signed" = some (some (.ref f25)))
    (l25 : K.lookup f25 = some ⟨oc25, od25, .func (PySem.W.fnOf "find_signed" "find_signed" (defArgs (top 25)) (defBody (top 25)) (defScope (top 25)) .none kV25 dc25 pm25 an25 cd25 ct25), sl25⟩)
    (c25 : PySem.W.codeIn K cd25 "find_signed" = true)
    (k25 : PySem.W.keepIn K (.ref f25) = true)
    (a26 : PySem.W.nsIn K mainGlobals "find_word" = some (some (.ref f26)))
    (l26 : K.lookup f26 = some ⟨oc26, od26, .func (PySem.W.fnOf "find_word" "find_word" (defArgs (top 26)) (defBody (top 26)) (defScope (top 26)) .none kV26 dc26 pm26 an26 cd26 ct26), sl26⟩)
    (c26 : PySem.W.codeIn K cd26 "find_word" = true)
    (k26 : PySem.W.keepIn K (.ref f26) = true)
    (a27 : PySem.W.nsIn K mainGlobals "read_word" = some (some (.ref f27)))
    (l27 : K.lookup f27 = some ⟨oc27, od27, .func (PySem.W.fnOf "read_word" "read_word" (defArgs (top 27)) (defBody (top 27)) (defScope (top 27)) .none kV27 dc27 pm27 an27 cd27 ct27), sl27⟩)
    (c27 : PySem.W.codeIn K cd27 "read_word" = true)
    (k27 : PySem.W.keepIn K (.ref f27) = true)
    (a44 : PySem.W.nsIn K mainGlobals "_law_read" = some (some (.ref f44)))
    (l44 : K.lookup f44 = some ⟨oc44, od44, .func (PySem.W.fnOf "_law_read" "_law_read" (defArgs (top 44)) (defBody (top 44)) (defScope (top 44)) .none kV44 dc44 pm44 an44 cd44 ct44), sl44⟩)
    (c44 : PySem.W.codeIn K cd44 "_law_read" = true)
    (k44 : PySem.W.keepIn K (.ref f44) = true)
    (a49 : PySem.W.nsIn K mainGlobals "_law_right" = some (some (.ref f49)))
    (l49 : K.lookup f49 = some ⟨oc49, od49, .func (PySem.W.fnOf "_law_right" "_law_right" (defArgs (top 49)) (defBody (top 49)) (defScope (top 49)) .none kV49 dc49 pm49 an49 cd49 ct49), sl49⟩)
    (c49 : PySem.W.codeIn K cd49 "_law_right" = true)
    (k49 : PySem.W.keepIn K (.ref f49) = true)
    (a37 : PySem.W.nsIn K mainGlobals "_law_person" = some (some (.ref f37)))
    (l37 : K.lookup f37 = some ⟨oc37, od37, .func (PySem.W.fnOf "_law_person" "_law_person" (defArgs (top 37)) (defBody (top 37)) (defScope (top 37)) .none kV37 dc37 pm37 an37 cd37 ct37), sl37⟩)
    (c37 : PySem.W.codeIn K cd37 "_law_person" = true)
    (k37 : PySem.W.keepIn K (.ref f37) = true)
    (a39 : PySem.W.nsIn K mainGlobals "_law_place" = some (some (.ref f39)))
    (l39 : K.lookup f39 = some ⟨oc39, od39, .func (PySem.W.fnOf "_law_place" "_law_place" (defArgs (top 39)) (defBody (top 39)) (defScope (top 39)) .none kV39 dc39 pm39 an39 cd39 ct39), sl39⟩)
    (c39 : PySem.W.codeIn K cd39 "_law_place" = true)
    (k39 : PySem.W.keepIn K (.ref f39) = true)
    (a35 : PySem.W.nsIn K mainGlobals "_law_step" = some (some (.ref f35)))
    (l35 : K.lookup f35 = some ⟨oc35, od35, .func (PySem.W.fnOf "_law_step" "_law_step" (defArgs (top 35)) (defBody (top 35)) (defScope (top 35)) .none kV35 dc35 pm35 an35 cd35 ct35), sl35⟩)
    (c35 : PySem.W.codeIn K cd35 "_law_step" = true)
    (k35 : PySem.W.keepIn K (.ref f35) = true)
    (a36 : PySem.W.nsIn K mainGlobals "_law_date" = some (some (.ref f36)))
    (l36 : K.lookup f36 = some ⟨oc36, od36, .func (PySem.W.fnOf "_law_date" "_law_date" (defArgs (top 36)) (defBody (top 36)) (defScope (top 36)) .none kV36 dc36 pm36 an36 cd36 ct36), sl36⟩)
    (c36 : PySem.W.codeIn K cd36 "_law_date" = true)
    (k36 : PySem.W.keepIn K (.ref f36) = true)
    (a38 : PySem.W.nsIn K mainGlobals "_law_day" = some (some (.ref f38)))
    (l38 : K.lookup f38 = some ⟨oc38, od38, .func (PySem.W.fnOf "_law_day" "_law_day" (defArgs (top 38)) (defBody (top 38)) (defScope (top 38)) .none kV38 dc38 pm38 an38 cd38 ct38), sl38⟩)
    (c38 : PySem.W.codeIn K cd38 "_law_day" = true)
    (k38 : PySem.W.keepIn K (.ref f38) = true)
    (a40 : PySem.W.nsIn K mainGlobals "_law_word" = some (some (.ref f40)))
    (l40 : K.lookup f40 = some ⟨oc40, od40, .func (PySem.W.fnOf "_law_word" "_law_word" (defArgs (top 40)) (defBody (top 40)) (defScope (top 40)) .none kV40 dc40 pm40 an40 cd40 ct40), sl40⟩)
    (c40 : PySem.W.codeIn K cd40 "_law_word" = true)
    (k40 : PySem.W.keepIn K (.ref f40) = true)
    (a42 : PySem.W.nsIn K mainGlobals "_law_odd_word" = some (some (.ref f42)))
    (l42 : K.lookup f42 = some ⟨oc42, od42, .func (PySem.W.fnOf "_law_odd_word" "_law_odd_word" (defArgs (top 42)) (defBody (top 42)) (defScope (top 42)) .none kV42 dc42 pm42 an42 cd42 ct42), sl42⟩)
    (c42 : PySem.W.codeIn K cd42 "_law_odd_word" = true)
    (k42 : PySem.W.keepIn K (.ref f42) = true)
    (a48 : PySem.W.nsIn K mainGlobals "_law_near" = some (some (.ref f48)))
    (l48 : K.lookup f48 = some ⟨oc48, od48, .func (PySem.W.fnOf "_law_near" "_law_near" (defArgs (top 48)) (defBody (top 48)) (defScope (top 48)) .none kV48 dc48 pm48 an48 cd48 ct48), sl48⟩)
    (c48 : PySem.W.codeIn K cd48 "_law_near" = true)
    (k48 : PySem.W.keepIn K (.ref f48) = true)
    (a50 : PySem.W.nsIn K mainGlobals "law" = some (some (.ref f50)))
    (l50 : K.lookup f50 = some ⟨oc50, od50, .func (PySem.W.fnOf "law" "law" (defArgs (top 50)) (defBody (top 50)) (defScope (top 50)) .none kV50 dc50 pm50 an50 cd50 ct50), sl50⟩)
    (c50 : PySem.W.codeIn K cd50 "law" = true)
    (k50 : PySem.W.keepIn K (.ref f50) = true)
    (a2_x : PySem.W.findIn K (.ref C2) "__init__" = some (some (.ref f2_x)))
    (l2_x : K.lookup f2_x = some ⟨oc2_x, od2_x, .func (PySem.W.fnOf "__init__" "BadText.__init__" (defArgs (inClass (top 3) 0)) (defBody (inClass (top 3) 0)) (defScope (inClass (top 3) 0)) .none kV2_x dc2_x pm2_x an2_x cd2_x ct2_x), sl2_x⟩)
    (c2_x : PySem.W.codeIn K cd2_x "BadText.__init__" = true)
    (k2_x : PySem.W.keepIn K (.ref f2_x) = true)
    (n2_x : PySem.W.isFn K (.ref f2_x) = true)
    : Txt K mg (fun n => if n = 1 then C1 else if n = 2 then C2 else if n = 0 then C0 else 0) where
  b_all := PySem.W.mg_none_of X G zb_all
  b_bool := PySem.W.mg_none_of X G zb_bool
  b_int := PySem.W.mg_none_of X G zb_int
  b_isinstance := PySem.W.mg_none_of X G zb_isinstance
  b_len := PySem.W.mg_none_of X G zb_len
  b_range := PySem.W.mg_none_of X G zb_range
  b_str := PySem.W.mg_none_of X G zb_str
  b_tuple := PySem.W.mg_none_of X G zb_tuple
  x_BadWord := ⟨xq1, PySem.W.mg_of X G xa1, xk1, xb1, xt1⟩
  x_BadText := ⟨PySem.W.mg_of X G xa2, xk2, xb2, xt2⟩
  xo_BadText := oex_mk xl2 xr2 xs2 xb2 xt2 xk2
  xh_BadText_position := xh2_position
  xh_BadText_what := xh2_what
  d_BadText := dm_mk a2_x l2_x c2_x k2_x n2_x fun _ _ _ _ _ _ us hl => match us, hl with | [_, _, _], _ => rfl
  bi_TalkError := ⟨_, _, PySem.W.mg_of X G xa0, bg0, br0, bv0⟩
  xf_what := ⟨fun c hc => by
    simp only [Bool.or_eq_true, beq_iff_eq, or_assoc] at hc
    rcases hc with rfl
    · exact ⟨⟨ya2, yg2, xb2, yd2⟩, xh2_what⟩⟩
  xf_position := ⟨fun c hc => by
    simp only [Bool.or_eq_true, beq_iff_eq, or_assoc] at hc
    rcases hc with rfl
    · exact ⟨⟨ya2, yg2, xb2, yd2⟩, xh2_position⟩⟩
  sb := sub_all (exm_at xb1 xi1 xt1 xs1_1) (exm_at xb2 xi2 xt2 xs1_2) (exm_at xb1 xi1 xt1 xs2_1) (exm_at xb2 xi2 xt2 xs2_2)
  t_SINGLE_WORDS := ⟨_, PySem.W.mg_of X G gc_SINGLE_WORDS, ⟨gs_SINGLE_WORDS, _, _, gl_SINGLE_WORDS, .cons (.str _ _ (by decide +kernel)) (.cons (.str _ _ (by decide +kernel)) (.cons (.str _ _ (by decide +kernel)) (.cons (.str _ _ (by decide +kernel)) (.cons (.str _ _ (by decide +kernel)) (.cons (.str _ _ (by decide +kernel)) (.cons (.str _ _ (by decide +kernel)) (.cons (.str _ _ (by decide +kernel)) (.cons (.str _ _ (by decide +kernel)) (.nil)))))))))⟩⟩
  t_SINGLE_TEXTS := ⟨_, PySem.W.mg_of X G gc_SINGLE_TEXTS, ⟨gs_SINGLE_TEXTS, _, _, gl_SINGLE_TEXTS, .cons (.str _ _ (by decide +kernel)) (.cons (.str _ _ (by decide +kernel)) (.cons (.str _ _ (by decide +kernel)) (.cons (.str _ _ (by decide +kernel)) (.cons (.str _ _ (by decide +kernel)) (.cons (.str _ _ (by decide +kernel)) (.cons (.str _ _ (by decide +kernel)) (.cons (.str _ _ (by decide +kernel)) (.cons (.str _ _ (by decide +kernel)) (.nil)))))))))⟩⟩
  t_WORDS_OF_TEXTS := ⟨_, PySem.W.mg_of X G gc_WORDS_OF_TEXTS, ⟨gs_WORDS_OF_TEXTS, _, _, gl_WORDS_OF_TEXTS, .cons (.str _ _ (by decide +kernel)) (.cons (.str _ _ (by decide +kernel)) (.cons (.str _ _ (by decide +kernel)) (.cons (.str _ _ (by decide +kernel)) (.cons (.str _ _ (by decide +kernel)) (.cons (.str _ _ (by decide +kernel)) (.cons (.str _ _ (by decide +kernel)) (.cons (.str _ _ (by decide +kernel)) (.cons (.str _ _ (by decide +kernel)) (.nil)))))))))⟩⟩
  t_SIGNED_TEXTS := ⟨_, PySem.W.mg_of X G gc_SIGNED_TEXTS, ⟨gs_SIGNED_TEXTS, _, _, gl_SIGNED_TEXTS, .cons (.str _ _ (by decide +kernel)) (.cons (.str _ _ (by decide +kernel)) (.cons (.str _ _ (by decide +kernel)) (.nil)))⟩⟩
  t_WEEKDAY_TEXTS := ⟨_, PySem.W.mg_of X G gc_WEEKDAY_TEXTS, ⟨gs_WEEKDAY_TEXTS, _, _, gl_WEEKDAY_TEXTS, .cons (.str _ _ (by decide +kernel)) (.cons (.str _ _ (by decide +kernel)) (.cons (.str _ _ (by decide +kernel)) (.cons (.str _ _ (by decide +kernel)) (.nil))))⟩⟩
  t_STEP_TEXTS := ⟨_, PySem.W.mg_of X G gc_STEP_TEXTS, ⟨gs_STEP_TEXTS, _, _, gl_STEP_TEXTS, .cons (.str _ _ (by decide +kernel)) (.cons (.str _ _ (by decide +kernel)) (.nil))⟩⟩
  g_LETTERS := ⟨_, .str "abcdefghijklmnopqrstuvwxyz", PySem.W.mg_of X G gc_LETTERS, ⟨_, rfl⟩, fun _ => .str _ (by decide +kernel)⟩
  g_MOST_STEP := ⟨_, .int 30, PySem.W.mg_of X G gc_MOST_STEP, ⟨_, rfl⟩, fun _ => .int _⟩
  g_STEP_WORDS := ⟨_, .ref g_STEP_WORDS_a, PySem.W.mg_of X G gc_STEP_WORDS, rfl, fun _ => .tup (.inr ⟨_, _, _, gl_STEP_WORDS, rfl, rfl, (by rw [sizeLine_eq]; show 2 ≤ _; decide), .cons (relS _ _) (.cons (relS _ _) (.nil))⟩) (.cons (.str _ (by decide +kernel)) (.cons (.str _ (by decide +kernel)) (.nil)))⟩
  g_WEEKDAY_WORDS := ⟨_, .ref g_WEEKDAY_WORDS_a, PySem.W.mg_of X G gc_WEEKDAY_WORDS, rfl, fun _ => .tup (.inr ⟨_, _, _, gl_WEEKDAY_WORDS, rfl, rfl, (by rw [sizeLine_eq]; show 4 ≤ _; decide), .cons (relS _ _) (.cons (relS _ _) (.cons (relS _ _) (.cons (relS _ _) (.nil))))⟩) (.cons (.str _ (by decide +kernel)) (.cons (.str _ (by decide +kernel)) (.cons (.str _ (by decide +kernel)) (.cons (.str _ (by decide +kernel)) (.nil)))))⟩
  g_MOST_FIGURES := ⟨_, .int 100, PySem.W.mg_of X G gc_MOST_FIGURES, ⟨_, rfl⟩, fun _ => .int _⟩
  d__law_hand := df_mk X G a29 l29 c29 k29 fun _ _ _ _ _ _ us hl => match us, hl with | [_], _ => rfl
  d__law_mixed := df_mk X G a30 l30 c30 k30 fun _ _ _ _ _ _ us hl => match us, hl with | [_, _], _ => rfl
  d__law_take := df_mk X G a31 l31 c31 k31 fun _ _ _ _ _ _ us hl => match us, hl with | [_, _], _ => rfl
  d__law_name := df_mk X G a32 l32 c32 k32 fun _ _ _ _ _ _ us hl => match us, hl with | [_], _ => rfl
  d__law_names := df_mk X G a33 l33 c33 k33 fun _ _ _ _ _ _ us hl => match us, hl with | [_, _], _ => rfl
  d__law_world := df_mk X G a34 l34 c34 k34 fun _ _ _ _ _ _ us hl => match us, hl with | [_], _ => rfl
  d_is_whole := df_mk X G a10 l10 c10 k10 fun _ _ _ _ _ _ us hl => match us, hl with | [_], _ => rfl
  d_is_name := df_mk X G a11 l11 c11 k11 fun _ _ _ _ _ _ us hl => match us, hl with | [_], _ => rfl
  d_find_kind := df_mk X G a12 l12 c12 k12 fun _ _ _ _ _ _ us hl => match us, hl with | [_], _ => rfl
  d_kind_of := df_mk X G a13 l13 c13 k13 fun _ _ _ _ _ _ us hl => match us, hl with | [_], _ => rfl
  d_check_word := df_mk X G a14 l14 c14 k14 fun _ _ _ _ _ _ us hl => match us, hl with | [_], _ => rfl
  d_word_text := df_mk X G a22 l22 c22 k22 fun _ _ _ _ _ _ us hl => match us, hl with | [_], _ => rfl
  d__law_written := df_mk X G a45 l45 c45 k45 fun _ _ _ _ _ _ us hl => match us, hl with | [_], _ => rfl
  d__law_number := df_mk X G a46 l46 c46 k46 fun _ _ _ _ _ _ us hl => match us, hl with | [_], _ => rfl
  d__law_word_text := df_mk X G a43 l43 c43 k43 fun _ _ _ _ _ _ us hl => match us, hl with | [_], _ => rfl
  d__law_letters := df_mk X G a41 l41 c41 k41 fun _ _ _ _ _ _ us hl => match us, hl with | [_], _ => rfl
  d__law_due := df_mk X G a47 l47 c47 k47 fun _ _ _ _ _ _ us hl => match us, hl with | [_], _ => rfl
  d_is_figures := df_mk X G a23 l23 c23 k23 fun _ _ _ _ _ _ us hl => match us, hl with | [_], _ => rfl
  d_number_from := df_mk X G a24 l24 c24 k24 fun _ _ _ _ _ _ us hl => match us, hl with | [_], _ => rfl
  d_find_signed := df_mk X G a25 l25 c25 k25 fun _ _ _ _ _ _ us hl => match us, hl with | [_], _ => rfl
  d_find_word := df_mk X G a26 l26 c26 k26 fun _ _ _ _ _ _ us hl => match us, hl with | [_], _ => rfl
  d_read_word := df_mk X G a27 l27 c27 k27 fun _ _ _ _ _ _ us hl => match us, hl with | [_], _ => rfl
  d__law_read := df_mk X G a44 l44 c44 k44 fun _ _ _ _ _ _ us hl => match us, hl with | [_], _ => rfl
  d__law_right := df_mk X G a49 l49 c49 k49 fun _ _ _ _ _ _ us hl => match us, hl with | [_], _ => rfl
  d__law_person := df_mk X G a37 l37 c37 k37 fun _ _ _ _ _ _ us hl => match us, hl with | [_, _, _], _ => rfl
  d__law_place := df_mk X G a39 l39 c39 k39 fun _ _ _ _ _ _ us hl => match us, hl with | [_, _, _], _ => rfl
  d__law_step := df_mk X G a35 l35 c35 k35 fun _ _ _ _ _ _ us hl => match us, hl with | [_], _ => rfl
  d__law_date := df_mk X G a36 l36 c36 k36 fun _ _ _ _ _ _ us hl => match us, hl with | [_], _ => rfl
  d__law_day := df_mk X G a38 l38 c38 k38 fun _ _ _ _ _ _ us hl => match us, hl with | [_, _], _ => rfl
  d__law_word := df_mk X G a40 l40 c40 k40 fun _ _ _ _ _ _ us hl => match us, hl with | [_, _, _], _ => rfl
  d__law_odd_word := df_mk X G a42 l42 c42 k42 fun _ _ _ _ _ _ us hl => match us, hl with | [_], _ => rfl
  d__law_near := df_mk X G a48 l48 c48 k48 fun _ _ _ _ _ _ us hl => match us, hl with | [_, _], _ => rfl
  d_law := df_mk X G a50 l50 c50 k50 fun _ _ _ _ _ _ us hl => match us, hl with | [_], _ => rfl
theorem end_mk {P : Program} {w : World} {K : PySem.W.Frag} {mg : Str → Option Value} {C : Nat → Addr} (T : Txt K mg C) : ∃ (C : Nat → Addr) (st : Stmt) (df : Df K mg "law" st ["_law_script"]), ∀ base : Heap, FnOk P w K mg base (L2.CX P w) 8 df.f df.fd ["_law_script"] (spF K C 1 m_law) := ⟨C, _, T.d_law, fun base => k_all T⟩
end L08
namespace L08.H
open PySem PySem.Spec PyProof.Rows L2 L08 Rf
theorem data {h : Heap} {mg : Str → Option Value} {K : Hd.Fr} (X : K.In h) (c : Hd.SaysX fs ds K) (G : h.Ns mainGlobals mg) : ∃ C, Txt K mg C := ⟨_, txt_mk X G (Hd.nsL_eq.symm.trans (Hd.isO_ok (c.fact 0 rfl))) (Hd.nsL_eq.symm.trans (Hd.isO_ok (c.fact 1 rfl))) (Hd.nsL_eq.symm.trans (Hd.isO_ok (c.fact 2 rfl))) (Hd.nsL_eq.symm.trans (Hd.isO_ok (c.fact 3 rfl))) (Hd.nsL_eq.symm.trans (Hd.isO_ok (c.fact 4 rfl))) (Hd.nsL_eq.symm.trans (Hd.isO_ok (c.fact 5 rfl))) (Hd.nsL_eq.symm.trans (Hd.isO_ok (c.fact 6 rfl))) (Hd.nsL_eq.symm.trans (Hd.isO_ok (c.fact 7 rfl))) (Hd.nsL_eq.symm.trans (Hd.isO_ok (c.fact 8 rfl))) ((c.fact 9 rfl)) ((c.fact 10 rfl)) (Hd.isB_ok (c.fact 11 rfl)) (Hd.isV_ok (c.fact 12 rfl)) ((c.fact 13 rfl)) (Hd.nsL_eq.symm.trans (Hd.isO_ok (c.fact 14 rfl))) ((c.fact 15 rfl)) (Hd.isB_ok (c.fact 16 rfl)) (Hd.isV_ok (c.fact 17 rfl)) ((c.fact 18 rfl)) (Hd.exc_ok (c.fact 19 rfl)) ((c.fact 20 rfl)) (Hd.isO_ok (c.fact 21 rfl)) (Hd.isO_ok (c.fact 22 rfl)) (Hd.isO_ok (c.fact 23 rfl)) (Hd.nsL_eq.symm.trans (Hd.isO_ok (c.fact 24 rfl))) (Hd.isO_ok (c.fact 25 rfl)) ((c.fact 26 rfl)) (Hd.isF_ok (c.fact 27 rfl)) (Hd.isO_ok (c.fact 28 rfl)) (Hd.isO_ok (c.fact 29 rfl)) ((c.fact 30 rfl)) (Hd.isB_ok (c.fact 31 rfl)) (Hd.isB_ok (c.fact 32 rfl)) (Hd.isB_ok (c.fact 33 rfl)) (Hd.isB_ok (c.fact 34 rfl)) (Hd.gv_ok (c.fact 35 rfl)) (Hd.gv_ok (c.fact 36 rfl)) (Hd.nsL_eq.symm.trans (Hd.isO_ok (c.fact 37 rfl))) (Hd.dic_ok (c.fact 38 rfl)) (Hd.not_ok (c.fact 39 rfl)) (Hd.nsL_eq.symm.trans (Hd.isO_ok (c.fact 40 rfl))) (Hd.tup_ok (c.fact 41 rfl)) (Hd.nsL_eq.symm.trans (Hd.isO_ok (c.fact 42 rfl))) (Hd.tup_ok (c.fact 43 rfl)) (Hd.gv_ok (c.fact 44 rfl)) (Hd.nsL_eq.symm.trans (Hd.isO_ok (c.fact 45 rfl))) (Hd.dic_ok (c.fact 46 rfl)) (Hd.not_ok (c.fact 47 rfl)) (Hd.nsL_eq.symm.trans (Hd.isO_ok (c.fact 48 rfl))) (Hd.dic_ok (c.fact 49 rfl)) (Hd.not_ok (c.fact 50 rfl)) (Hd.nsL_eq.symm.trans (Hd.isO_ok (c.fact 51 rfl))) (Hd.dic_ok (c.fact 52 rfl)) (Hd.not_ok (c.fact 53 rfl)) (Hd.nsL_eq.symm.trans (Hd.isO_ok (c.fact 54 rfl))) (Hd.dic_ok (c.fact 55 rfl)) (Hd.not_ok (c.fact 56 rfl)) (Hd.nsL_eq.symm.trans (Hd.isO_ok (c.fact 57 rfl))) (Hd.dic_ok (c.fact 58 rfl)) (Hd.not_ok (c.fact 59 rfl)) (Hd.nsL_eq.symm.trans (Hd.isO_ok (c.fact 60 rfl))) (Hd.fn_no (a := (A_f29 (Hd.lk K))) (n := "_law_hand") (q := "_law_hand") (pr := defArgs (top 29)) (bd := defBody (top 29)) (sc := defScope (top 29)) (c.fn_ 0 (d := F_0) rfl) (c.fact 61 rfl)) (Hd.codeL_eq.symm.trans (c.fact 62 rfl)) (Hd.keepL_ok (c.fact 63 rfl)) (Hd.nsL_eq.symm.trans (Hd.isO_ok (c.fact 64 rfl))) (Hd.fn_no (a := (A_f30 (Hd.lk K))) (n := "_law_mixed") (q := "_law_mixed") (pr := defArgs (top 30)) (bd := defBody (top 30)) (sc := defScope (top 30)) (c.fn_ 1 (d := F_1) rfl) (c.fact 65 rfl)) (Hd.codeL_eq.symm.trans (c.fact 66 rfl)) (Hd.keepL_ok (c.fact 67 rfl)) (Hd.nsL_eq.symm.trans (Hd.isO_ok (c.fact 68 rfl))) (Hd.fn_no (a := (A_f31 (Hd.lk K))) (n := "_law_take") (q := "_law_take") (pr := defArgs (top 31)) (bd := defBody (top 31)) (sc := defScope (top 31)) (c.fn_ 2 (d := F_2) rfl) (c.fact 69 rfl)) (Hd.codeL_eq.symm.trans (c.fact 70 rfl)) (Hd.keepL_ok (c.fact 71 rfl)) (Hd.nsL_eq.symm.trans (Hd.isO_ok (c.fact 72 rfl))) (Hd.fn_no (a := (A_f32 (Hd.lk K))) (n := "_law_name") (q := "_law_name") (pr := defArgs (top 32)) (bd := defBody (top 32)) (sc := defScope (top 32)) (c.fn_ 3 (d := F_3) rfl) (c.fact 73 rfl)) (Hd.codeL_eq.symm.trans (c.fact 74 rfl)) (Hd.keepL_ok (c.fact 75 rfl)) (Hd.nsL_eq.symm.trans (Hd.isO_ok (c.fact 76 rfl))) (Hd.fn_no (a := (A_f33 (Hd.lk K))) (n := "_law_names") (q := "_law_names") (pr := defArgs (top 33)) (bd := defBody (top 33)) (sc := defScope (top 33)) (c.fn_ 4 (d := F_4) rfl) (c.fact 77 rfl)) (Hd.codeL_eq.symm.trans (c.fact 78 rfl)) (Hd.keepL_ok (c.fact 79 rfl)) (Hd.nsL_eq.symm.trans (Hd.isO_ok (c.fact 80 rfl))) (Hd.fn_no (a := (A_f34 (Hd.lk K))) (n := "_law_world") (q := "_law_world") (pr := defArgs (top 34)) (bd := defBody (top 34)) (sc := defScope (top 34)) (c.fn_ 5 (d := F_5) rfl) (c.fact 81 rfl)) (Hd.codeL_eq.symm.trans (c.fact 82 rfl)) (Hd.keepL_ok (c.fact 83 rfl)) (Hd.nsL_eq.symm.trans (Hd.isO_ok (c.fact 84 rfl))) (Hd.fn_no (a := (A_f10 (Hd.lk K))) (n := "is_whole") (q := "is_whole") (pr := defArgs (top 10)) (bd := defBody (top 10)) (sc := defScope (top 10)) (c.fn_ 6 (d := F_6) rfl) (c.fact 85 rfl)) (Hd.codeL_eq.symm.trans (c.fact 86 rfl)) (Hd.keepL_ok (c.fact 87 rfl)) (Hd.nsL_eq.symm.trans (Hd.isO_ok (c.fact 88 rfl))) (Hd.fn_no (a := (A_f11 (Hd.lk K))) (n := "is_name") (q := "is_name") (pr := defArgs (top 11)) (bd := defBody (top 11)) (sc := defScope (top 11)) (c.fn_ 7 (d := F_7) rfl) (c.fact 89 rfl)) (Hd.codeL_eq.symm.trans (c.fact 90 rfl)) (Hd.keepL_ok (c.fact 91 rfl)) (Hd.nsL_eq.symm.trans (Hd.isO_ok (c.fact 92 rfl))) (Hd.fn_no (a := (A_f12 (Hd.lk K))) (n := "find_kind") (q := "find_kind") (pr := defArgs (top 12)) (bd := defBody (top 12)) (sc := defScope (top 12)) (c.fn_ 8 (d := F_8) rfl) (c.fact 93 rfl)) (Hd.codeL_eq.symm.trans (c.fact 94 rfl)) (Hd.keepL_ok (c.fact 95 rfl)) (Hd.nsL_eq.symm.trans (Hd.isO_ok (c.fact 96 rfl))) (Hd.fn_no (a := (A_f13 (Hd.lk K))) (n := "kind_of") (q := "kind_of") (pr := defArgs (top 13)) (bd := defBody (top 13)) (sc := defScope (top 13)) (c.fn_ 9 (d := F_9) rfl) (c.fact 97 rfl)) (Hd.codeL_eq.symm.trans (c.fact 98 rfl)) (Hd.keepL_ok (c.fact 99 rfl)) (Hd.nsL_eq.symm.trans (Hd.isO_ok (c.fact 100 rfl))) (Hd.fn_no (a := (A_f14 (Hd.lk K))) (n := "check_word") (q := "check_word") (pr := defArgs (top 14)) (bd := defBody (top 14)) (sc := defScope (top 14)) (c.fn_ 10 (d := F_10) rfl) (c.fact 101 rfl)) (Hd.codeL_eq.symm.trans (c.fact 102 rfl)) (Hd.keepL_ok (c.fact 103 rfl)) (Hd.nsL_eq.symm.trans (Hd.isO_ok (c.fact 104 rfl))) (Hd.fn_no (a := (A_f22 (Hd.lk K))) (n := "word_text") (q := "word_text") (pr := defArgs (top 22)) (bd := defBody (top 22)) (sc := defScope (top 22)) (c.fn_ 11 (d := F_11) rfl) (c.fact 105 rfl)) (Hd.codeL_eq.symm.trans (c.fact 106 rfl)) (Hd.keepL_ok (c.fact 107 rfl)) (Hd.nsL_eq.symm.trans (Hd.isO_ok (c.fact 108 rfl))) (Hd.fn_no (a := (A_f45 (Hd.lk K))) (n := "_law_written") (q := "_law_written") (pr := defArgs (top 45)) (bd := defBody (top 45)) (sc := defScope (top 45)) (c.fn_ 12 (d := F_12) rfl) (c.fact 109 rfl)) (Hd.codeL_eq.symm.trans (c.fact 110 rfl)) (Hd.keepL_ok (c.fact 111 rfl)) (Hd.nsL_eq.symm.trans (Hd.isO_ok (c.fact 112 rfl))) (Hd.fn_no (a := (A_f46 (Hd.lk K))) (n := "_law_number") (q := "_law_number") (pr := defArgs (top 46)) (bd := defBody (top 46)) (sc := defScope (top 46)) (c.fn_ 13 (d := F_13) rfl) (c.fact 113 rfl)) (Hd.codeL_eq.symm.trans (c.fact 114 rfl)) (Hd.keepL_ok (c.fact 115 rfl)) (Hd.nsL_eq.symm.trans (Hd.isO_ok (c.fact 116 rfl))) (Hd.fn_no (a := (A_f43 (Hd.lk K))) (n := "_law_word_text") (q := "_law_word_text") (pr := defArgs (top 43)) (bd := defBody (top 43)) (sc := defScope (top 43)) (c.fn_ 14 (d := F_14) rfl) (c.fact 117 rfl)) (Hd.codeL_eq.symm.trans (c.fact 118 rfl)) (Hd.keepL_ok (c.fact 119 rfl)) (Hd.nsL_eq.symm.trans (Hd.isO_ok (c.fact 120 rfl))) (Hd.fn_no (a := (A_f41 (Hd.lk K))) (n := "_law_letters") (q := "_law_letters") (pr := defArgs (top 41)) (bd := defBody (top 41)) (sc := defScope (top 41)) (c.fn_ 15 (d := F_15) rfl) (c.fact 121 rfl)) (Hd.codeL_eq.symm.trans (c.fact 122 rfl)) (Hd.keepL_ok (c.fact 123 rfl)) (Hd.nsL_eq.symm.trans (Hd.isO_ok (c.fact 124 rfl))) (Hd.fn_no (a := (A_f47 (Hd.lk K))) (n := "_law_due") (q := "_law_due") (pr := defArgs (top 47)) (bd := defBody (top 47)) (sc := defScope (top 47)) (c.fn_ 16 (d := F_16) rfl) (c.fact 125 rfl)) (Hd.codeL_eq.symm.trans (c.fact 126 rfl)) (Hd.keepL_ok (c.fact 127 rfl)) (Hd.nsL_eq.symm.trans (Hd.isO_ok (c.fact 128 rfl))) (Hd.fn_no (a := (A_f23 (Hd.lk K))) (n := "is_figures") (q := "is_figures") (pr := defArgs (top 23)) (bd := defBody (top 23)) (sc := defScope (top 23)) (c.fn_ 17 (d := F_17) rfl) (c.fact 129 rfl)) (Hd.codeL_eq.symm.trans (c.fact 130 rfl)) (Hd.keepL_ok (c.fact 131 rfl)) (Hd.nsL_eq.symm.trans (Hd.isO_ok (c.fact 132 rfl))) (Hd.fn_no (a := (A_f24 (Hd.lk K))) (n := "number_from") (q := "number_from") (pr := defArgs (top 24)) (bd := defBody (top 24)) (sc := defScope (top 24)) (c.fn_ 18 (d := F_18) rfl) (c.fact 133 rfl)) (Hd.codeL_eq.symm.trans (c.fact 134 rfl)) (Hd.keepL_ok (c.fact 135 rfl)) (Hd.nsL_eq.symm.trans (Hd.isO_ok (c.fact 136 rfl))) (Hd.fn_no (a := (A_f25 (Hd.lk K))) (n := "find_signed") (q := "find_signed") (pr := defArgs (top 25)) (bd := defBody (top 25)) (sc := defScope (top 25)) (c.fn_ 19 (d := F_19) rfl) (c.fact 137 rfl)) (Hd.codeL_eq.symm.trans (c.fact 138 rfl)) (Hd.keepL_ok (c.fact 139 rfl)) (Hd.nsL_eq.symm.trans (Hd.isO_ok (c.fact 140 rfl))) (Hd.fn_no (a := (A_f26 (Hd.lk K))) (n := "find_word") (q := "find_word") (pr := defArgs (top 26)) (bd := defBody (top 26)) (sc := defScope (top 26)) (c.fn_ 20 (d := F_20) rfl) (c.fact 141 rfl)) (Hd.codeL_eq.symm.trans (c.fact 142 rfl)) (Hd.keepL_ok (c.fact 143 rfl)) (Hd.nsL_eq.symm.trans (Hd.isO_ok (c.fact 144 rfl))) (Hd.fn_no (a := (A_f27 (Hd.lk K))) (n := "read_word") (q := "read_word") (pr := defArgs (top 27)) (bd := defBody (top 27)) (sc := defScope (top 27)) (c.fn_ 21 (d := F_21) rfl) (c.fact 145 rfl)) (Hd.codeL_eq.symm.trans (c.fact 146 rfl)) (Hd.keepL_ok (c.fact 147 rfl)) (Hd.nsL_eq.symm.trans (Hd.isO_ok (c.fact 148 rfl))) (Hd.fn_no (a := (A_f44 (Hd.lk K))) (n := "_law_read") (q := "_law_read") (pr := defArgs (top 44)) (bd := defBody (top 44)) (sc := defScope (top 44)) (c.fn_ 22 (d := F_22) rfl) (c.fact 149 rfl)) (Hd.codeL_eq.symm.trans (c.fact 150 rfl)) (Hd.keepL_ok (c.fact 151 rfl)) (Hd.nsL_eq.symm.trans (Hd.isO_ok (c.fact 152 rfl))) (Hd.fn_no (a := (A_f49 (Hd.lk K))) (n := "_law_right") (q := "_law_right") (pr := defArgs (top 49)) (bd := defBody (top 49)) (sc := defScope (top 49)) (c.fn_ 23 (d := F_23) rfl) (c.fact 153 rfl)) (Hd.codeL_eq.symm.trans (c.fact 154 rfl)) (Hd.keepL_ok (c.fact 155 rfl)) (Hd.nsL_eq.symm.trans (Hd.isO_ok (c.fact 156 rfl))) (Hd.fn_no (a := (A_f37 (Hd.lk K))) (n := "_law_person") (q := "_law_person") (pr := defArgs (top 37)) (bd := defBody (top 37)) (sc := defScope (top 37)) (c.fn_ 24 (d := F_24) rfl) (c.fact 157 rfl)) (Hd.codeL_eq.symm.trans (c.fact 158 rfl)) (Hd.keepL_ok (c.fact 159 rfl)) (Hd.nsL_eq.symm.trans (Hd.isO_ok (c.fact 160 rfl))) (Hd.fn_no (a := (A_f39 (Hd.lk K))) (n := "_law_place") (q := "_law_place") (pr := defArgs (top 39)) (bd := defBody (top 39)) (sc := defScope (top 39)) (c.fn_ 25 (d := F_25) rfl) (c.fact 161 rfl)) (Hd.codeL_eq.symm.trans (c.fact 162 rfl)) (Hd.keepL_ok (c.fact 163 rfl)) (Hd.nsL_eq.symm.trans (Hd.isO_ok (c.fact 164 rfl))) (Hd.fn_no (a := (A_f35 (Hd.lk K))) (n := "_law_step") (q := "_law_step") (pr := defArgs (top 35)) (bd := defBody (top 35)) (sc := defScope (top 35)) (c.fn_ 26 (d := F_26) rfl) (c.fact 165 rfl)) (Hd.codeL_eq.symm.trans (c.fact 166 rfl)) (Hd.keepL_ok (c.fact 167 rfl)) (Hd.nsL_eq.symm.trans (Hd.isO_ok (c.fact 168 rfl))) (Hd.fn_no (a := (A_f36 (Hd.lk K))) (n := "_law_date") (q := "_law_date") (pr := defArgs (top 36)) (bd := defBody (top 36)) (sc := defScope (top 36)) (c.fn_ 27 (d := F_27) rfl) (c.fact 169 rfl)) (Hd.codeL_eq.symm.trans (c.fact 170 rfl)) (Hd.keepL_ok (c.fact 171 rfl)) (Hd.nsL_eq.symm.trans (Hd.isO_ok (c.fact 172 rfl))) (Hd.fn_no (a := (A_f38 (Hd.lk K))) (n := "_law_day") (q := "_law_day") (pr := defArgs (top 38)) (bd := defBody (top 38)) (sc := defScope (top 38)) (c.fn_ 28 (d := F_28) rfl) (c.fact 173 rfl)) (Hd.codeL_eq.symm.trans (c.fact 174 rfl)) (Hd.keepL_ok (c.fact 175 rfl)) (Hd.nsL_eq.symm.trans (Hd.isO_ok (c.fact 176 rfl))) (Hd.fn_no (a := (A_f40 (Hd.lk K))) (n := "_law_word") (q := "_law_word") (pr := defArgs (top 40)) (bd := defBody (top 40)) (sc := defScope (top 40)) (c.fn_ 29 (d := F_29) rfl) (c.fact 177 rfl)) (Hd.codeL_eq.symm.trans (c.fact 178 rfl)) (Hd.keepL_ok (c.fact 179 rfl)) (Hd.nsL_eq.symm.trans (Hd.isO_ok (c.fact 180 rfl))) (Hd.fn_no (a := (A_f42 (Hd.lk K))) (n := "_law_odd_word") (q := "_law_odd_word") (pr := defArgs (top 42)) (bd := defBody (top 42)) (sc := defScope (top 42)) (c.fn_ 30 (d := F_30) rfl) (c.fact 181 rfl)) (Hd.codeL_eq.symm.trans (c.fact 182 rfl)) (Hd.keepL_ok (c.fact 183 rfl)) (Hd.nsL_eq.symm.trans (Hd.isO_ok (c.fact 184 rfl))) (Hd.fn_no (a := (A_f48 (Hd.lk K))) (n := "_law_near") (q := "_law_near") (pr := defArgs (top 48)) (bd := defBody (top 48)) (sc := defScope (top 48)) (c.fn_ 31 (d := F_31) rfl) (c.fact 185 rfl)) (Hd.codeL_eq.symm.trans (c.fact 186 rfl)) (Hd.keepL_ok (c.fact 187 rfl)) (Hd.nsL_eq.symm.trans (Hd.isO_ok (c.fact 188 rfl))) (Hd.fn_no (a := (A_f50 (Hd.lk K))) (n := "law") (q := "law") (pr := defArgs (top 50)) (bd := defBody (top 50)) (sc := defScope (top 50)) (c.fn_ 32 (d := F_32) rfl) (c.fact 189 rfl)) (Hd.codeL_eq.symm.trans (c.fact 190 rfl)) (Hd.keepL_ok (c.fact 191 rfl)) (Hd.isO_ok (c.fact 192 rfl)) (Hd.fn_no (a := (A_f2_x (Hd.lk K))) (n := "__init__") (q := "BadText.__init__") (pr := defArgs (inClass (top 3) 0)) (bd := defBody (inClass (top 3) 0)) (sc := defScope (inClass (top 3) 0)) (c.fn_ 33 (d := F_33) rfl) (c.fact 193 rfl)) (Hd.codeL_eq.symm.trans (c.fact 194 rfl)) (Hd.keepL_ok (c.fact 195 rfl)) (Hd.isFL_eq.symm.trans (c.fact 196 rfl))⟩
end L08.H
open PySem PySem.W PySem.Calls PyProof.Rows
set_option maxHeartbeats 0 in
theorem PySem.Challenge.cw_whosetomorrow_k08_whole_texts_of_words_holds : PySem.Challenge.rw_whosetomorrow_k08_whole_texts_of_words.Holds := by
  w_on; o_law
  refine HandSHeadRun.head_any (r := OpenLaw.row PySem.Challenge.rw_whosetomorrow_k08_whole_texts_of_words) (q := view (OpenLaw.row PySem.Challenge.rw_whosetomorrow_k08_whole_texts_of_words).prog [50]) (H := L08.H.hk) (ob := L08.H.ob) (M := 60000) (loose := L08.H.names) (d := HandSHeadRun.topDef (OpenLaw.row PySem.Challenge.rw_whosetomorrow_k08_whole_texts_of_words).prog 50) (kwd := []) L08.H.ob_eq (by kernel_rfl) (fun s => by kernel_rfl) L08.H.run (by kernel_rfl) (by kernel_rfl) (by kernel_rfl) (by rfl) (by first | assumption | decide +kernel) (by decide +kernel) ⟨rfl, rfl, rfl, rfl, rfl, by decide +kernel⟩ ?hw ?hc
  case hw => w_witness2
  case hc =>
    refine Hd.walk_endX (l := PySem.Challenge.rw_whosetomorrow_k08_whole_texts_of_words) (k := 8) (F := L08.m_law) rfl (by kernel_rfl) (by kernel_rfl) ⟨rfl, by decide, by decide⟩ (fun w mg h K X c G => (L08.H.data X c G).elim fun _ T => L08.end_mk T) L08.law_true
