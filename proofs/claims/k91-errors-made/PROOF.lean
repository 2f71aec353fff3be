import PyProof.Rows.All
import Wide.All
import OpenK.AllK
import HandS.Base
import HandS.Call
import Wide.FinOn
import HandS.Ends
import HandS.Head0
import HandS.Head1
import HandS.Head2
import HandS.HeadEnd
import HandS.HeadHook1
import HandS.HeadHook2
import HandS.HeadHook4
import HandS.Words
import HandS.ExcIs
import HandS.ForMost
import HandS.Wide
import HandS.WideBits
import HandS.TupAny
import HandS.TupMul
import HandS.IsInst
import HandS.Style
import HandS.Flow
import HandS.Lambda
import HandS.Exc
import HandS.SortRule
import HandS.SortInts
import HandS.Property
import HandS.SlotsOwn
import HandS.Star
import PyProof.InstEq
import HandS.Strs
import HandS.SetFor
import HandS.Zip
import KE.GoesMore
import KE.DataMinMax
import KE.SortData
import HandS.More
import HandS.Conv
import HandS.OwnEq
import PyProof.EqKinds
import HandS.Nested
import HandS.ExcCtx
import HandS.HotCalls
import HandS.Text
import HandS.ExcBuiltin
import KE.KOpsOwn
import HandS.ExcValue
import HandS.ExcInit
import HandS.ExcField
import KE.KExcIs
import KE.KDictZip
import HandS.Dict
import HandS.TryOnly
import PySem.Challenge.RW_greenroads_k91_errors_made
set_option Elab.async false
set_option linter.all false
set_option maxRecDepth 100000
set_option maxHeartbeats 2000000
set_option autoImplicit false
namespace DL
open PySem PySem.Spec PyProof.Rows L2
def LAMS : List Str := ["Road.__call__", "drive", "Net.way_from", "Net.passages_without", "arrival_by_changes", "drive_with", "net_earliest", "net_courses"]
def tabF (x y : Option Value) : Option (Addr × Str) := match x, y with
  | some (.str q _), some (.ref P) => if LAMS.contains q then some (P, q ++ ".<locals>." ++ "<lambda>") else none
  | _, _ => none
def tabOf (o : Obj) : Option (Addr × Str) := match o.cls, o.data with
  | .type "code", .fields vs => tabF vs[1]? vs[11]?
  | _, _ => none
def tabsK (K : PySem.W.Frag) : List (Addr × Str) := K.filterMap fun p => tabOf p.2
structure TabsOk (h : Heap) (K : PySem.W.Frag) : Prop where
  nice : ∀ p ∈ K, K.lookup p.1 = some p.2
  out : ∀ p ∈ tabsK K, K.lookup p.1 = none
  emp : ∀ p ∈ tabsK K, h.get? p.1 = some { cls := .none, data := .fields #[] }
theorem tabsK_mem {K : PySem.W.Frag} {p : Addr × Str} (hn : ∀ p ∈ K, K.lookup p.1 = some p.2) (h : p ∈ tabsK K) : ∃ (c : Addr) (o : Obj) (vs : Array Value) (q : Str) (t : Tok), K.lookup c = some o ∧ o.cls = .type "code" ∧ o.data = .fields vs ∧ vs[1]? = some (.str q t) ∧ vs[11]? = some (.ref p.1) ∧ LAMS.contains q = true ∧ p.2 = q ++ ".<locals>." ++ "<lambda>" := by
  obtain ⟨x, hm, h2⟩ := List.mem_filterMap.mp h
  have ho := hn x hm
  unfold tabOf at h2
  split at h2
  · rename_i vs e1 e2
    unfold tabF at h2
    split at h2
    · rename_i q t P f1 f2
      split at h2
      · rename_i hq
        cases h2
        exact ⟨_, _, vs, q, t, ho, e1, e2, f1, f2, hq, rfl⟩
      · cases h2
    · cases h2
  · cases h2
def tabP (K : PySem.W.Frag) (cdv : Value) : Addr := match cdv with
  | .ref c => (match K.lookup c with
    | some o => (match tabOf o with
      | some p => p.1
      | none => 0)
    | none => 0)
  | _ => 0
end DL
set_option maxHeartbeats 2000000
set_option autoImplicit false
namespace DL
open PySem PySem.Spec PyProof.Rows L2
namespace Hk
abbrev FrK := PySem.W.Frag
def fdA (K : FrK) (a : Addr) : Option FuncData := (K.lookup a).bind fun o => match o.data with
  | .func fd => some fd
  | _ => none
abbrev Sn := Option ((Str × Str) × (Arguments × FuncBody) × (Scope × Addr) × List (Str × Addr) × Addr)
def seeF (fd : FuncData) : (Str × Str) × (Arguments × FuncBody) × (Scope × Addr) × List (Str × Addr) × Addr := ((fd.name, fd.qualname), (fd.params, fd.body), (fd.scope, fd.globals), fd.closure, fd.builtins)
structure FnC where
  adr : FrK → Addr
  name : Str
  qual : Str
  st : Stmt
def isNo : Value → Bool
  | .none => true
  | _ => false
def FnC.due (d : FnC) : Sn := some ((d.name, d.qual), (defArgs d.st, .stmts (defBody d.st)), (defScope d.st, mainGlobals), [], builtinsNs)
def FnC.seen (K : FrK) (d : FnC) : Sn := (fdA K (d.adr K)).map seeF
def FnC.good (K : FrK) (d : FnC) : Bool := PySem.W.keepIn K (.ref (d.adr K)) && (match fdA K (d.adr K) with
  | some fd => PySem.W.codeIn K fd.code d.qual && isNo fd.defaults
  | none => false)
abbrev ObC := Bool × List Sn
def obsC (fa : List He.Fa) (ck : List (FrK → Bool)) (fn : List FnC) (K : FrK) : ObC := ((fa.all fun f => f.ok K) && ((ck.all fun c => c K) && fn.all fun d => d.good K), fn.map fun d => d.seen K)
def dueC (fn : List FnC) : ObC := (true, fn.map FnC.due)
def SaysC (fa : List He.Fa) (ck : List (FrK → Bool)) (fn : List FnC) (K : FrK) : Prop := obsC fa ck fn K = dueC fn
def tabsB2 (g : Addr → Option Obj) (K : FrK) : Bool := (tabsK K).all fun p => match g p.1 with
  | some o => He.emptyTab o
  | none => false
def obsC2 (g : Addr → Option Obj) (fa : List He.Fa) (ck : List (FrK → Bool)) (fn : List FnC) (K : FrK) : ObC := (((fa.all fun f => f.ok K) && ((ck.all fun c => c K) && fn.all fun d => d.good K)) && tabsB2 g K, fn.map fun d => d.seen K)
abbrev AsF := (Addr → Option Obj) → List Addr
def addR : List Addr → Nat → List Addr → List Addr × Nat
  | [], v, acc => (acc, v)
  | a :: r, v, acc => match Nat.beq (Nat.land (Nat.shiftRight v a) 1) 1 with
    | true => addR r v acc
    | false => addR r (Nat.lor v (Nat.shiftLeft 1 a)) (a :: acc)
def stepR (g : Addr → Option Obj) : List Addr → Nat → List Addr → List Addr × Nat
  | [], v, acc => (acc, v)
  | a :: fr, v, acc => match g a with
    | some o => match addR (He.refsD o) v acc with
      | (acc', v') => stepR g fr v' acc'
    | none => stepR g fr v acc
def bfsR (g : Addr → Option Obj) : Nat → List Addr → Nat → List Addr
  | 0, fr, _ => fr
  | n + 1, fr, v => match stepR g fr v [] with
    | (fr', v') => fr ++ bfsR g n fr' v'
def asB (n : Nat) : AsF := fun g => bfsR g n [mainGlobals] (Nat.shiftLeft 1 mainGlobals)
def obsCG (n : AsF) (fa : List He.Fa) (ck : List (FrK → Bool)) (fn : List FnC) (g : Addr → Option Obj) : ObC := obsC2 g fa ck fn (He.frT g (n g))
theorem nice_of {g : Addr → Option Obj} : ∀ {l : List (Addr × Obj)}, (∀ p ∈ l, g p.1 = some p.2) → ∀ p ∈ l, l.lookup p.1 = some p.2
  | [], _, p, hp => by cases hp
  | b :: r, h, p, hp => by
    rw [List.lookup_cons]
    cases q : p.1 == b.1 with
    | true =>
      have e := eq_of_beq q
      have h1 := h p hp
      have h2 := h b List.mem_cons_self
      rw [e, h2] at h1
      exact h1
    | false =>
      rcases List.mem_cons.mp hp with z | hp
      · rw [z] at q
        simp at q
      · exact nice_of (fun x hx => h x (List.mem_cons_of_mem _ hx)) p hp
theorem nice_frT {g : Addr → Option Obj} {as : List Addr} : ∀ p ∈ He.frT g as, (He.frT g as).lookup p.1 = some p.2 := nice_of fun p hp => He.frG_mem (List.mem_filter.mp hp).1
theorem tabs_of {n : AsF} {h : Heap} (e : tabsB2 h.get? (He.frT h.get? (n h.get?)) = true) : TabsOk h (He.frT h.get? (n h.get?)) := by
  have key : ∀ p ∈ tabsK (He.frT h.get? (n h.get?)), ∃ o, h.get? p.1 = some o ∧ He.emptyTab o = true := fun p hp => by
    have q := List.all_eq_true.mp e p hp
    split at q
    · rename_i o ho
      exact ⟨o, ho, q⟩
    · cases q
  refine ⟨nice_frT, fun p hp => ?_, fun p hp => ?_⟩
  · obtain ⟨o, h1, h2⟩ := key p hp
    exact He.frT_none h1 h2
  · obtain ⟨o, h1, h2⟩ := key p hp
    rw [h1, He.emptyTab_eq h2]
theorem obsC2_ok {g : Addr → Option Obj} {fa : List He.Fa} {ck : List (FrK → Bool)} {fn : List FnC} {K : FrK} (e : obsC2 g fa ck fn K = dueC fn) : SaysC fa ck fn K ∧ tabsB2 g K = true := by
  obtain ⟨e1, e2⟩ := Prod.mk.inj (show ((((fa.all fun f => f.ok K) && ((ck.all fun c => c K) && fn.all fun d => d.good K)) && tabsB2 g K, fn.map fun d => d.seen K) : ObC) = (true, fn.map FnC.due) from e)
  obtain ⟨h1, h2⟩ := Bool.and_eq_true_iff.mp e1
  refine ⟨?_, h2⟩
  unfold SaysC obsC
  rw [h1, e2]
  rfl
def hookC (n : AsF) (fa : List He.Fa) (ck : List (FrK → Bool)) (fn : List FnC) : PySem.W.Hook where
  α := ObC
  obs := fun s => obsCG n fa ck fn s.heap.get?
  val := fun _ => dueC fn
  says := fun _ h => ∃ K : FrK, K.In h ∧ SaysC fa ck fn K ∧ TabsOk h K
  of := fun _ _ e => ⟨_, He.frT_in, (obsC2_ok e).1, tabs_of (obsC2_ok e).2⟩
  keeps := fun _ _ _ ⟨K, hK, c, t⟩ k => ⟨K, PySem.W.Frag.In.keeps hK k, c, t.nice, t.out, fun p hp => k _ _ (t.emp p hp)⟩
theorem obsCG_eq {n : AsF} {fa : List He.Fa} {ck : List (FrK → Bool)} {fn : List FnC} {g : Addr → Option Obj} {s : Shared} (h : ∀ a, g a = s.heap.get? a) : obsCG n fa ck fn g = (hookC n fa ck fn).obs s := by
  rw [show g = s.heap.get? from funext h]
  rfl
def mA (x m : Str) (K : FrK) : Addr := He.ma K (He.ga K x) m
def methC (x m : Str) (K : FrK) : Bool := (He.Fa.meth x m).ok K && PySem.W.fnIn K (mA x m K)
def KofT (n : AsF) (s : PySem.W.SharedT) : FrK := He.frT (HandSHeadRun.getT s) (n (HandSHeadRun.getT s))
def partA (n : AsF) (fa : List He.Fa) (ck : List (FrK → Bool)) (s : PySem.W.SharedT) : Bool := (fun K => ((fa.all fun f => f.ok K) && ck.all fun c => c K) && tabsB2 (HandSHeadRun.getT s) K) (KofT n s)
def partB (n : AsF) (fn : List FnC) (s : PySem.W.SharedT) : ObC := (fun K => ((fn.all fun d => d.good K), fn.map fun d => d.seen K)) (KofT n s)
theorem partB_join {n : AsF} {fn1 fn2 : List FnC} {X : Option PySem.W.SharedT} (h2 : X.map (partB n fn1) = some (dueC fn1)) (h3 : X.map (partB n fn2) = some (dueC fn2)) : X.map (partB n (fn1 ++ fn2)) = some (dueC (fn1 ++ fn2)) := by
  cases X with
  | none => cases h2
  | some s =>
    have a2 : ((fn1.all fun d => d.good (KofT n s)), fn1.map fun d => d.seen (KofT n s)) = ((true, fn1.map FnC.due) : ObC) := Option.some.inj h2
    have a3 : ((fn2.all fun d => d.good (KofT n s)), fn2.map fun d => d.seen (KofT n s)) = ((true, fn2.map FnC.due) : ObC) := Option.some.inj h3
    obtain ⟨b1, b2⟩ := Prod.mk.inj a2
    obtain ⟨b3, b4⟩ := Prod.mk.inj a3
    show some ((((fn1 ++ fn2).all fun d => d.good (KofT n s)), (fn1 ++ fn2).map fun d => d.seen (KofT n s)) : ObC) = some (true, (fn1 ++ fn2).map FnC.due)
    rw [List.all_append, b1, b3, List.map_append, List.map_append, b2, b4]
    rfl
theorem partA_join {n : AsF} {fa : List He.Fa} {ck : List (FrK → Bool)} {X : Option PySem.W.SharedT} (h1 : X.map (partA n fa []) = some true) (h2 : X.map (partA n [] ck) = some true) : X.map (partA n fa ck) = some true := by
  cases X with
  | none => cases h1
  | some s =>
    have a1 : (((fa.all fun f => f.ok (KofT n s)) && true) && tabsB2 (HandSHeadRun.getT s) (KofT n s)) = true := Option.some.inj h1
    have a2 : ((true && ck.all fun c => c (KofT n s)) && tabsB2 (HandSHeadRun.getT s) (KofT n s)) = true := Option.some.inj h2
    show some (((fa.all fun f => f.ok (KofT n s)) && ck.all fun c => c (KofT n s)) && tabsB2 (HandSHeadRun.getT s) (KofT n s)) = some true
    rw [Bool.and_true] at a1
    rw [Bool.true_and] at a2
    obtain ⟨b1, b2⟩ := Bool.and_eq_true_iff.mp a1
    obtain ⟨b3, _⟩ := Bool.and_eq_true_iff.mp a2
    rw [b1, b2, b3]
    rfl
theorem obs_join {n : AsF} {fa : List He.Fa} {ck : List (FrK → Bool)} {fn : List FnC} {X : Option PySem.W.SharedT} (h1 : X.map (partA n fa ck) = some true) (h2 : X.map (partB n fn) = some (dueC fn)) :
    X.map (fun s => obsCG n fa ck fn (HandSHeadRun.getT s)) = some (dueC fn) := by
  cases X with
  | none => cases h1
  | some s =>
    have a0 : (((fa.all fun f => f.ok (KofT n s)) && ck.all fun c => c (KofT n s)) && tabsB2 (HandSHeadRun.getT s) (KofT n s)) = true := Option.some.inj h1
    obtain ⟨a1, a3⟩ := Bool.and_eq_true_iff.mp a0
    have a2 : ((fn.all fun d => d.good (KofT n s)), fn.map fun d => d.seen (KofT n s)) = ((true, fn.map FnC.due) : ObC) := Option.some.inj h2
    obtain ⟨b1, b2⟩ := Prod.mk.inj a2
    obtain ⟨c1, c2⟩ := Bool.and_eq_true_iff.mp a1
    show some (((((fa.all fun f => f.ok (KofT n s)) && ((ck.all fun c => c (KofT n s)) && fn.all fun d => d.good (KofT n s))) && tabsB2 (HandSHeadRun.getT s) (KofT n s), fn.map fun d => d.seen (KofT n s))) : ObC) = some (true, fn.map FnC.due)
    rw [c1, c2, b1, b2, a3]
    rfl
theorem run_join {α β γ : Type} {X : Option α} {l : α → Bool} {sn : α → β} {g : β} {ob : α → γ} {v : γ} (h0 : X.map (fun s => (l s, sn s)) = some (true, g)) (h1 : X.map ob = some v) : X.map (fun s => (l s, sn s, ob s)) = some (true, g, v) := by
  cases X with
  | none => cases h1
  | some s =>
    obtain ⟨b1, b2⟩ := Prod.mk.inj (Option.some.inj h0)
    have a1 : ob s = v := Option.some.inj h1
    show some (l s, sn s, ob s) = _
    rw [b1, b2, a1]
end Hk
end DL
namespace HandSHeadRun
open PySem PySem.W PySem.Calls PyProof.Rows
noncomputable def see0 (r : OpenRow) (q : Program) (loose : List PySem.Str) (w : World) (s : SharedT) := (looksF r.prog (boot_heap w.params) s.abs, seenQ q loose (importedModules r.prog.main.body) (fun s => xlAt q [] s && recOk r.toRowW.records s) s.abs)
noncomputable def due0 (q : Program) (loose : List PySem.Str) := (true, openGood q loose)
theorem see_join {r : OpenRow} {q : Program} {loose : List PySem.Str} {w : World} {X : Option SharedT} {H : Hook} {ob : SharedT → H.α} (h0 : X.map (see0 r q loose w) = some (due0 q loose)) (h1 : X.map ob = some (H.val w)) :
    X.map (fun s => (looksF r.prog (boot_heap w.params) s.abs, seenQ q loose (importedModules r.prog.main.body) (fun s => xlAt q [] s && recOk r.toRowW.records s) s.abs, ob s)) = some (true, openGood q loose, H.val w) := DL.Hk.run_join h0 h1
end HandSHeadRun
set_option maxHeartbeats 2000000
set_option autoImplicit false
namespace DL
open PySem PySem.Spec PyProof.Rows L2
def XAll (K : PySem.W.Frag) (R ys : List (Str × Addr)) (g : Addr) : Prop := ∀ p ∈ R, (ExcC K p.2 ∧ PySem.W.kitOne K (.ref p.2) (.type "ValueError") = some true ∧ PySem.W.exmOne K (.ref p.2) (.ref g) = some true) ∧
  ∀ q ∈ ys, PySem.W.kitOne K (.ref p.2) (.ref q.2) = some (decide (p.2 = q.2)) ∧ decide (p.2 = q.2) = decide (p.1 = q.1)
namespace Hk
def xcC (a : Addr) (K : FrK) : Bool := He.eqO (PySem.W.findIn K (.ref a) "__getattribute__") (some (some (.builtin "BaseException.__getattribute__"))) && (He.eqO (PySem.W.findIn K (.ref a) "__getattr__") (some none) && (decide (PySem.W.subIn K (.ref a) (.type "BaseException") = some true) && (PySem.W.hasDictIn K a &&
  (He.eqO (PySem.W.findIn K (.ref a) "__class__") (some (some (.builtin "object.__class__"))) && (He.eqO (PySem.W.specialIn K (.builtin "object.__class__") "__get__") (some (some (.builtin "getset_descriptor.__get__"))) && (decide (PySem.W.takesIn K (.builtin "object.__class__") = some true) && decide (PySem.W.mroIn K a (.type "object") = some true)))))))
theorem xcC_ok {a : Addr} {K : FrK} (h : xcC a K = true) : ExcC K a := by
  unfold xcC at h
  simp only [Bool.and_eq_true] at h
  obtain ⟨h1, h2, h3, h4, h5, h6, h7, h8⟩ := h
  exact ⟨He.eqO_ok h1, He.eqO_ok h2, of_decide_eq_true h3, h4, He.eqO_ok h5, He.eqO_ok h6, of_decide_eq_true h7, of_decide_eq_true h8⟩
def xaC (R ys : List Str) (K : FrK) : Bool := R.all fun E => (xcC (He.ga K E) K && (decide (PySem.W.kitOne K (.ref (He.ga K E)) (.type "ValueError") = some true) && decide (PySem.W.exmOne K (.ref (He.ga K E)) (.ref (He.ga K "GreenError")) = some true))) &&
  ys.all fun y => decide (PySem.W.kitOne K (.ref (He.ga K E)) (.ref (He.ga K y)) = some (decide (He.ga K E = He.ga K y))) && decide (decide (He.ga K E = He.ga K y) = decide (E = y))
theorem xaC_ok {R ys : List Str} {K : FrK} (h : xaC R ys K = true) : XAll K (R.map fun x => (x, He.ga K x)) (ys.map fun x => (x, He.ga K x)) (He.ga K "GreenError") := fun p hp => by
  obtain ⟨E, hE, rfl⟩ := List.mem_map.mp hp
  have h1 := List.all_eq_true.mp h E hE
  simp only [Bool.and_eq_true] at h1
  obtain ⟨⟨a, b, c⟩, d⟩ := h1
  refine ⟨⟨xcC_ok a, of_decide_eq_true b, of_decide_eq_true c⟩, fun q hq => ?_⟩
  obtain ⟨y, hy, rfl⟩ := List.mem_map.mp hq
  have h2 := List.all_eq_true.mp d y hy
  simp only [Bool.and_eq_true] at h2
  exact ⟨of_decide_eq_true h2.1, of_decide_eq_true h2.2⟩
end Hk
end DL
set_option maxHeartbeats 2000000
namespace DL
open PySem L2

def ExO2 (cls : PySem.Value) (d : Option Addr) (a : Addr) : HO := .ext fun h => ∃ (oe : Obj) (vs : Array PySem.Value), h.get? a = some oe ∧ Zc cls d oe ∧ oe.data = .fields vs ∧ vs[1]? = some .none
theorem nd {α : Sort _} {a b : α} (h : a = b) : a = b := h
def LIM : Nat := 16000000
theorem lim_le {n : Nat} (h : n ≤ 16000000) : n ≤ LIM := h
theorem lim_lt {n : Nat} (h : n < 16000000) : n < LIM := h
theorem le_lim {n : Nat} (h : n ≤ 100000) : (n ≤ LIM) = True := eq_true (lim_le (by omega))
theorem lt_lim {n : Nat} (h : n < 100000) : (n < LIM) = True := eq_true (lim_lt (by omega))
inductive D where
  | non | bl (b : Bool) | int (i : Int) | str (x : Str)
  | tup (ds : List D) | lst (ds : List D) | dic (kvs : List (Key × D)) | scr (ns : List Int) | ty (n : String) | obj (a : Addr) | ob (C : Addr) (ns : List Str) (ds : List D) | cel (a : Addr) (x : D)
inductive Z where
  | d (x : D) | c (n : Nat)
abbrev Cs := List D
abbrev En := List (Option Z)
abbrev DE := En → Cs → (Z → Cs → Prop) → Prop
abbrev DT := En → Cs → (Bool → Cs → Prop) → Prop
abbrev DA := En → Cs → (List Z → Cs → Prop) → Prop
structure DEnds where
  nx : En → Cs → Prop
  rt : Z → Cs → Prop
  bk : En → Cs → Prop := fun _ _ => False
  ct : En → Cs → Prop := fun _ _ => False
abbrev DS := DEnds → En → Cs → Prop
abbrev DG := Z → En → Cs → (En → Cs → Prop) → Prop
abbrev DGs := List D → En → Cs → (En → Cs → Prop) → Prop
abbrev DI := En → Cs → (List D → (Cs → Prop) → Cs → Prop) → Prop
abbrev DSpec := List Z → Cs → (Z → Cs → Prop) → Prop

mutual
def Is (K : PySem.W.Frag) (S : Hp) : D → V → Prop
  | .non, v => v = .non
  | .bl b, v => v = .bl b
  | .int i, v => v = .int i
  | .str x, v => v = .str x
  | .tup ds, v => ∃ a vs, v = .ref a ∧ SqT K S a vs ∧ IsL K S ds vs
  | .lst ds, v => ∃ a vs, v = .ref a ∧ S a = some (.lst vs) ∧ IsL K S ds vs
  | .dic kvs, v => ∃ a kv, v = .ref a ∧ S a = some (.dK kv) ∧ IsK K S kvs kv
  | .scr ns, v => ∃ a, v = .ref a ∧ SqL K S a (ns.map V.int)
  | .ty n, v => v = .ty n
  | .obj a, v => v = .ref a
  | .cel a (.tup ds), v => v = .ref a ∧ ∃ vs, S a = some (.tup vs) ∧ IsL K S ds vs
  | .cel a (.dic kvs), v => v = .ref a ∧ IsR K S kvs
  | .cel a (.str q), v => v = .ref a ∧ S a = some (LamX.CodeO a q)
  | .cel a (.obj C), v => v = .ref a ∧ S a = some (ExO2 (.ref C) none a)
  | .cel a (.cel C (.ob _ ns ds)), v => v = .ref a ∧ ∃ dx vs, S a = some (ExO2 (.ref C) (some dx) a) ∧ S dx = some (.xd (ns.zip vs)) ∧ ns.length = ds.length ∧ IsL K S ds vs
  | .cel a (.cel dx (.cel _ (.ob _ ns ds))), v => v = .ref a ∧ ∃ vs, S dx = some (.xd (ns.zip vs)) ∧ ns.length = ds.length ∧ IsL K S ds vs
  | .cel a _, v => v = .ref a
  | .ob C ns ds, v => ∃ x dx vs, v = .ref x ∧ S x = some (.ins C dx (ns.zip vs)) ∧ S dx = some (.own x) ∧ ns.length = ds.length ∧ IsL K S ds vs
def IsL (K : PySem.W.Frag) (S : Hp) : List D → List V → Prop
  | [], vs => vs = []
  | d :: ds, vs => ∃ v r, vs = v :: r ∧ Is K S d v ∧ IsL K S ds r
def IsK (K : PySem.W.Frag) (S : Hp) : List (Key × D) → List (Key × V) → Prop
  | [], l => l = []
  | kd :: r, l => ∃ v l', l = (kd.1, v) :: l' ∧ Is K S kd.2 v ∧ IsK K S r l'
def IsR (K : PySem.W.Frag) (S : Hp) : List (Key × D) → Prop
  | [] => True
  | kd :: r => (∃ x : Nat, kd.1 = .inl (x : Int) ∧ Is K S kd.2 (.ref x)) ∧ IsR K S r
end

def Sub (S H : Hp) : Prop := ∀ a o, S a = some o → H a = some o
theorem Sub.refl (S : Hp) : Sub S S := fun _ _ h => h
theorem Sub.trans {S T U : Hp} (a : Sub S T) (b : Sub T U) : Sub S U := fun x o h => b x o (a x o h)
theorem Sub.new {S : Hp} {p : Addr} {o : HO} (h : S p = none) : Sub S (upd S p o) := fun a u e => by
  rw [upd_ne (ne_of_none e h)]
  exact e
theorem Sub.both {S H : Hp} {p : Addr} {o : HO} (h : Sub S H) : Sub (upd S p o) (upd H p o) := fun a u e => by
  by_cases ha : a = p
  · subst ha
    rw [upd_same] at e ⊢
    exact e
  · rw [upd_ne ha] at e ⊢
    exact h a u e
theorem Sub.free {S H : Hp} {p : Addr} (h : Sub S H) (n : H p = none) : S p = none := by
  cases q : S p with
  | none => rfl
  | some o => rw [h p o q] at n; cases n
theorem Sub.other {S H : Hp} {p : Addr} {o : HO} (h : Sub S H) (n : S p = none) : Sub S (upd H p o) := fun a u e => by
  rw [upd_ne (ne_of_none e n)]
  exact h a u e
theorem Sub.rd {S H : Hp} {a : Addr} {u : HO} (e : Sub S H) (h : Rd S a u) : Rd H a u := by
  rcases h with h | ⟨o, h⟩
  · exact Or.inl (e a _ h)
  · exact Or.inr ⟨o, e a _ h⟩
theorem Sub.l {K : PySem.W.Frag} {S H : Hp} {a : Addr} {xs : List V} (e : Sub S H) (h : SqL K S a xs) : SqL K H a xs := by
  rcases h with h | h
  · exact Or.inl (e.rd h)
  · exact Or.inr h
theorem Sub.t {K : PySem.W.Frag} {S H : Hp} {a : Addr} {xs : List V} (e : Sub S H) (h : SqT K S a xs) : SqT K H a xs := by
  rcases h with h | h
  · exact Or.inl (e.rd h)
  · exact Or.inr h

mutual
theorem Is.mono {K : PySem.W.Frag} {S T : Hp} (e : Sub S T) : ∀ (d : D) (v : V), Is K S d v → Is K T d v
  | .non, _, h => h
  | .bl _, _, h => h
  | .int _, _, h => h
  | .str _, _, h => h
  | .tup ds, v, h => by
    obtain ⟨a, vs, h1, h2, h3⟩ := h
    exact ⟨a, vs, h1, e.t h2, IsL.mono e ds vs h3⟩
  | .lst ds, v, h => by
    obtain ⟨a, vs, h1, h2, h3⟩ := h
    exact ⟨a, vs, h1, e _ _ h2, IsL.mono e ds vs h3⟩
  | .dic kvs, v, h => by
    obtain ⟨a, kv, h1, h2, h3⟩ := h
    exact ⟨a, kv, h1, e _ _ h2, IsK.mono e kvs kv h3⟩
  | .scr ns, v, h => by
    obtain ⟨a, h1, h2⟩ := h
    exact ⟨a, h1, e.l h2⟩
  | .ty _, _, h => h
  | .obj _, _, h => h
  | .cel _ (.tup ds), _, h => by
    obtain ⟨h0, vs, h1, h2⟩ := h
    exact ⟨h0, vs, e _ _ h1, IsL.mono e ds vs h2⟩
  | .cel _ (.lst _), _, h => h
  | .cel _ (.dic kvs), _, h => ⟨h.1, IsR.mono e kvs h.2⟩
  | .cel _ (.ob _ _ _), _, h => h
  | .cel _ (.scr _), _, h => h
  | .cel _ (.ty _), _, h => h
  | .cel _ (.obj _), _, h => ⟨h.1, e _ _ h.2⟩
  | .cel _ (.cel _ (.ob _ ns ds)), _, h => by
    obtain ⟨h1, dx, vs, h2, h3, h4, h5⟩ := h
    exact ⟨h1, dx, vs, e _ _ h2, e _ _ h3, h4, IsL.mono e ds vs h5⟩
  | .cel _ (.cel _ (.lst _)), _, h => h
  | .cel _ (.cel _ (.dic _)), _, h => h
  | .cel _ (.cel _ (.scr _)), _, h => h
  | .cel _ (.cel _ (.ty _)), _, h => h
  | .cel _ (.cel _ (.obj _)), _, h => h
  | .cel _ (.cel _ (.cel _ (.ob _ ns ds))), _, h => by
    obtain ⟨h1, vs, h3, h4, h5⟩ := h
    exact ⟨h1, vs, e _ _ h3, h4, IsL.mono e ds vs h5⟩
  | .cel _ (.cel _ (.cel _ .non)), _, h => h
  | .cel _ (.cel _ (.cel _ (.bl _))), _, h => h
  | .cel _ (.cel _ (.cel _ (.int _))), _, h => h
  | .cel _ (.cel _ (.cel _ (.str _))), _, h => h
  | .cel _ (.cel _ (.cel _ (.tup _))), _, h => h
  | .cel _ (.cel _ (.cel _ (.lst _))), _, h => h
  | .cel _ (.cel _ (.cel _ (.dic _))), _, h => h
  | .cel _ (.cel _ (.cel _ (.scr _))), _, h => h
  | .cel _ (.cel _ (.cel _ (.ty _))), _, h => h
  | .cel _ (.cel _ (.cel _ (.obj _))), _, h => h
  | .cel _ (.cel _ (.cel _ (.cel _ _))), _, h => h
  | .cel _ (.cel _ .non), _, h => h
  | .cel _ (.cel _ (.bl _)), _, h => h
  | .cel _ (.cel _ (.int _)), _, h => h
  | .cel _ (.cel _ (.str _)), _, h => h
  | .cel _ (.cel _ (.tup _)), _, h => h
  | .cel _ .non, _, h => h
  | .cel _ (.bl _), _, h => h
  | .cel _ (.int _), _, h => h
  | .cel _ (.str _), _, h => ⟨h.1, e _ _ h.2⟩
  | .ob C ns ds, v, h => by
    obtain ⟨x, dx, vs, h1, h2, h3, h4, h5⟩ := h
    exact ⟨x, dx, vs, h1, e _ _ h2, e _ _ h3, h4, IsL.mono e ds vs h5⟩
theorem IsL.mono {K : PySem.W.Frag} {S T : Hp} (e : Sub S T) : ∀ (ds : List D) (vs : List V), IsL K S ds vs → IsL K T ds vs
  | [], _, h => h
  | d :: ds, vs, h => by
    obtain ⟨v, r, h1, h2, h3⟩ := h
    exact ⟨v, r, h1, Is.mono e d v h2, IsL.mono e ds r h3⟩
theorem IsK.mono {K : PySem.W.Frag} {S T : Hp} (e : Sub S T) : ∀ (kvs : List (Key × D)) (l : List (Key × V)), IsK K S kvs l → IsK K T kvs l
  | [], _, h => h
  | kd :: r, l, h => by
    obtain ⟨v, l', h1, h2, h3⟩ := h
    exact ⟨v, l', h1, Is.mono e kd.2 v h2, IsK.mono e r l' h3⟩
theorem IsR.mono {K : PySem.W.Frag} {S T : Hp} (e : Sub S T) : ∀ (kvs : List (Key × D)), IsR K S kvs → IsR K T kvs
  | [], _ => trivial
  | kd :: r, h => by
    obtain ⟨⟨x, h1, h2⟩, h3⟩ := h
    exact ⟨⟨x, h1, Is.mono e kd.2 (.ref x) h2⟩, IsR.mono e r h3⟩
end

theorem Is.cel {K : PySem.W.Frag} {S : Hp} {a : Addr} : ∀ {x : D} {v : V}, Is K S (.cel a x) v → v = .ref a
  | .tup _, _, h => h.1
  | .lst _, _, h => h
  | .dic _, _, h => h.1
  | .ob _ _ _, _, h => h
  | .scr _, _, h => h
  | .ty _, _, h => h
  | .obj _, _, h => h.1
  | .cel _ (.ob _ _ _), _, h => h.1
  | .cel _ (.lst _), _, h => h
  | .cel _ (.dic _), _, h => h
  | .cel _ (.scr _), _, h => h
  | .cel _ (.ty _), _, h => h
  | .cel _ (.obj _), _, h => h
  | .cel _ (.cel _ (.ob _ _ _)), _, h => h.1
  | .cel _ (.cel _ .non), _, h => h
  | .cel _ (.cel _ (.bl _)), _, h => h
  | .cel _ (.cel _ (.int _)), _, h => h
  | .cel _ (.cel _ (.str _)), _, h => h
  | .cel _ (.cel _ (.tup _)), _, h => h
  | .cel _ (.cel _ (.lst _)), _, h => h
  | .cel _ (.cel _ (.dic _)), _, h => h
  | .cel _ (.cel _ (.scr _)), _, h => h
  | .cel _ (.cel _ (.ty _)), _, h => h
  | .cel _ (.cel _ (.obj _)), _, h => h
  | .cel _ (.cel _ (.cel _ _)), _, h => h
  | .cel _ .non, _, h => h
  | .cel _ (.bl _), _, h => h
  | .cel _ (.int _), _, h => h
  | .cel _ (.str _), _, h => h
  | .cel _ (.tup _), _, h => h
  | .non, _, h => h
  | .bl _, _, h => h
  | .int _, _, h => h
  | .str _, _, h => h.1
def KTD (K : PySem.W.Frag) (S : Hp) : List (List Key × D) → List (List Key × V) → Prop
  | [], l => l = []
  | kd :: r, l => ∃ v l', l = (kd.1, v) :: l' ∧ Is K S kd.2 v ∧ KTD K S r l'
theorem KTD.mono {K : PySem.W.Frag} {S T : Hp} (e : Sub S T) : ∀ {kvs : List (List Key × D)} {l : List (List Key × V)}, KTD K S kvs l → KTD K T kvs l
  | [], _, h => h
  | _ :: _, _, ⟨v, l', h1, h2, h3⟩ => ⟨v, l', h1, Is.mono e _ _ h2, KTD.mono e h3⟩
def kD : Key → D
  | .inl i => .int i
  | .inr x => .str x
def entD (p : List Key × D) : D := .tup [.tup (p.1.map kD), p.2]
def Sh (K : PySem.W.Frag) (S H : Hp) : D → V → Prop
  | .lst ds, v => ∃ a vs, v = .ref a ∧ H a = some (.lst vs) ∧ IsL K S ds vs
  | .dic kvs, v => ∃ a kv, v = .ref a ∧ H a = some (.dK kv) ∧ IsK K S kvs kv
  | .ob C ns ds, v => ∃ x dx vs, v = .ref x ∧ H x = some (.ins C dx (ns.zip vs)) ∧ S dx = some (.own x) ∧ ns.length = ds.length ∧ IsL K S ds vs
  | d, v => Is K S d v
theorem Is.sh {K : PySem.W.Frag} {S H : Hp} (e : Sub S H) : ∀ {d : D} {v : V}, Is K S d v → Sh K S H d v
  | .non, _, h => h
  | .bl _, _, h => h
  | .int _, _, h => h
  | .str _, _, h => h
  | .tup _, _, h => h
  | .scr _, _, h => h
  | .ty _, _, h => h
  | .obj _, _, h => h
  | .cel _ _, _, h => h
  | .ob _ _ _, v, h => by
    obtain ⟨x, dx, vs, h1, h2, h3⟩ := h
    exact ⟨x, dx, vs, h1, e _ _ h2, h3⟩
  | .lst ds, v, h => by
    obtain ⟨a, vs, h1, h2, h3⟩ := h
    exact ⟨a, vs, h1, e _ _ h2, h3⟩
  | .dic kvs, v, h => by
    obtain ⟨a, kv, h1, h2, h3⟩ := h
    exact ⟨a, kv, h1, e _ _ h2, h3⟩

def CelAt (K : PySem.W.Frag) (S H : Hp) (a : Addr) : D → Prop
  | .lst ds => S a = none ∧ ∃ vs, H a = some (.lst vs) ∧ IsL K S ds vs
  | .dic kvs => S a = none ∧ ∃ kv, H a = some (.dK kv) ∧ IsK K S kvs kv
  | .ob C ns ds => S a = none ∧ ∃ dx vs, H a = some (.ins C dx (ns.zip vs)) ∧ S dx = some (.own a) ∧ ns.length = ds.length ∧ IsL K S ds vs
  | .obj b => b = a
  | .cel b (.lst ds) => b = a ∧ S a = none ∧ ∃ vs, H a = some (.lst vs) ∧ IsL K S ds vs
  | .cel b (.ob C ns ds) => b = a ∧ S a = none ∧ ∃ dx vs, H a = some (.ins C dx (ns.zip vs)) ∧ S dx = some (.own a) ∧ ns.length = ds.length ∧ IsL K S ds vs
  | .cel b (.cel c (.lst es)) => b = a ∧ c = a ∧ S a = none ∧ ∃ kd kvs, es = kd.map entD ∧ H a = some (.dT kvs) ∧ KTD K S kd kvs
  | _ => False
theorem CelAt.adr {K : PySem.W.Frag} {S H : Hp} {a b : Addr} : ∀ {x : D}, CelAt K S H a (.cel b x) → b = a
  | .lst _, h => h.1
  | .ob _ _ _, h => h.1
  | .dic _, h => h.elim
  | .scr _, h => h.elim
  | .ty _, h => h.elim
  | .obj _, h => h.elim
  | .non, h => h.elim
  | .bl _, h => h.elim
  | .int _, h => h.elim
  | .str _, h => h.elim
  | .tup _, h => h.elim
  | .cel _ (.lst _), h => h.1
  | .cel _ (.dic _), h => h.elim
  | .cel _ (.ob _ _ _), h => h.elim
  | .cel _ (.scr _), h => h.elim
  | .cel _ (.ty _), h => h.elim
  | .cel _ (.obj _), h => h.elim
  | .cel _ (.cel _ _), h => h.elim
  | .cel _ .non, h => h.elim
  | .cel _ (.bl _), h => h.elim
  | .cel _ (.int _), h => h.elim
  | .cel _ (.str _), h => h.elim
  | .cel _ (.tup _), h => h.elim
theorem CelAt.isC {K : PySem.W.Frag} {S H T : Hp} {a b : Addr} : ∀ {x : D}, CelAt K S H a (.cel b x) → Is K T (.cel b x) (.ref a)
  | .lst _, h => congrArg V.ref h.1.symm
  | .ob _ _ _, h => congrArg V.ref h.1.symm
  | .dic _, h => h.elim
  | .scr _, h => h.elim
  | .ty _, h => h.elim
  | .obj _, h => h.elim
  | .non, h => h.elim
  | .bl _, h => h.elim
  | .int _, h => h.elim
  | .str _, h => h.elim
  | .tup _, h => h.elim
  | .cel _ (.lst _), h => congrArg V.ref h.1.symm
  | .cel _ (.dic _), h => h.elim
  | .cel _ (.ob _ _ _), h => h.elim
  | .cel _ (.scr _), h => h.elim
  | .cel _ (.ty _), h => h.elim
  | .cel _ (.obj _), h => h.elim
  | .cel _ (.cel _ _), h => h.elim
  | .cel _ .non, h => h.elim
  | .cel _ (.bl _), h => h.elim
  | .cel _ (.int _), h => h.elim
  | .cel _ (.str _), h => h.elim
  | .cel _ (.tup _), h => h.elim
structure TabR (H : Hp) (as : List Addr) (P : Addr) (q : Str) : Prop where
  nas : P ∉ as
  ex : ∃ ps : Array Value, H P = some (.tbl ps) ∧ TriplesOk ps.toList ∧ ∀ (pos : Pos) (cv : Value), codeAmong pos ps.toList = some cv → ∃ c, cv = .ref c ∧ c ∉ as ∧ H c = some (LamX.CodeO c q)
theorem TabR.keep {H H' : Hp} {as as' : List Addr} {P : Addr} {q : Str} (t : TabR H as P q) (h : ∀ b o, b ∉ as → H b = some o → b ∉ as' ∧ H' b = some o) : TabR H' as' P q := by
  obtain ⟨n, ps, e, tr, hc⟩ := t
  refine ⟨(h P _ n e).1, ps, (h P _ n e).2, tr, fun pos cv hcv => ?_⟩
  obtain ⟨c, e1, n1, e2⟩ := hc pos cv hcv
  exact ⟨c, e1, (h c _ n1 e2).1, (h c _ n1 e2).2⟩
theorem TabR.ne {H : Hp} {as : List Addr} {P p : Addr} {q : Str} (t : TabR H as P q) (hp : H p = none) : P ≠ p := by
  obtain ⟨n, ps, e, _⟩ := t
  exact ne_of_none e hp
structure Rep (K : PySem.W.Frag) (S H : Hp) (as : List Addr) (cs : Cs) : Prop where
  sub : Sub S H
  len : as.length = cs.length
  nod : as.Nodup
  cel : ∀ (n : Nat) (a : Addr) (c : D), as[n]? = some a → cs[n]? = some c → CelAt K S H a c
  liv : ∀ a ∈ as, H a ≠ none
  tab : ∀ p ∈ tabsK K, S p.1 = none ∧ TabR H as p.1 p.2
theorem Rep.notab {K : PySem.W.Frag} {S H : Hp} {as : List Addr} {cs : Cs} (r : Rep K S H as cs) {a : Addr} (ha : a ∈ as) : ∀ q ∈ tabsK K, q.1 ≠ a := fun q hq z => (r.tab q hq).2.nas (by rw [z]; exact ha)
structure Ext (S : Hp) (as : List Addr) (S' : Hp) (as' : List Addr) : Prop where
  sub : Sub S S'
  pre : ∃ more, as' = as ++ more
theorem Ext.refl {S : Hp} {as : List Addr} : Ext S as S as := ⟨Sub.refl S, [], (List.append_nil as).symm⟩
theorem Ext.trans {S T U : Hp} {as bs cs : List Addr} (a : Ext S as T bs) (b : Ext T bs U cs) : Ext S as U cs := by
  obtain ⟨m1, e1⟩ := a.pre
  obtain ⟨m2, e2⟩ := b.pre
  exact ⟨a.sub.trans b.sub, m1 ++ m2, by rw [e2, e1, List.append_assoc]⟩
theorem Ext.of {S S' : Hp} {as : List Addr} (h : Sub S S') : Ext S as S' as := ⟨h, [], (List.append_nil as).symm⟩
theorem Ext.get {S S' : Hp} {as as' : List Addr} (h : Ext S as S' as') {n : Nat} {a : Addr} (e : as[n]? = some a) : as'[n]? = some a := by
  obtain ⟨m, rfl⟩ := h.pre
  rw [List.getElem?_append_left (List.getElem?_eq_some_iff.mp e).1]
  exact e

def VZ (K : PySem.W.Frag) (S : Hp) (as : List Addr) : Z → V → Prop
  | .d x, v => Is K S x v
  | .c n, v => ∃ a, as[n]? = some a ∧ v = .ref a
theorem VZ.mono {K : PySem.W.Frag} {S S' : Hp} {as as' : List Addr} (e : Ext S as S' as') : ∀ {z : Z} {v : V}, VZ K S as z v → VZ K S' as' z v
  | .d _, _, h => Is.mono e.sub _ _ h
  | .c _, _, ⟨a, h1, h2⟩ => ⟨a, e.get h1, h2⟩
def VZL (K : PySem.W.Frag) (S : Hp) (as : List Addr) : List Z → List V → Prop
  | [], vs => vs = []
  | z :: zs, vs => ∃ v r, vs = v :: r ∧ VZ K S as z v ∧ VZL K S as zs r
theorem VZL.mono {K : PySem.W.Frag} {S S' : Hp} {as as' : List Addr} (e : Ext S as S' as') : ∀ {zs : List Z} {vs : List V}, VZL K S as zs vs → VZL K S' as' zs vs
  | [], _, h => h
  | _ :: _, _, ⟨v, r, h1, h2, h3⟩ => ⟨v, r, h1, h2.mono e, VZL.mono e h3⟩
theorem VZL.len {K : PySem.W.Frag} {S : Hp} {as : List Addr} : ∀ {zs : List Z} {vs : List V}, VZL K S as zs vs → vs.length = zs.length
  | [], _, h => by rw [h]; rfl
  | _ :: zs, _, ⟨v, r, h1, h2, h3⟩ => by rw [h1, List.length_cons, List.length_cons, VZL.len h3]

def look (cs : Cs) : Z → Option D
  | .d x => some x
  | .c n => cs[n]?
theorem look_sh {K : PySem.W.Frag} {S H : Hp} {as : List Addr} {cs : Cs} (r : Rep K S H as cs) : ∀ {z : Z} {v : V} {d : D}, VZ K S as z v → look cs z = some d → Sh K S H d v
  | .d x, v, d, h, e => by
    have e' : x = d := Option.some.inj e
    subst e'
    exact h.sh r.sub
  | .c n, v, d, ⟨a, h1, h2⟩, e => by
    have q := r.cel n a d h1 e
    subst h2
    cases d with
    | lst ds =>
      obtain ⟨_, vs, h3, h4⟩ := q
      exact ⟨a, vs, rfl, h3, h4⟩
    | dic kvs =>
      obtain ⟨_, kv, h3, h4⟩ := q
      exact ⟨a, kv, rfl, h3, h4⟩
    | ob _ _ _ =>
      obtain ⟨_, dx, vs, h3, h4⟩ := q
      exact ⟨a, dx, vs, rfl, h3, h4⟩
    | scr _ => exact q.elim
    | ty _ => exact q.elim
    | obj b => exact congrArg V.ref (show a = b from Eq.symm q)
    | cel b x => exact q.isC
    | non => exact q.elim
    | bl _ => exact q.elim
    | int _ => exact q.elim
    | str _ => exact q.elim
    | tup _ => exact q.elim

structure EnvOk (K : PySem.W.Frag) (S : Hp) (as : List Addr) (en : En) (σ : L2.St) : Prop where
  len : σ.length = en.length
  at_ : ∀ (i : Nat) (z : Z), en[i]? = some (some z) → ∃ v, σ[i]? = some (some v) ∧ VZ K S as z v
theorem EnvOk.mono {K : PySem.W.Frag} {S S' : Hp} {as as' : List Addr} {en : En} {σ : L2.St} (h : EnvOk K S as en σ) (e : Ext S as S' as') : EnvOk K S' as' en σ :=
  ⟨h.len, fun i z q => let ⟨v, h1, h2⟩ := h.at_ i z q; ⟨v, h1, h2.mono e⟩⟩
theorem EnvOk.set {K : PySem.W.Frag} {S : Hp} {as : List Addr} {en : En} {σ : L2.St} (h : EnvOk K S as en σ) {z : Z} {v : V} (q : VZ K S as z v) (i : Nat) : EnvOk K S as (en.set i (some z)) (σ.set i (some v)) := by
  refine ⟨by rw [List.length_set, List.length_set]; exact h.len, fun j y e => ?_⟩
  by_cases hj : i = j
  · subst hj
    by_cases hi : i < en.length
    · rw [List.getElem?_set_self hi] at e
      cases e
      exact ⟨v, List.getElem?_set_self (by rw [h.len]; exact hi), q⟩
    · rw [List.getElem?_eq_none (by rw [List.length_set]; omega)] at e
      cases e
  · rw [List.getElem?_set_ne hj] at e ⊢
    exact h.at_ j y e
theorem EnvOk.forget {K : PySem.W.Frag} {S : Hp} {as : List Addr} {en : En} {σ : L2.St} (h : EnvOk K S as en σ) (i : Nat) : EnvOk K S as (en.set i none) (σ.set i none) := by
  refine ⟨by rw [List.length_set, List.length_set]; exact h.len, fun j y e => ?_⟩
  by_cases hj : i = j
  · subst hj
    by_cases hi : i < en.length
    · rw [List.getElem?_set_self hi] at e
      cases e
    · rw [List.getElem?_eq_none (by rw [List.length_set]; omega)] at e
      cases e
  · rw [List.getElem?_set_ne hj] at e ⊢
    exact h.at_ j y e
def wipeD (en : En) : List Nat → En
  | [] => en
  | i :: is => (wipeD en is).set i none
theorem EnvOk.wipe {K : PySem.W.Frag} {S : Hp} {as : List Addr} {en : En} {σ : L2.St} (h : EnvOk K S as en σ) : ∀ is : List Nat, EnvOk K S as (wipeD en is) (L2.wipe σ is)
  | [] => h
  | i :: is => (EnvOk.wipe h is).forget i

section
variable {K : PySem.W.Frag} {S H : Hp} {as : List Addr} {cs : Cs}
theorem CelAt.mono {S' H' : Hp} {a : Addr} (e : Sub S S') (n : S a = none → S' a = none) (k : H' a = H a) : ∀ {c : D}, CelAt K S H a c → CelAt K S' H' a c
  | .lst ds, ⟨h1, vs, h2, h3⟩ => ⟨n h1, vs, k.trans h2, IsL.mono e _ _ h3⟩
  | .dic kvs, ⟨h1, kv, h2, h3⟩ => ⟨n h1, kv, k.trans h2, IsK.mono e _ _ h3⟩
  | .ob _ _ _, ⟨h1, dx, vs, h2, h3, h4, h5⟩ => ⟨n h1, dx, vs, k.trans h2, e _ _ h3, h4, IsL.mono e _ _ h5⟩
  | .cel _ (.lst ds), ⟨h0, h1, vs, h2, h3⟩ => ⟨h0, n h1, vs, k.trans h2, IsL.mono e _ _ h3⟩
  | .cel _ (.ob _ _ _), ⟨h0, h1, dx, vs, h2, h3, h4, h5⟩ => ⟨h0, n h1, dx, vs, k.trans h2, e _ _ h3, h4, IsL.mono e _ _ h5⟩
  | .cel _ (.dic _), h => h.elim
  | .cel _ (.scr _), h => h.elim
  | .cel _ (.ty _), h => h.elim
  | .cel _ (.obj _), h => h.elim
  | .cel _ .non, h => h.elim
  | .cel _ (.bl _), h => h.elim
  | .cel _ (.int _), h => h.elim
  | .cel _ (.str _), h => h.elim
  | .cel _ (.tup _), h => h.elim
  | .cel _ (.cel _ (.lst es)), ⟨h0, h1, h2, kd, kvs, h3, h4, h5⟩ => ⟨h0, h1, n h2, kd, kvs, h3, k.trans h4, KTD.mono e h5⟩
  | .cel _ (.cel _ (.dic _)), h => h.elim
  | .cel _ (.cel _ (.ob _ _ _)), h => h.elim
  | .cel _ (.cel _ (.scr _)), h => h.elim
  | .cel _ (.cel _ (.ty _)), h => h.elim
  | .cel _ (.cel _ (.obj _)), h => h.elim
  | .cel _ (.cel _ (.cel _ _)), h => h.elim
  | .cel _ (.cel _ .non), h => h.elim
  | .cel _ (.cel _ (.bl _)), h => h.elim
  | .cel _ (.cel _ (.int _)), h => h.elim
  | .cel _ (.cel _ (.str _)), h => h.elim
  | .cel _ (.cel _ (.tup _)), h => h.elim
  | .scr _, h => h.elim
  | .ty _, h => h.elim
  | .obj _, h => h
  | .non, h => h.elim
  | .bl _, h => h.elim
  | .int _, h => h.elim
  | .str _, h => h.elim
  | .tup _, h => h.elim
theorem Rep.lay (r : Rep K S H as cs) {p : Addr} (hp : H p = none) (o : HO) : Rep K (upd S p o) (upd H p o) as cs := by
  refine ⟨r.sub.both, r.len, r.nod, fun n a c e1 e2 => ?_, fun a ha => ?_, fun q hq => ⟨by rw [upd_ne ((r.tab q hq).2.ne hp)]; exact (r.tab q hq).1, (r.tab q hq).2.keep fun b o n e => ⟨n, by rw [upd_ne (ne_of_none e hp)]; exact e⟩⟩⟩
  · have ne : a ≠ p := fun z => by
      subst z
      exact r.liv a (List.mem_of_getElem? e1) hp
    exact CelAt.mono (Sub.new (r.sub.free hp)) (fun q => by rw [upd_ne ne]; exact q) (upd_ne ne) (r.cel n a c e1 e2)
  · by_cases e : a = p
    · subst e; rw [upd_same]; exact fun z => nomatch z
    · rw [upd_ne e]; exact r.liv a ha
theorem Rep.ext (r : Rep K S H as cs) {p : Addr} (hp : H p = none) (o : HO) : Ext S as (upd S p o) as := Ext.of (Sub.new (r.sub.free hp))
theorem Rep.cell (r : Rep K S H as cs) {p : Addr} (hp : H p = none) {o : HO} {c : D} (h : CelAt K S (upd H p o) p c) : Rep K S (upd H p o) (as ++ [p]) (cs ++ [c]) := by
  have hS := r.sub.free hp
  have np : p ∉ as := fun z => r.liv p z hp
  refine ⟨r.sub.other hS, by rw [List.length_append, List.length_append, r.len]; rfl, ?_, fun n a d e1 e2 => ?_, fun a ha => ?_, fun q hq => ⟨(r.tab q hq).1, (r.tab q hq).2.keep fun b o n e => ⟨fun z => ?_, by rw [upd_ne (ne_of_none e hp)]; exact e⟩⟩⟩
  rotate_right
  · rcases List.mem_append.mp z with z | z
    · exact n z
    · have z : b = p := by simpa using z
      rw [z, hp] at e
      cases e
  · exact List.nodup_append.mpr ⟨r.nod, by simp, fun x hx y hy => by
      have hy' : y = p := by simpa using hy
      subst hy'
      exact fun z => np (z ▸ hx)⟩
  · by_cases hn : n < as.length
    · rw [List.getElem?_append_left hn] at e1
      rw [List.getElem?_append_left (by rw [← r.len]; exact hn)] at e2
      have ne : a ≠ p := fun z => np (z ▸ List.mem_of_getElem? e1)
      exact CelAt.mono (Sub.refl S) (fun q => q) (upd_ne ne) (r.cel n a d e1 e2)
    · rw [List.getElem?_append_right (by omega)] at e1
      rw [List.getElem?_append_right (by rw [← r.len]; omega)] at e2
      rw [← r.len] at e2
      have hz : n - as.length = 0 := by
        have := (List.getElem?_eq_some_iff.mp e1).1
        simp at this
        omega
      rw [hz] at e1 e2
      cases e1
      cases e2
      exact h
  · rcases List.mem_append.mp ha with ha | ha
    · by_cases e : a = p
      · subst e; rw [upd_same]; exact fun z => nomatch z
      · rw [upd_ne e]; exact r.liv a ha
    · have : a = p := by simpa using ha
      subst this
      rw [upd_same]
      exact fun z => nomatch z
theorem Rep.put (r : Rep K S H as cs) {n : Nat} {a : Addr} (hn : as[n]? = some a) {o : HO} {c : D} (h : CelAt K S (upd H a o) a c) (hS : S a = none) : Rep K S (upd H a o) as (cs.set n c) := by
  refine ⟨r.sub.other hS, by rw [List.length_set]; exact r.len, r.nod, fun m b d e1 e2 => ?_, fun b hb => ?_, fun q hq => ⟨(r.tab q hq).1, (r.tab q hq).2.keep fun b o n' e => ⟨n', by rw [upd_ne (fun z => n' (by rw [z]; exact List.mem_of_getElem? hn))]; exact e⟩⟩⟩
  · by_cases hm : n = m
    · subst hm
      rw [hn] at e1; cases e1
      have hl : n < cs.length := by rw [← r.len]; exact (List.getElem?_eq_some_iff.mp hn).1
      rw [List.getElem?_set_self hl] at e2; cases e2
      exact h
    · rw [List.getElem?_set_ne hm] at e2
      have ne : b ≠ a := fun z => by
        subst z
        exact hm (nd_ix r.nod hn e1)
      exact CelAt.mono (Sub.refl S) (fun q => q) (upd_ne ne) (r.cel m b d e1 e2)
  · by_cases e : b = a
    · subst e; rw [upd_same]; exact fun z => nomatch z
    · rw [upd_ne e]; exact r.liv b hb
theorem Rep.take (r : Rep K S H as cs) (n : Nat) : Rep K S H (as.take n) (cs.take n) := by
  refine ⟨r.sub, by rw [List.length_take, List.length_take, r.len], r.nod.sublist (List.take_sublist _ _), fun m b d e1 e2 => ?_, fun b hb => r.liv b (List.mem_of_mem_take hb), fun q hq => ⟨(r.tab q hq).1, (r.tab q hq).2.keep fun b o n e => ⟨fun z => n (List.mem_of_mem_take z), e⟩⟩⟩
  rw [List.getElem?_take] at e1 e2
  split at e1
  · rename_i hm
    rw [if_pos hm] at e2
    exact r.cel m b d e1 e2
  · cases e1
theorem Ext.take {S S' : Hp} {as as' : List Addr} (e : Ext S as S' as') : Ext S as S' (as'.take as.length) := by
  obtain ⟨m, rfl⟩ := e.pre
  exact ⟨e.sub, [], by rw [List.take_left, List.append_nil]⟩
end

section
variable {K : PySem.W.Frag} {S : Hp}
theorem IsL.len : ∀ {ds : List D} {vs : List V}, IsL K S ds vs → vs.length = ds.length
  | [], _, h => by rw [IsL] at h; rw [h]; rfl
  | _ :: _, _, h => by
    obtain ⟨v, r, h1, h2, h3⟩ := h
    rw [h1, List.length_cons, List.length_cons, IsL.len h3]
theorem IsL.get : ∀ {ds : List D} {vs : List V} {i : Nat} {d : D}, IsL K S ds vs → ds[i]? = some d → ∃ v, vs[i]? = some v ∧ Is K S d v
  | [], _, _, _, _, e => by simp at e
  | _ :: _, _, 0, _, h, e => by
    obtain ⟨v, r, h1, h2, h3⟩ := h
    have e' := Option.some.inj e
    subst e' h1
    exact ⟨v, rfl, h2⟩
  | _ :: _, _, i + 1, _, h, e => by
    obtain ⟨v, r, h1, h2, h3⟩ := h
    subst h1
    exact IsL.get (i := i) h3 e
theorem IsL.back : ∀ {ds : List D} {vs : List V} {i : Nat} {v : V}, IsL K S ds vs → vs[i]? = some v → ∃ d, ds[i]? = some d ∧ Is K S d v
  | [], _, _, _, h, e => by rw [IsL] at h; rw [h] at e; simp at e
  | d :: _, _, 0, _, h, e => by
    obtain ⟨v, r, h1, h2, h3⟩ := h
    subst h1
    have e' := Option.some.inj e
    subst e'
    exact ⟨d, rfl, h2⟩
  | _ :: _, _, i + 1, _, h, e => by
    obtain ⟨v, r, h1, h2, h3⟩ := h
    subst h1
    exact IsL.back (i := i) h3 e
theorem IsL.append : ∀ {ds es : List D} {vs us : List V}, IsL K S ds vs → IsL K S es us → IsL K S (ds ++ es) (vs ++ us)
  | [], _, _, _, h, g => by rw [IsL] at h; rw [h]; exact g
  | _ :: _, _, _, _, h, g => by
    obtain ⟨v, r, h1, h2, h3⟩ := h
    subst h1
    exact ⟨v, _, rfl, h2, IsL.append h3 g⟩
theorem IsL.set : ∀ {ds : List D} {vs : List V} {i : Nat} {d : D} {v : V}, IsL K S ds vs → Is K S d v → IsL K S (ds.set i d) (vs.set i v)
  | [], _, _, _, _, h, _ => by rw [IsL] at h; rw [h]; exact rfl
  | _ :: _, _, 0, _, _, h, g => by
    obtain ⟨v, r, h1, h2, h3⟩ := h
    subst h1
    exact ⟨_, r, rfl, g, h3⟩
  | _ :: _, _, i + 1, _, _, h, g => by
    obtain ⟨v, r, h1, h2, h3⟩ := h
    subst h1
    exact ⟨v, _, rfl, h2, IsL.set (i := i) h3 g⟩
theorem IsL.take : ∀ {ds : List D} {vs : List V} (n : Nat), IsL K S ds vs → IsL K S (ds.take n) (vs.take n)
  | _, _, 0, _ => rfl
  | [], _, n + 1, h => by rw [IsL] at h; rw [h]; exact rfl
  | _ :: _, _, n + 1, h => by
    obtain ⟨v, r, h1, h2, h3⟩ := h
    subst h1
    exact ⟨v, _, rfl, h2, IsL.take n h3⟩
theorem IsL.drop : ∀ {ds : List D} {vs : List V} (n : Nat), IsL K S ds vs → IsL K S (ds.drop n) (vs.drop n)
  | _, _, 0, h => h
  | [], _, n + 1, h => by rw [IsL] at h; rw [h]; exact rfl
  | _ :: _, _, n + 1, h => by
    obtain ⟨v, r, h1, h2, h3⟩ := h
    subst h1
    exact IsL.drop n h3
theorem IsL.ints : ∀ {ns : List Int} {vs : List V}, IsL K S (ns.map D.int) vs → vs = ns.map V.int
  | [], _, h => h
  | n :: ns, _, h => by
    obtain ⟨v, r, h1, h2, h3⟩ := h
    rw [h1, List.map_cons, IsL.ints h3]
    rw [Is] at h2
    rw [h2]
theorem isL_ints : ∀ (ns : List Int), IsL K S (ns.map D.int) (ns.map V.int)
  | [] => rfl
  | n :: ns => ⟨.int n, _, rfl, rfl, isL_ints ns⟩
theorem IsL.rep : ∀ {ds : List D} {vs : List V} (n : Nat), IsL K S ds vs → IsL K S (List.replicate n ds).flatten (List.replicate n vs).flatten
  | _, _, 0, _ => rfl
  | ds, vs, n + 1, h => by
    rw [List.replicate_succ, List.replicate_succ, List.flatten_cons, List.flatten_cons]
    exact h.append (IsL.rep n h)
end
def getK (kvs : List (Key × D)) (k : Key) : Option D := (kvs.find? fun kv => decide (kv.1 = k)).map (·.2)
def setK (kvs : List (Key × D)) (k : Key) (d : D) : List (Key × D) := if (kvs.any fun kv => decide (kv.1 = k)) = true then kvs.map fun kv => if kv.1 = k then (kv.1, d) else kv else kvs ++ [(k, d)]
end DL
set_option maxHeartbeats 2000000
namespace DL
open PySem L2

def PQ (K : PySem.W.Frag) (S : Hp) (as : List Addr) (k : Z → Cs → Prop) (Q : VK) : Prop :=
  ∀ (z : Z) (v : V) (S' H' : Hp) (as' : List Addr) (cs' : Cs), Ext S as S' as' → Rep K S' H' as' cs' → VZ K S' as' z v → k z cs' → Q v H'
def PB (K : PySem.W.Frag) (S : Hp) (as : List Addr) (k : Bool → Cs → Prop) (Q : Bool → Hp → Prop) : Prop :=
  ∀ (b : Bool) (S' H' : Hp) (as' : List Addr) (cs' : Cs), Ext S as S' as' → Rep K S' H' as' cs' → k b cs' → Q b H'
def PL (K : PySem.W.Frag) (S : Hp) (as : List Addr) (k : List Z → Cs → Prop) (Q : List V → Hp → Prop) : Prop :=
  ∀ (zs : List Z) (vs : List V) (S' H' : Hp) (as' : List Addr) (cs' : Cs), Ext S as S' as' → Rep K S' H' as' cs' → VZL K S' as' zs vs → k zs cs' → Q vs H'
def SemE (K : PySem.W.Frag) (te : TE) (t : DE) : Prop :=
  ∀ (σ : L2.St) (H S : Hp) (as : List Addr) (en : En) (cs : Cs) (k : Z → Cs → Prop) (Q : VK), Rep K S H as cs → EnvOk K S as en σ → t en cs k → PQ K S as k Q → te σ H Q
def SemT (K : PySem.W.Frag) (tt : TT) (t : DT) : Prop :=
  ∀ (σ : L2.St) (H S : Hp) (as : List Addr) (en : En) (cs : Cs) (k : Bool → Cs → Prop) (Q : Bool → Hp → Prop), Rep K S H as cs → EnvOk K S as en σ → t en cs k → PB K S as k Q → tt σ H Q
def SemA (K : PySem.W.Frag) (ta : TA) (t : DA) : Prop :=
  ∀ (σ : L2.St) (H S : Hp) (as : List Addr) (en : En) (cs : Cs) (k : List Z → Cs → Prop) (Q : List V → Hp → Prop), Rep K S H as cs → EnvOk K S as en σ → t en cs k → PL K S as k Q → ta σ H Q
structure QE (X : Cx) (e : Expr) (te : TE) (t : DE) : Prop where
  pe : PE X e te
  sem : SemE X.K te t
structure QT (X : Cx) (e : Expr) (tt : TT) (t : DT) : Prop where
  pt : PT X e tt
  sem : SemT X.K tt t
structure QA (X : Cx) (es : List Expr) (ta : TA) (t : DA) : Prop where
  pa : PA X es ta
  sem : SemA X.K ta t

section
variable {K : PySem.W.Frag} {S T H : Hp} {as bs : List Addr} {cs : Cs}
theorem PQ.mono {k : Z → Cs → Prop} {Q : VK} (e : Ext S as T bs) (h : PQ K S as k Q) : PQ K T bs k Q := fun z v S' H' as' cs' e' => h z v S' H' as' cs' (e.trans e')
theorem PB.mono {k : Bool → Cs → Prop} {Q : Bool → Hp → Prop} (e : Ext S as T bs) (h : PB K S as k Q) : PB K T bs k Q := fun b S' H' as' cs' e' => h b S' H' as' cs' (e.trans e')
theorem PL.mono {k : List Z → Cs → Prop} {Q : List V → Hp → Prop} (e : Ext S as T bs) (h : PL K S as k Q) : PL K T bs k Q := fun z v S' H' as' cs' e' => h z v S' H' as' cs' (e.trans e')
theorem SemE.use {te : TE} {t : DE} (h : SemE K te t) {σ : L2.St} {en : En} {k : Z → Cs → Prop} {Q : VK} (r : Rep K S H as cs) (e : EnvOk K S as en σ) (q : t en cs k) (p : PQ K S as k Q) : te σ H Q := h σ H S as en cs k Q r e q p
end

def withD (cs : Cs) (z : Z) (k : D → Prop) : Prop :=
  match z with
  | .d x => k x
  | .c n => match cs[n]? with
    | some x => k x
    | none => False
theorem withD_look {cs : Cs} {z : Z} {k : D → Prop} (h : withD cs z k) : ∃ d, look cs z = some d ∧ k d := by
  cases z with
  | d x => exact ⟨x, rfl, h⟩
  | c n =>
    have h' : (match cs[n]? with
      | some x => k x
      | none => False) := h
    show ∃ d, cs[n]? = some d ∧ k d
    cases e : cs[n]? with
    | none => rw [e] at h'; exact h'.elim
    | some x => rw [e] at h'; exact ⟨x, rfl, h'⟩
def withL (cs : Cs) : List Z → (List D → Prop) → Prop
  | [], k => k []
  | z :: zs, k => withD cs z fun x => withL cs zs fun xs => k (x :: xs)
def datL : List Z → (List D → Prop) → Prop
  | [], k => k []
  | .d x :: zs, k => datL zs fun xs => k (x :: xs)
  | .c _ :: _, _ => False
def ShL (K : PySem.W.Frag) (S H : Hp) : List D → List V → Prop
  | [], vs => vs = []
  | d :: ds, vs => ∃ v r, vs = v :: r ∧ Sh K S H d v ∧ ShL K S H ds r
section
variable {K : PySem.W.Frag} {S H : Hp} {as : List Addr} {cs : Cs}
theorem withL_sh (r : Rep K S H as cs) : ∀ {zs : List Z} {vs : List V} {k : List D → Prop}, VZL K S as zs vs → withL cs zs k → ∃ ds, ShL K S H ds vs ∧ k ds
  | [], _, _, h, q => by rw [h]; exact ⟨[], rfl, q⟩
  | z :: zs, _, _, ⟨v, vr, h1, h2, h3⟩, q => by
    obtain ⟨d, e, q⟩ := withD_look q
    obtain ⟨ds, s, q⟩ := withL_sh r h3 q
    exact ⟨d :: ds, ⟨v, vr, h1, look_sh r h2 e, s⟩, q⟩
theorem datL_is : ∀ {zs : List Z} {vs : List V} {k : List D → Prop}, VZL K S as zs vs → datL zs k → ∃ ds, IsL K S ds vs ∧ k ds
  | [], _, _, h, q => by rw [h]; exact ⟨[], rfl, q⟩
  | .d x :: zs, _, _, ⟨v, vr, h1, h2, h3⟩, q => by
    obtain ⟨ds, s, q⟩ := datL_is h3 q
    exact ⟨x :: ds, ⟨v, vr, h1, h2, s⟩, q⟩
  | .c _ :: _, _, _, _, q => q.elim
end

def dVar (i : Nat) : DE := fun en cs k =>
  match en[i]? with
  | some (some z) => k z cs
  | _ => False
def dC (x : D) : DE := fun _ cs k => k (.d x) cs
section
variable {X : Cx} {pos : Pos}
theorem sem_var {K : PySem.W.Frag} (i : Nat) : SemE K (tVar i) (dVar i) := by
  intro σ H S as en cs k Q r e h p
  unfold dVar at h
  split at h
  · rename_i z hz
    obtain ⟨v, h1, h2⟩ := e.at_ i z hz
    exact ⟨v, h1, p z v S H as cs Ext.refl r h2 h⟩
  · exact h.elim
theorem sem_c {K : PySem.W.Frag} {x : D} {v : V} (h : ∀ S, Is K S x v) : SemE K (tC v) (dC x) := fun σ H S as en cs k Q r e q p => p (.d x) v S H as cs Ext.refl r (h S) q
theorem qv (i : Nat) {x : Str} (hN : X.N[i]? = some x := by rfl) (hv : Vis X.env.scope x := by first | exact Or.inl rfl | exact Or.inr (Or.inl rfl) | exact Or.inr (Or.inr rfl)) (hd : (x == ("__debug__" : Str)) = false := by decide)
    (hcd : (x == ("__classdict__" : Str)) = false := by decide) : QE X (.Name x pos) (tVar i) (dVar i) := ⟨pe_var hN hv hd hcd, sem_var i⟩
theorem q_int {i : Int} {j} : QE X (.Constant (.int i) j pos) (tC (.int i)) (dC (.int i)) := ⟨pe_int, sem_c fun _ => rfl⟩
theorem q_bl {b : Bool} {j} : QE X (.Constant (.bool b) j pos) (tC (.bl b)) (dC (.bl b)) := ⟨pe_bl, sem_c fun _ => rfl⟩
theorem q_non {j} : QE X (.Constant .none j pos) (tC .non) (dC .non) := ⟨pe_non, sem_c fun _ => rfl⟩
theorem q_str {x : Str} {j} : QE X (.Constant (.str x) j pos) (tC (.str x)) (dC (.str x)) := ⟨pe_str, sem_c fun _ => rfl⟩
def Op2 (K : PySem.W.Frag) (r : R2) (f : D → D → (D → Prop) → Prop) : Prop :=
  ∀ (S H : Hp) (as : List Addr) (cs : Cs) (dx dy : D) (x y : V) (k : D → Prop) (Q : VK), Rep K S H as cs → Sh K S H dx x → Sh K S H dy y → f dx dy k →
    (∀ (z : D) (v : V) (S' H' : Hp), Sub S S' → Rep K S' H' as cs → Is K S' z v → k z → Q v H') → r x y H Q
def dOp (f : D → D → (D → Prop) → Prop) (a b : DE) : DE := fun en cs k => a en cs fun x cs1 => b en cs1 fun y cs2 => withD cs2 x fun dx => withD cs2 y fun dy => f dx dy fun z => k (.d z) cs2
theorem sem_op {K : PySem.W.Frag} {r : R2} {f : D → D → (D → Prop) → Prop} {ta tb : TE} {da db : DE} (h : Op2 K r f) (ha : SemE K ta da) (hb : SemE K tb db) : SemE K (tOp r ta tb) (dOp f da db) := by
  intro σ H S as en cs k Q rp e q p
  refine ha.use rp e q fun z v S1 H1 as1 cs1 e1 r1 v1 q1 => ?_
  refine hb.use r1 (e.mono e1) q1 fun z2 v2 S2 H2 as2 cs2 e2 r2 w2 q2 => ?_
  obtain ⟨dx, l1, q2⟩ := withD_look q2
  obtain ⟨dy, l2, q2⟩ := withD_look q2
  refine h S2 H2 as2 cs2 dx dy v v2 _ Q r2 (look_sh r2 (v1.mono e2) l1) (look_sh r2 w2 l2) q2 fun z w S' H' s' r' i' k' => ?_
  exact p (.d z) w S' H' as2 cs2 ((e1.trans e2).trans (Ext.of s')) r' i' k'
theorem q_op {op : Operator} {r : R2} {f : D → D → (D → Prop) → Prop} {a b : Expr} {ta tb : TE} {da db : DE} (ho : OpR X (binaryOp op) r) (h : Op2 X.K r f) (ha : QE X a ta da) (hb : QE X b tb db) : QE X (.BinOp a op b pos) (tOp r ta tb) (dOp f da db) :=
  ⟨pe_op ho ha.pe hb.pe, sem_op h ha.sem hb.sem⟩
theorem q_cmp {op : CmpOp} {r : R2} {f : D → D → (D → Prop) → Prop} {a b : Expr} {ta tb : TE} {da db : DE} (ho : OpR X (compareOp op) r) (h : Op2 X.K r f) (ha : QE X a ta da) (hb : QE X b tb db) (hm : behindInMarks op b = false) : QE X (.Compare a [op] [b] pos) (tOp r ta tb) (dOp f da db) :=
  ⟨pe_cmpR ho ha.pe hb.pe hm, sem_op h ha.sem hb.sem⟩
theorem q_ix {r : R2} {f : D → D → (D → Prop) → Prop} {a b : Expr} {ta tb : TE} {da db : DE} (ho : IxR X r) (h : Op2 X.K r f) (ha : QE X a ta da) (hb : QE X b tb db) (hs : PlainIx b) : QE X (.Subscript a b pos) (tOp r ta tb) (dOp f da db) :=
  ⟨pe_ix ho ha.pe hb.pe hs, sem_op h ha.sem hb.sem⟩
def dChain (f g : D → D → (D → Prop) → Prop) (a b c : DE) : DE := fun en cs k => a en cs fun x cs1 => b en cs1 fun y cs2 => withD cs2 x fun dx => withD cs2 y fun dy => f dx dy fun z => ∃ q, z = .bl q ∧
  if q = true then c en cs2 fun w cs3 => withD cs3 y fun dy => withD cs3 w fun dw => g dy dw fun z => k (.d z) cs3 else k (.d (.bl false)) cs2
def dUn (f : D → (D → Prop) → Prop) (a : DE) : DE := fun en cs k => a en cs fun x cs1 => withD cs1 x fun dx => f dx fun z => k (.d z) cs1
def dB (a : DE) : DT := fun en cs k => a en cs fun x cs1 => ∃ b, x = .d (.bl b) ∧ k b cs1
theorem q_val {a : Expr} {ta : TE} {da : DE} (ha : QE X a ta da) (he : ∀ whole, isTrue a X.env whole = (do let v ← whole; standAt a.pos; holding [v] (truthy v)) := by intro _; rfl) : QT X a (tB ta) (dB da) := by
  refine ⟨pt_val ha.pe he, ?_⟩
  intro σ H S as en cs k Q rp e q p
  refine ha.sem.use rp e q fun z v S1 H1 as1 cs1 e1 r1 v1 q1 => ?_
  obtain ⟨b, rfl, q1⟩ := q1
  exact ⟨b, v1, p b S1 H1 as1 cs1 e1 r1 q1⟩
theorem q_cmpT {op : CmpOp} {r : R2} {f : D → D → (D → Prop) → Prop} {a b : Expr} {ta tb : TE} {da db : DE} (ho : OpR X (compareOp op) r) (h : Op2 X.K r f) (ha : QE X a ta da) (hb : QE X b tb db) (hm : behindInMarks op b = false) : QT X (.Compare a [op] [b] pos) (tTest (tOp r ta tb)) (dB (dOp f da db)) := by
  refine ⟨pt_cmpR ho ha.pe hb.pe hm, ?_⟩
  intro σ H S as en cs k Q rp e q p
  refine (sem_op h ha.sem hb.sem).use rp e q fun z v S1 H1 as1 cs1 e1 r1 v1 q1 => ?_
  obtain ⟨b, rfl, q1⟩ := q1
  exact ⟨b, v1, p b S1 H1 as1 cs1 e1 r1 q1⟩
def dNot (t : DT) : DT := fun en cs k => t en cs fun b cs1 => k (!b) cs1
theorem q_notT {a : Expr} {ta : TT} {da : DT} (ha : QT X a ta da) : QT X (.UnaryOp .Not a pos) (tNot ta) (dNot da) := by
  refine ⟨pt_not ha.pt, ?_⟩
  intro σ H S as en cs k Q rp e q p
  exact ha.sem σ H S as en cs _ _ rp e q fun b S1 H1 as1 cs1 e1 r1 q1 => p (!b) S1 H1 as1 cs1 e1 r1 q1
structure QW (X : Cx) (e : Expr) (tt : TT) (t : DT) : Prop where
  pw : PW X e tt
  sem : SemT X.K tt t
theorem QW.t {e : Expr} {tt : TT} {t : DT} (h : QW X e tt t) : QT X e tt t := ⟨h.pw.pt, h.sem⟩
def dAnd (t u : DT) : DT := fun en cs k => t en cs fun b cs1 => if b = true then u en cs1 k else k false cs1
def dOr (t u : DT) : DT := fun en cs k => t en cs fun b cs1 => if b = true then k true cs1 else u en cs1 k
theorem q_or1 {a : Expr} {ta : TT} {da : DT} (ha : QT X a ta da) : QW X (.BoolOp .Or [a] pos) ta da := ⟨pw_or1 ha.pt, ha.sem⟩
theorem q_orT {a b : Expr} {rest : List Expr} {ta tb : TT} {da db : DT} (ha : QT X a ta da) (hb : QW X (.BoolOp .Or (b :: rest) pos) tb db) : QW X (.BoolOp .Or (a :: b :: rest) pos) (tOr ta tb) (dOr da db) := by
  refine ⟨pw_or ha.pt hb.pw, ?_⟩
  intro σ H S as en cs k Q rp e q p
  refine ha.sem σ H S as en cs _ _ rp e q fun b S1 H1 as1 cs1 e1 r1 q1 => ?_
  cases b with
  | true =>
    rw [if_pos rfl] at q1 ⊢
    exact p true S1 H1 as1 cs1 e1 r1 q1
  | false =>
    rw [if_neg Bool.false_ne_true] at q1 ⊢
    exact hb.sem σ H1 S1 as1 en cs1 k Q r1 (e.mono e1) q1 (p.mono e1)
def dAndV (a b : DE) : DE := fun en cs k => a en cs fun x cs1 => ∃ c, x = .d (.bl c) ∧ if c = true then b en cs1 k else k (.d (.bl false)) cs1
def dOrV (a b : DE) : DE := fun en cs k => a en cs fun x cs1 => ∃ c, x = .d (.bl c) ∧ if c = true then k (.d (.bl true)) cs1 else b en cs1 k
def dNotV (a : DE) : DE := fun en cs k => a en cs fun x cs1 => ∃ c, x = .d (.bl c) ∧ k (.d (.bl (!c))) cs1
theorem q_one {op : BoolOp} {a : Expr} {ta : TE} {da : DE} (ha : QE X a ta da) : QE X (.BoolOp op [a] pos) ta da := ⟨pe_one ha.pe, ha.sem⟩
theorem q_and {a b : Expr} {rest : List Expr} {ta tb : TE} {da db : DE} (ha : QE X a ta da) (hb : QE X (.BoolOp .And (b :: rest) pos) tb db) : QE X (.BoolOp .And (a :: b :: rest) pos) (tAndV ta tb) (dAndV da db) := by
  refine ⟨pe_and ha.pe hb.pe, ?_⟩
  intro σ H S as en cs k Q rp e q p
  refine ha.sem.use rp e q fun z v S1 H1 as1 cs1 e1 r1 v1 q1 => ?_
  obtain ⟨c, rfl, q1⟩ := q1
  refine ⟨c, v1, ?_⟩
  cases c with
  | true =>
    rw [if_pos rfl] at q1 ⊢
    exact hb.sem.use r1 (e.mono e1) q1 (p.mono e1)
  | false =>
    rw [if_neg Bool.false_ne_true] at q1 ⊢
    exact p (.d (.bl false)) (.bl false) S1 H1 as1 cs1 e1 r1 rfl q1
def dIf (t : DT) (a b : DE) : DE := fun en cs k => t en cs fun c cs1 => if c = true then a en cs1 k else b en cs1 k
def dNil : DA := fun _ cs k => k [] cs
def dCons (a : DE) (r : DA) : DA := fun en cs k => a en cs fun x cs1 => r en cs1 fun xs cs2 => k (x :: xs) cs2
theorem qa_nil : QA X [] tNil dNil := ⟨pa_nil, fun σ H S as en cs k Q r e q p => p [] [] S H as cs Ext.refl r rfl q⟩
theorem qa_cons {a : Expr} {es : List Expr} {ta : TE} {tr : TA} {da : DE} {dr : DA} (ha : QE X a ta da) (hr : QA X es tr dr) (hs : starEach (a :: es) X.env = (false, eval a X.env) :: starEach es X.env := by rfl) : QA X (a :: es) (tCons ta tr) (dCons da dr) := by
  refine ⟨pa_cons ha.pe hr.pa hs, ?_⟩
  intro σ H S as en cs k Q rp e q p
  refine ha.sem.use rp e q fun z v S1 H1 as1 cs1 e1 r1 v1 q1 => ?_
  refine hr.sem σ H1 S1 as1 en cs1 _ _ r1 (e.mono e1) q1 fun zs vs S2 H2 as2 cs2 e2 r2 w2 q2 => ?_
  exact p (z :: zs) (v :: vs) S2 H2 as2 cs2 (e1.trans e2) r2 ⟨v, vs, rfl, v1.mono e2, w2⟩ q2
def dTup (a : DA) : DE := fun en cs k => a en cs fun zs cs1 => datL zs fun ds => ds.length ≤ LIM ∧ k (.d (.tup ds)) cs1
def dLst (a : DA) : DE := fun en cs k => a en cs fun zs cs1 => datL zs fun ds => ds.length ≤ LIM ∧ k (.d (.lst ds)) cs1
def dLstC (a : DA) : DE := fun en cs k => a en cs fun zs cs1 => datL zs fun ds => ds.length ≤ LIM ∧ k (.c cs1.length) (cs1 ++ [.lst ds])
theorem size_of {n : Nat} (h : n ≤ LIM) : n ≤ sizeLine := Nat.le_trans h (by decide)
theorem size_lt {n : Nat} (h : n < LIM) : n < sizeLine := Nat.lt_of_lt_of_le h (by decide)
theorem Rep.get_new {K : PySem.W.Frag} {S H : Hp} {as : List Addr} {cs : Cs} (r : Rep K S H as cs) (p : Addr) : (as ++ [p])[cs.length]? = some p := by
  rw [← r.len, List.getElem?_append_right (Nat.le_refl _), Nat.sub_self]
  rfl
theorem q_tup {es : List Expr} {x1} {ta : TA} {da : DA} (ha : QA X es ta da) : QE X (.Tuple es x1 pos) (tTup ta) (dTup da) := by
  refine ⟨pe_tup ha.pa, ?_⟩
  intro σ H S as en cs k Q rp e q p
  refine ha.sem σ H S as en cs _ _ rp e q fun zs vs S1 H1 as1 cs1 e1 r1 v1 q1 => ?_
  obtain ⟨ds, i, hz, q1⟩ := datL_is v1 q1
  refine ⟨by rw [i.len]; exact size_of hz, fun a na => ?_⟩
  refine p (.d (.tup ds)) (.ref a) _ _ as1 cs1 (e1.trans (r1.ext na (.tup vs))) (r1.lay na _) ⟨a, vs, rfl, SqT.of upd_same, IsL.mono (Sub.new (r1.sub.free na)) _ _ i⟩ q1
theorem q_lst {es : List Expr} {ta : TA} {da : DA} (ha : QA X es ta da) : QE X (.List es pos) (tLst ta) (dLst da) := by
  refine ⟨pe_lst ha.pa, ?_⟩
  intro σ H S as en cs k Q rp e q p
  refine ha.sem σ H S as en cs _ _ rp e q fun zs vs S1 H1 as1 cs1 e1 r1 v1 q1 => ?_
  obtain ⟨ds, i, hz, q1⟩ := datL_is v1 q1
  refine ⟨by rw [i.len]; exact size_of hz, fun a na => ?_⟩
  refine p (.d (.lst ds)) (.ref a) _ _ as1 cs1 (e1.trans (r1.ext na (.lst vs))) (r1.lay na _) ⟨a, vs, rfl, upd_same, IsL.mono (Sub.new (r1.sub.free na)) _ _ i⟩ q1
theorem q_lstC {es : List Expr} {ta : TA} {da : DA} (ha : QA X es ta da) : QE X (.List es pos) (tLst ta) (dLstC da) := by
  refine ⟨pe_lst ha.pa, ?_⟩
  intro σ H S as en cs k Q rp e q p
  refine ha.sem σ H S as en cs _ _ rp e q fun zs vs S1 H1 as1 cs1 e1 r1 v1 q1 => ?_
  obtain ⟨ds, i, hz, q1⟩ := datL_is v1 q1
  refine ⟨by rw [i.len]; exact size_of hz, fun a na => ?_⟩
  refine p (.c cs1.length) (.ref a) S1 _ (as1 ++ [a]) _ (e1.trans ⟨Sub.refl _, [a], rfl⟩) (r1.cell na (c := .lst ds) ⟨r1.sub.free na, vs, upd_same, i⟩) ⟨a, r1.get_new a, rfl⟩ q1

def Cl (K : PySem.W.Frag) (r : List V → Hp → VK → Prop) (f : List D → (D → Prop) → Prop) : Prop :=
  ∀ (S H : Hp) (as : List Addr) (cs : Cs) (ds : List D) (vs : List V) (k : D → Prop) (Q : VK), Rep K S H as cs → ShL K S H ds vs → f ds k →
    (∀ (z : D) (v : V) (S' H' : Hp), Sub S S' → Rep K S' H' as cs → Is K S' z v → k z → Q v H') → r vs H Q
def dCB (f : List D → (D → Prop) → Prop) (a : DA) : DE := fun en cs k => a en cs fun zs cs1 => withL cs1 zs fun ds => f ds fun z => k (.d z) cs1
theorem sem_cb {K : PySem.W.Frag} {r : List V → Hp → VK → Prop} {f : List D → (D → Prop) → Prop} {ta : TA} {da : DA} (h : Cl K r f) (ha : SemA K ta da) : SemE K (tCB r ta) (dCB f da) := by
  intro σ H S as en cs k Q rp e q p
  refine ha σ H S as en cs _ _ rp e q fun zs vs S1 H1 as1 cs1 e1 r1 v1 q1 => ?_
  obtain ⟨ds, s, q1⟩ := withL_sh r1 v1 q1
  exact h S1 H1 as1 cs1 ds vs _ Q r1 s q1 fun z v S' H' s' r' i' k' => p (.d z) v S' H' as1 cs1 (e1.trans (Ext.of s')) r' i' k'
theorem q_callB {id : String} {x : Str} {p : Pos} {a : Expr} {es : List Expr} {r : List V → Hp → VK → Prop} {f : List D → (D → Prop) → Prop} {ta : TA} {da : DA} (hc : CallR X (.builtin id) r) (h : Cl X.K r f) (hm : X.mg x = none) (hv : bootBuiltins x = some (.builtin id)) (ha : QA X (a :: es) ta da) (hg : Gl X x := by rfl) (hn : x ≠ "__name__" := by decide) (hdb : (x == ("__debug__" : Str)) = false := by decide)
    (he : starEach (a :: es) X.env = (false, eval a X.env) :: starEach es X.env := by rfl) (hpl : (backTo pos (starEach es X.env)).any (·.1) = false := by rfl) : QE X (.Call (.Name x p) (a :: es) [] pos) (tCB r ta) (dCB f da) :=
  ⟨pe_callB hc hg hm hv ha.pa hn hdb he hpl, sem_cb h ha.sem⟩
end
end DL
set_option maxHeartbeats 2000000
namespace DL
open PySem L2

mutual
def py : D → PyData
  | .non => .none
  | .bl b => .bool b
  | .int i => .int i
  | .str x => .str x
  | .tup ds => .tuple (pyL ds)
  | .lst ds => .list (pyL ds)
  | .scr ns => .list (ns.map .int)
  | .dic _ => .none
  | .ty _ => .none
  | .obj _ => .none
  | .ob _ _ _ => .none
  | .cel _ _ => .none
def pyL : List D → List PyData
  | [] => []
  | d :: ds => py d :: pyL ds
end
mutual
def pyOk : D → Bool
  | .non => true
  | .bl _ => true
  | .int _ => true
  | .str _ => true
  | .tup ds => pyOkL ds
  | .lst ds => pyOkL ds
  | .scr _ => true
  | .dic _ => false
  | .ty _ => false
  | .obj _ => false
  | .ob _ _ _ => false
  | .cel _ _ => false
def pyOkL : List D → Bool
  | [] => true
  | d :: ds => pyOk d && pyOkL ds
end
theorem dp_ints (K : PySem.W.Frag) (H : Hp) : ∀ ns : List Int, DpAll K H (ns.map V.int) (ns.map PyData.int)
  | [] => .nil
  | n :: ns => .cons (.int n) (dp_ints K H ns)
mutual
theorem Is.dp {K : PySem.W.Frag} {S H : Hp} (e : Sub S H) : ∀ (d : D) (v : V), Is K S d v → pyOk d = true → Dp K H v (py d)
  | .non, v, h, _ => by rw [Is] at h; subst h; exact .non
  | .bl b, v, h, _ => by rw [Is] at h; subst h; exact .bl b
  | .int i, v, h, _ => by rw [Is] at h; subst h; exact .int i
  | .str x, v, h, _ => by rw [Is] at h; subst h; exact .str x
  | .tup ds, v, h, o => by
    obtain ⟨a, vs, rfl, h2, h3⟩ := h
    exact .tup (e.t h2) (IsL.dp e ds vs h3 o)
  | .lst ds, v, h, o => by
    obtain ⟨a, vs, rfl, h2, h3⟩ := h
    exact .lst (SqL.of (e _ _ h2)) (IsL.dp e ds vs h3 o)
  | .scr ns, v, h, _ => by
    obtain ⟨a, rfl, h2⟩ := h
    exact .lst (e.l h2) (dp_ints K H ns)
  | .dic _, _, _, o => Bool.noConfusion o
  | .ty _, _, _, o => Bool.noConfusion o
  | .obj _, _, _, o => Bool.noConfusion o
  | .ob _ _ _, _, _, o => Bool.noConfusion o
  | .cel _ _, _, _, o => Bool.noConfusion o
theorem IsL.dp {K : PySem.W.Frag} {S H : Hp} (e : Sub S H) : ∀ (ds : List D) (vs : List V), IsL K S ds vs → pyOkL ds = true → DpAll K H vs (pyL ds)
  | [], _, h, _ => by rw [IsL] at h; subst h; exact .nil
  | d :: ds, _, h, o => by
    obtain ⟨v, r, rfl, h2, h3⟩ := h
    have o' : (pyOk d && pyOkL ds) = true := o
    rw [Bool.and_eq_true] at o'
    exact .cons (Is.dp e d v h2 o'.1) (IsL.dp e ds r h3 o'.2)
end
theorem Sh.dp {K : PySem.W.Frag} {S H : Hp} (e : Sub S H) : ∀ (d : D) (v : V), Sh K S H d v → pyOk d = true → Dp K H v (py d)
  | .lst ds, v, h, o => by
    obtain ⟨a, vs, rfl, h2, h3⟩ := h
    exact .lst (SqL.of h2) (IsL.dp e ds vs h3 o)
  | .tup ds, v, h, o => Is.dp e (.tup ds) v h o
  | .scr ns, v, h, o => Is.dp e (.scr ns) v h o
  | .non, v, h, o => Is.dp e .non v h o
  | .bl b, v, h, o => Is.dp e (.bl b) v h o
  | .int i, v, h, o => Is.dp e (.int i) v h o
  | .str x, v, h, o => Is.dp e (.str x) v h o
  | .dic _, _, _, o => Bool.noConfusion o
  | .ty _, _, _, o => Bool.noConfusion o
  | .obj _, _, _, o => Bool.noConfusion o
  | .ob _ _ _, _, _, o => Bool.noConfusion o
  | .cel _ _, _, _, o => Bool.noConfusion o

def Sm (i : Int) : Prop := i.natAbs < 2 ^ 100000
def Dv (j : Int) : Prop := 0 < j ∧ j.natAbs < 2 ^ 8000
def Sz (n : Nat) (i : Int) : Prop := i.natAbs < 2 ^ n
theorem Sz.sm {n : Nat} {i : Int} (h : Sz n i) (l : n ≤ 100000) : Sm i := Nat.lt_of_lt_of_le h (Nat.pow_le_pow_right (by decide) l)
theorem Sz.dv {n : Nat} {i : Int} (h : Sz n i) (l : n ≤ 8000) (p : 0 < i) : Dv i := ⟨p, Nat.lt_of_lt_of_le h (Nat.pow_le_pow_right (by decide) l)⟩
theorem Sz.le {m n : Nat} {i : Int} (h : Sz m i) (l : m ≤ n) : Sz n i := Nat.lt_of_lt_of_le h (Nat.pow_le_pow_right (by decide) l)
theorem Sz.sub {m n : Nat} {i j : Int} (h : Sz m i) (g : Sz n j) : Sz (m + n + 1) (i - j) := by
  have h' := h.le (Nat.le_add_right m n)
  have g' := g.le (Nat.le_add_left n m)
  unfold Sz at *
  rw [Nat.pow_succ]
  omega
theorem Sz.of {n : Nat} {i : Int} (h1 : -((2 ^ n : Nat) : Int) < i) (h2 : i < ((2 ^ n : Nat) : Int)) : Sz n i := by
  unfold Sz
  omega
theorem Sm.of {i : Int} (h1 : -(10 ^ 200) < i) (h2 : i < 10 ^ 200) : Sm i := by
  have e : (10 : Int) ^ 200 ≤ ((2 ^ 700 : Nat) : Int) := by decide +kernel
  exact (Sz.of (n := 700) (by omega) (by omega)).sm (by decide)
theorem Dv.of {i : Int} (h1 : 0 < i) (h2 : i < 10 ^ 200) : Dv i := by
  have e : (10 : Int) ^ 200 ≤ ((2 ^ 700 : Nat) : Int) := by decide +kernel
  exact (Sz.of (n := 700) (by omega) (by omega)).dv (by decide) h1
theorem Sm.mulW {i j : Int} (h : Sm i) (g : Sm j) : CMulW i j := wide_mul h g (by decide) (by decide) (by decide)
theorem Dv.divW {i j : Int} (h : Dv j) : CDivW i j := wide_div h.1 h.2 (by decide) (by decide)

abbrev rOr (r r' : R2) : R2 := fun x y H Q => r x y H Q ∨ r' x y H Q
def rAddS : R2 := fun x y H Q => ∃ i j, x = .str i ∧ y = .str j ∧ i.length + j.length ≤ sizeLine ∧ Q (.str (i ++ j)) H
def rAddU (K : PySem.W.Frag) : R2 := rOr (rI0 fun i j => .int (i + j)) (rOr rAddS (rOr (rCatA K) rCat))
def rMulU (K : PySem.W.Frag) : R2 := rOr (rI CMulW fun i j => .int (i * j)) (rOr (rRepT K) rRep)
def CPowW (i j : Int) : Prop := 0 ≤ j ∧ (Builtin.Int.intBits i : Int) * j ≤ 2 ^ 27
section
variable {X : Cx}
theorem op_addU : OpR X (binaryOp .Add) (rAddU X.K) := OpR.or op_add (OpR.or op_add_str (OpR.or op_catA op_cat))
theorem op_mulU : OpR X (binaryOp .Mult) (rMulU X.K) := OpR.or op_mulW (OpR.or op_repT op_rep)
theorem op_powW : OpR X (binaryOp .Pow) (rI CPowW fun i j => .int (i ^ j.toNat)) := opI fun _ _ _ _ _ _ _ hc q => PyProof.Rows.pow_int hc.1 hc.2 q
end
def addD : D → D → (D → Prop) → Prop
  | .int i, .int j, k => k (.int (i + j))
  | .str a, .str b, k => a.length + b.length ≤ sizeLine ∧ k (.str (a ++ b))
  | .tup a, .tup b, k => a.length + b.length ≤ LIM ∧ k (.tup (a ++ b))
  | .lst a, .lst b, k => a.length + b.length ≤ LIM ∧ k (.lst (a ++ b))
  | _, _, _ => False
def subD : D → D → (D → Prop) → Prop
  | .int i, .int j, k => k (.int (i - j))
  | _, _, _ => False
def mulD : D → D → (D → Prop) → Prop
  | .int i, .int j, k => (Sm i ∧ Sm j) ∧ k (.int (i * j))
  | .tup a, .int n, k => (a ≠ [] ∧ 2 ≤ n ∧ n ≤ 1000 ∧ a.length ≤ 1000) ∧ k (.tup (List.replicate n.toNat a).flatten)
  | .lst a, .int n, k => (0 ≤ n ∧ n ≤ 100000 ∧ a.length ≤ 1000 ∧ a.length * n.toNat ≤ LIM) ∧ k (.lst (List.replicate n.toNat a).flatten)
  | _, _, _ => False
def fdivD : D → D → (D → Prop) → Prop
  | .int i, .int j, k => Dv j ∧ k (.int (i / j))
  | _, _, _ => False
def modD : D → D → (D → Prop) → Prop
  | .int i, .int j, k => 0 < j ∧ k (.int (i % j))
  | _, _, _ => False
def powD : D → D → (D → Prop) → Prop
  | .int i, .int j, k => (0 ≤ j ∧ j ≤ 1000 ∧ Sm i) ∧ k (.int (i ^ j.toNat))
  | _, _, _ => False
def negD : D → (D → Prop) → Prop
  | .int i, k => k (.int (-i))
  | _, _ => False
def cmpI (p : Int → Int → Bool) : D → D → (D → Prop) → Prop
  | .int i, .int j, k => k (.bl (p i j))
  | _, _, _ => False
abbrev ltD := cmpI fun i j => decide (i < j)
abbrev leD := cmpI fun i j => decide (i ≤ j)
abbrev gtD := cmpI fun i j => decide (j < i)
abbrev geD := cmpI fun i j => decide (j ≤ i)
def EqOk (d : D) : Prop := pyOk d = true ∧ SeqAt.shaped (py d) = true
def eqvD (x y : D) : Bool := PyData.eqv (py x) (py y)
def eqD : D → D → (D → Prop) → Prop := fun x y k => (EqOk x ∧ EqOk y) ∧ k (.bl (eqvD x y))
def neD : D → D → (D → Prop) → Prop := fun x y k => (EqOk x ∧ EqOk y) ∧ k (.bl (!eqvD x y))
def isNonD : D → Bool
  | .non => true
  | _ => false
def isD : D → D → (D → Prop) → Prop
  | x, .non, k => k (.bl (isNonD x))
  | .bl a, .bl b, k => k (.bl (decide (a = b)))
  | _, _, _ => False
def isNotD : D → D → (D → Prop) → Prop
  | x, .non, k => k (.bl (!isNonD x))
  | .bl a, .bl b, k => k (.bl (!decide (a = b)))
  | _, _, _ => False
def atD (ds : List D) (i : Int) (k : D → Prop) : Prop :=
  match atI ds i with
  | some d => k d
  | none => False
def ixD : D → D → (D → Prop) → Prop
  | .tup ds, .int i, k => atD ds i k
  | .lst ds, .int i, k => atD ds i k
  | .scr ns, .int i, k => ∃ n, atI ns i = some n ∧ k (.int n)
  | _, _, _ => False

section
variable {K : PySem.W.Frag}
theorem sh_int {S H : Hp} {i : Int} {v : V} (h : Sh K S H (.int i) v) : v = .int i := h
theorem sh_str {S H : Hp} {i : Str} {v : V} (h : Sh K S H (.str i) v) : v = .str i := h
theorem o_int {C : Int → Int → Prop} {g : Int → Int → Int} {f : D → D → (D → Prop) → Prop} (hf : ∀ x y k, f x y k → ∃ i j, x = .int i ∧ y = .int j ∧ C i j ∧ k (.int (g i j))) : Op2 K (rI C fun i j => .int (g i j)) f := by
  intro S H as cs dx dy x y k Q r hx hy h q
  obtain ⟨i, j, rfl, rfl, hc, hk⟩ := hf _ _ _ h
  exact ⟨i, j, hx, hy, hc, q (.int (g i j)) _ S H (Sub.refl S) r rfl hk⟩
theorem o_sub : Op2 K (rI0 fun i j => .int (i - j)) subD := by
  intro S H as cs dx dy x y k Q r hx hy h q
  unfold subD at h
  split at h
  · exact ⟨_, _, hx, hy, q (.int _) _ S H (Sub.refl S) r rfl h⟩
  · exact h.elim
theorem o_cmp {p : Int → Int → Bool} : Op2 K (rI0 fun i j => .bl (p i j)) (cmpI p) := by
  intro S H as cs dx dy x y k Q r hx hy h q
  unfold cmpI at h
  split at h
  · exact ⟨_, _, hx, hy, q (.bl _) _ S H (Sub.refl S) r rfl h⟩
  · exact h.elim
theorem o_mod : Op2 K (rI (fun _ j => 0 < j) fun i j => .int (i % j)) modD := o_int fun x y k h => by
  unfold modD at h
  split at h
  · exact ⟨_, _, rfl, rfl, h.1, h.2⟩
  · exact h.elim
theorem o_fdiv : Op2 K (rI CDivW fun i j => .int (i / j)) fdivD := o_int fun x y k h => by
  unfold fdivD at h
  split at h
  · exact ⟨_, _, rfl, rfl, h.1.divW, h.2⟩
  · exact h.elim
theorem o_pow : Op2 K (rI CPowW fun i j => .int (i ^ j.toNat)) powD := o_int fun x y k h => by
  unfold powD at h
  split at h
  · rename_i i j
    obtain ⟨⟨h0, h1, h2⟩, h3⟩ := h
    refine ⟨_, _, rfl, rfl, ⟨h0, ?_⟩, h3⟩
    have b : Builtin.Int.intBits i ≤ i.natAbs.log2 + 1 := by
      unfold Builtin.Int.intBits
      split <;> omega
    have l : i.natAbs.log2 < 100000 := PySem.Flt.log2_lt_of (by decide) h2
    have hb : (Builtin.Int.intBits i : Int) ≤ 100000 := by omega
    have h4 : (Builtin.Int.intBits i : Int) * j ≤ 100000 * j := Int.mul_le_mul_of_nonneg_right hb h0
    have h5 : 100000 * j ≤ 100000 * 1000 := Int.mul_le_mul_of_nonneg_left h1 (by decide)
    have h6 : (100000 * 1000 : Int) ≤ 2 ^ 27 := by decide
    exact Int.le_trans h4 (Int.le_trans h5 h6)
  · exact h.elim
theorem o_add : Op2 K (rAddU K) addD := by
  intro S H as cs dx dy x y k Q r hx hy h q
  unfold addD at h
  split at h
  · exact .inl ⟨_, _, hx, hy, q (.int _) _ S H (Sub.refl S) r rfl h⟩
  · exact .inr (.inl ⟨_, _, hx, hy, h.1, q (.str _) _ S H (Sub.refl S) r rfl h.2⟩)
  · obtain ⟨a, vs, rfl, hs, is⟩ := hx
    obtain ⟨b, us, rfl, ht, it⟩ := hy
    obtain ⟨hz, hk⟩ := h
    refine .inr (.inr (.inl ⟨a, b, vs, us, rfl, rfl, r.sub.t hs, r.sub.t ht, by rw [is.len, it.len]; exact size_of hz, fun e => ?_, fun _ e => ?_, fun _ _ p hp => ?_⟩))
    · have i2 := is.append it
      rw [e, List.nil_append] at i2
      exact q (.tup _) _ S H (Sub.refl S) r ⟨b, us, rfl, ht, i2⟩ hk
    · have i2 := is.append it
      rw [e, List.append_nil] at i2
      exact q (.tup _) _ S H (Sub.refl S) r ⟨a, vs, rfl, hs, i2⟩ hk
    · have hn := Sub.new (o := .tup (vs ++ us)) (r.sub.free hp)
      exact q (.tup _) _ _ _ hn (r.lay hp _) ⟨p, vs ++ us, rfl, SqT.of upd_same, IsL.mono hn _ _ (is.append it)⟩ hk
  · obtain ⟨a, vs, rfl, hs, is⟩ := hx
    obtain ⟨b, us, rfl, ht, it⟩ := hy
    obtain ⟨hz, hk⟩ := h
    refine .inr (.inr (.inr ⟨a, b, vs, us, rfl, rfl, hs, ht, by rw [is.len, it.len]; exact size_of hz, fun p hp => ?_⟩))
    have hn := Sub.new (o := .lst (vs ++ us)) (r.sub.free hp)
    exact q (.lst _) _ _ _ hn (r.lay hp _) ⟨p, vs ++ us, rfl, upd_same, IsL.mono hn _ _ (is.append it)⟩ hk
  · exact h.elim
theorem o_mul : Op2 K (rMulU K) mulD := by
  intro S H as cs dx dy x y k Q r hx hy h q
  unfold mulD at h
  split at h
  · exact .inl ⟨_, _, hx, hy, h.1.1.mulW h.1.2, q (.int _) _ S H (Sub.refl S) r rfl h.2⟩
  · rename_i l n
    obtain ⟨a, vs, rfl, hs, is⟩ := hx
    obtain ⟨⟨h1, h2, h3, h4⟩, hk⟩ := h
    refine .inr (.inl ⟨a, _, vs, rfl, hy, r.sub.t hs, fun e => ?_, h2, h3, by rw [is.len]; exact h4, fun p hp => ?_⟩)
    · have := is.len
      rw [e] at this
      exact h1 (List.eq_nil_of_length_eq_zero this.symm)
    · have hn := Sub.new (o := .tup (List.replicate n.toNat vs).flatten) (r.sub.free hp)
      exact q (.tup _) _ _ _ hn (r.lay hp _) ⟨p, _, rfl, SqT.of upd_same, IsL.mono hn _ _ (is.rep _)⟩ hk
  · rename_i l n
    obtain ⟨a, vs, rfl, hs, is⟩ := hx
    obtain ⟨⟨h1, h2, h3, h4⟩, hk⟩ := h
    refine .inr (.inr ⟨a, _, vs, rfl, hy, hs, by omega, by omega, by rw [is.len]; exact size_of h4, fun p hp => ?_⟩)
    have hn := Sub.new (o := .lst (List.replicate n.toNat vs).flatten) (r.sub.free hp)
    exact q (.lst _) _ _ _ hn (r.lay hp _) ⟨p, _, rfl, upd_same, IsL.mono hn _ _ (is.rep _)⟩ hk
  · exact h.elim
theorem o_eq : Op2 K (rEqD K) eqD := by
  intro S H as cs dx dy x y k Q r hx hy h q
  obtain ⟨⟨⟨a1, a2⟩, b1, b2⟩, hk⟩ := h
  exact ⟨py dx, py dy, hx.dp r.sub _ _ a1, hy.dp r.sub _ _ b1, a2, b2, q (.bl _) _ S H (Sub.refl S) r rfl hk⟩
theorem o_ne : Op2 K (rNeD K) neD := by
  intro S H as cs dx dy x y k Q r hx hy h q
  obtain ⟨⟨⟨a1, a2⟩, b1, b2⟩, hk⟩ := h
  exact ⟨py dx, py dy, hx.dp r.sub _ _ a1, hy.dp r.sub _ _ b1, a2, b2, q (.bl _) _ S H (Sub.refl S) r rfl hk⟩
theorem IsL.atI {S : Hp} {ds : List D} {vs : List V} {i : Int} {d : D} (h : IsL K S ds vs) (e : L2.atI ds i = some d) : ∃ v, L2.atI vs i = some v ∧ Is K S d v := by
  unfold L2.atI at e ⊢
  rw [h.len]
  cases q : ixN ds.length i with
  | none => rw [q] at e; exact nomatch e
  | some j =>
    rw [q] at e
    exact h.get e
theorem atI_map {α β : Type} (f : α → β) (xs : List α) (i : Int) : atI (xs.map f) i = (atI xs i).map f := by
  unfold atI
  rw [List.length_map]
  cases ixN xs.length i with
  | none => rfl
  | some j => show (xs.map f)[j]? = (xs[j]?).map f; rw [List.getElem?_map]
theorem o_ix : Op2 K (rIx K) ixD := by
  intro S H as cs dx dy x y k Q r hx hy h q
  unfold ixD at h
  split at h
  · obtain ⟨a, vs, rfl, hs, is⟩ := hx
    unfold atD at h
    split at h
    · rename_i d e
      obtain ⟨v, e2, iv⟩ := is.atI e
      exact .inr (.inl ⟨a, vs, _, v, rfl, hy, r.sub.t hs, e2, q d v S H (Sub.refl S) r iv h⟩)
    · exact h.elim
  · obtain ⟨a, vs, rfl, hs, is⟩ := hx
    unfold atD at h
    split at h
    · rename_i d e
      obtain ⟨v, e2, iv⟩ := is.atI e
      exact .inl ⟨a, vs, _, v, rfl, hy, SqL.of hs, e2, q d v S H (Sub.refl S) r iv h⟩
    · exact h.elim
  · obtain ⟨a, rfl, hs⟩ := hx
    obtain ⟨n, e, hk⟩ := h
    refine .inl ⟨a, _, _, .int n, rfl, hy, r.sub.l hs, by rw [atI_map, e]; rfl, q (.int n) _ S H (Sub.refl S) r rfl hk⟩
  · exact h.elim
end
end DL
set_option maxHeartbeats 2000000
namespace DL
open PySem L2

def rEqU (K : PySem.W.Frag) : R2 := rOr rEq (rEqD K)
def rNeU (K : PySem.W.Frag) : R2 := rOr rNe (rNeD K)
theorem op_eqU {X : Cx} (hu : X.A.units + 64 < cLine) : OpR X (compareOp .Eq) (rEqU X.K) := OpR.or op_eq (op_eqD hu)
theorem op_neU {X : Cx} (hu : X.A.units + 64 < cLine) : OpR X (compareOp .NotEq) (rNeU X.K) := OpR.or op_ne (op_neD hu)
def eqUD : D → D → (D → Prop) → Prop
  | .str a, .str b, k => k (.bl (decide (a = b)))
  | .int a, .int b, k => k (.bl (decide (a = b)))
  | x, y, k => eqD x y k
def neUD : D → D → (D → Prop) → Prop
  | .str a, .str b, k => k (.bl (!decide (a = b)))
  | .int a, .int b, k => k (.bl (!decide (a = b)))
  | x, y, k => neD x y k
section
variable {K : PySem.W.Frag}
theorem dec_str (a b : Str) : decide (V.str a = V.str b) = decide (a = b) := by
  by_cases e : a = b
  · rw [e, decide_eq_true rfl, decide_eq_true rfl]
  · rw [decide_eq_false e, decide_eq_false fun q => e (V.str.inj q)]
theorem dec_int (a b : Int) : decide (V.int a = V.int b) = decide (a = b) := by
  by_cases e : a = b
  · rw [e, decide_eq_true rfl, decide_eq_true rfl]
  · rw [decide_eq_false e, decide_eq_false fun q => e (V.int.inj q)]
theorem o_eqU : Op2 K (rEqU K) eqUD := by
  intro S H as cs dx dy x y k Q r hx hy h q
  unfold eqUD at h
  split at h
  · rw [sh_str hx, sh_str hy]
    exact .inl ⟨rfl, q (.bl _) _ S H (Sub.refl S) r (by rw [dec_str]; rfl) h⟩
  · rw [sh_int hx, sh_int hy]
    exact .inl ⟨rfl, q (.bl _) _ S H (Sub.refl S) r (by rw [dec_int]; rfl) h⟩
  · exact .inr (o_eq S H as cs _ _ x y k Q r hx hy h q)
theorem o_neU : Op2 K (rNeU K) neUD := by
  intro S H as cs dx dy x y k Q r hx hy h q
  unfold neUD at h
  split at h
  · rw [sh_str hx, sh_str hy]
    exact .inl ⟨rfl, q (.bl _) _ S H (Sub.refl S) r (by rw [dec_str]; rfl) h⟩
  · rw [sh_int hx, sh_int hy]
    exact .inl ⟨rfl, q (.bl _) _ S H (Sub.refl S) r (by rw [dec_int]; rfl) h⟩
  · exact .inr (o_ne S H as cs _ _ x y k Q r hx hy h q)
end

abbrev RC := List V → Hp → VK → Prop
def rLenU (K : PySem.W.Frag) : RC := fun xs H Q => (∃ x n, xs = [x] ∧ LenV K x H n ∧ Q (.int n) H) ∨ ∃ a kvs, xs = [V.ref a] ∧ H a = some (.dK kvs) ∧ Q (.int kvs.length) H
theorem call_lenU {X : Cx} : CallR X (.builtin "len") (rLenU X.K) := CallR.or call_len call_lenD
def lenD : List D → (D → Prop) → Prop
  | [.lst ds], k => k (.int ds.length)
  | [.tup ds], k => k (.int ds.length)
  | [.scr ns], k => k (.int ns.length)
  | [.dic kvs], k => k (.int kvs.length)
  | _, _ => False
section
variable {K : PySem.W.Frag} {S H : Hp}
theorem shL_nil {vs : List V} (h : ShL K S H [] vs) : vs = [] := h
theorem shL_one {d : D} {vs : List V} (h : ShL K S H [d] vs) : ∃ v, vs = [v] ∧ Sh K S H d v := by
  obtain ⟨v, r, h1, h2, h3⟩ := h
  rw [shL_nil h3] at h1
  exact ⟨v, h1, h2⟩
theorem shL_two {d e : D} {vs : List V} (h : ShL K S H [d, e] vs) : ∃ v u, vs = [v, u] ∧ Sh K S H d v ∧ Sh K S H e u := by
  obtain ⟨v, r, h1, h2, h3⟩ := h
  obtain ⟨u, h4, h5⟩ := shL_one h3
  rw [h4] at h1
  exact ⟨v, u, h1, h2, h5⟩
theorem IsK.len : ∀ {kvs : List (Key × D)} {l : List (Key × V)}, IsK K S kvs l → l.length = kvs.length
  | [], _, h => by rw [IsK] at h; rw [h]; rfl
  | _ :: _, _, h => by
    obtain ⟨v, r, h1, h2, h3⟩ := h
    rw [h1, List.length_cons, List.length_cons, IsK.len h3]
theorem c_len : Cl K (rLenU K) lenD := by
  intro S H as cs ds vs k Q r hv h q
  unfold lenD at h
  split at h
  · obtain ⟨v, rfl, a, us, rfl, hs, is⟩ := shL_one hv
    exact .inl ⟨_, _, rfl, .inl ⟨us, SqL.of hs, is.len.symm⟩, q (.int _) _ S H (Sub.refl S) r rfl h⟩
  · obtain ⟨v, rfl, a, us, rfl, hs, is⟩ := shL_one hv
    exact .inl ⟨_, _, rfl, .inr ⟨us, r.sub.t hs, is.len.symm⟩, q (.int _) _ S H (Sub.refl S) r rfl h⟩
  · obtain ⟨v, rfl, a, rfl, hs⟩ := shL_one hv
    exact .inl ⟨_, _, rfl, .inl ⟨_, r.sub.l hs, by rw [List.length_map]⟩, q (.int _) _ S H (Sub.refl S) r rfl h⟩
  · obtain ⟨v, rfl, a, us, rfl, hs, is⟩ := shL_one hv
    exact .inr ⟨a, us, rfl, hs, q (.int _) _ S H (Sub.refl S) r (by rw [is.len]; rfl) h⟩
  · exact h.elim
def tyD : D → String
  | .non => "NoneType"
  | .bl _ => "bool"
  | .int _ => "int"
  | .str _ => "str"
  | .tup _ => "tuple"
  | .lst _ => "list"
  | .scr _ => "list"
  | .dic _ => "dict"
  | _ => ""
def isiN (n : String) : List D → (D → Prop) → Prop
  | [x, .ty m], k => m = n ∧ ∃ b, kitB (tyD x) n = some b ∧ k (.bl b)
  | _, _ => False
def RpOk (d : D) : Prop := pyOk d = true ∧ (py d).showable = true ∧ (py d).hasDict = false ∧ (py d).depth ≤ 60 ∧ (py d).shown.length ≤ sizeLine
def reprD : List D → (D → Prop) → Prop
  | [x], k => RpOk x ∧ k (.str (py x).shown)
  | _, _ => False
def rMaxU (K : PySem.W.Frag) : RC := fun xs H Q => (∃ i j, xs = [.int i, .int j] ∧ Q (.int (if j > i then j else i)) H) ∨ rMax K xs H Q
def rMinU (K : PySem.W.Frag) : RC := fun xs H Q => (∃ i j, xs = [.int i, .int j] ∧ Q (.int (if j < i then j else i)) H) ∨ rMin K xs H Q
theorem call_maxU {X : Cx} (hc : X.calm = true := by rfl) : CallR X (.builtin "max") (rMaxU X.K) := CallR.or (call_max2 hc) (cr_max hc)
theorem call_minU {X : Cx} (hc : X.calm = true := by rfl) : CallR X (.builtin "min") (rMinU X.K) := CallR.or (call_min2 hc) (cr_min hc)
def maxD : List D → (D → Prop) → Prop
  | [.int i, .int j], k => k (.int (max i j))
  | [.lst ds], k => ∃ ns : List Int, ds = ns.map D.int ∧ 0 < ns.length ∧ ∀ m, m ∈ ns → (∀ y, y ∈ ns → y ≤ m) → k (.int m)
  | _, _ => False
def minD : List D → (D → Prop) → Prop
  | [.int i, .int j], k => k (.int (min i j))
  | [.lst ds], k => ∃ ns : List Int, ds = ns.map D.int ∧ 0 < ns.length ∧ ∀ m, m ∈ ns → (∀ y, y ∈ ns → m ≤ y) → k (.int m)
  | _, _ => False
theorem c_max : Cl K (rMaxU K) maxD := by
  intro S H as cs ds vs k Q r hv h q
  unfold maxD at h
  split at h
  · rename_i i j
    obtain ⟨v, u, rfl, h1, h2⟩ := shL_two hv
    rw [sh_int h1, sh_int h2]
    refine .inl ⟨_, _, rfl, q (.int (max i j)) _ S H (Sub.refl S) r ?_ h⟩
    show V.int _ = V.int _
    congr 1
    split <;> omega
  · obtain ⟨v, rfl, a, us, rfl, hs, is⟩ := shL_one hv
    obtain ⟨ns, rfl, hl, hk⟩ := h
    have e := is.ints
    subst e
    exact .inr ⟨a, ns, rfl, SqL.of hs, hl, fun m h1 h2 => q (.int m) _ S H (Sub.refl S) r rfl (hk m h1 h2)⟩
  · exact h.elim
theorem c_min : Cl K (rMinU K) minD := by
  intro S H as cs ds vs k Q r hv h q
  unfold minD at h
  split at h
  · rename_i i j
    obtain ⟨v, u, rfl, h1, h2⟩ := shL_two hv
    rw [sh_int h1, sh_int h2]
    refine .inl ⟨_, _, rfl, q (.int (min i j)) _ S H (Sub.refl S) r ?_ h⟩
    show V.int _ = V.int _
    congr 1
    split <;> omega
  · obtain ⟨v, rfl, a, us, rfl, hs, is⟩ := shL_one hv
    obtain ⟨ns, rfl, hl, hk⟩ := h
    have e := is.ints
    subst e
    exact .inr ⟨a, ns, rfl, SqL.of hs, hl, fun m h1 h2 => q (.int m) _ S H (Sub.refl S) r rfl (hk m h1 h2)⟩
  · exact h.elim
def sumD : List D → (D → Prop) → Prop
  | [.lst ds], k => ∃ ns : List Int, ds = ns.map D.int ∧ k (.int ns.sum)
  | _, _ => False
def allD : List D → (D → Prop) → Prop
  | [.lst ds], k => ∃ bs : List Bool, ds = bs.map D.bl ∧ k (.bl (bs.all id))
  | _, _ => False
def anyD : List D → (D → Prop) → Prop
  | [.lst ds], k => ∃ bs : List Bool, ds = bs.map D.bl ∧ k (.bl (bs.any id))
  | _, _ => False
def intD : List D → (D → Prop) → Prop
  | [.int i], k => k (.int i)
  | [.bl b], k => k (.int (if b then 1 else 0))
  | _, _ => False
def absD : List D → (D → Prop) → Prop
  | [.int i], k => k (.int (if i < 0 then -i else i))
  | _, _ => False
def tupOfD : List D → (D → Prop) → Prop
  | [.lst ds], k => k (.tup ds)
  | [.tup ds], k => k (.tup ds)
  | [.scr ns], k => k (.tup (ns.map D.int))
  | _, _ => False
def lstOfD : List D → (D → Prop) → Prop
  | [.lst ds], k => k (.lst ds)
  | [.tup ds], k => k (.lst ds)
  | [.scr ns], k => k (.lst (ns.map D.int))
  | _, _ => False
end
end DL
set_option maxHeartbeats 2000000
namespace DL
open PySem L2

section
variable {K : PySem.W.Frag} {S : Hp}
theorem getK_cons (p : Key × D) (r : List (Key × D)) (k : Key) : getK (p :: r) k = if p.1 = k then some p.2 else getK r k := by
  unfold getK
  rw [List.find?_cons]
  by_cases e : p.1 = k
  · rw [decide_eq_true e, if_pos e]; rfl
  · rw [decide_eq_false e, if_neg e]
theorem IsK.get : ∀ {kvs : List (Key × D)} {l : List (Key × V)} (k : Key), IsK K S kvs l → (getK kvs k = none ∧ valV l k = none) ∨ ∃ d v, getK kvs k = some d ∧ valV l k = some v ∧ Is K S d v
  | [], _, k, h => by rw [IsK] at h; rw [h]; exact .inl ⟨rfl, rfl⟩
  | kd :: r, _, k, h => by
    obtain ⟨v, l', rfl, h2, h3⟩ := h
    rw [getK_cons]
    by_cases e : kd.1 = k
    · rw [if_pos e]
      exact .inr ⟨kd.2, v, rfl, valV_pos (p := (kd.1, v)) e, h2⟩
    · rw [if_neg e, valV_neg (p := (kd.1, v)) e]
      exact IsK.get k h3
theorem IsK.snoc {d : D} {v : V} {k : Key} (hd : Is K S d v) : ∀ {kvs : List (Key × D)} {l : List (Key × V)}, IsK K S kvs l → IsK K S (kvs ++ [(k, d)]) (l ++ [(k, v)])
  | [], _, h => by rw [IsK] at h; rw [h]; exact ⟨v, [], rfl, hd, rfl⟩
  | kd :: r, _, h => by
    obtain ⟨v', l', rfl, h2, h3⟩ := h
    exact ⟨v', _, rfl, h2, IsK.snoc hd h3⟩
theorem IsK.mapK {d : D} {v : V} {k : Key} (hd : Is K S d v) : ∀ {kvs : List (Key × D)} {l : List (Key × V)}, IsK K S kvs l → IsK K S (kvs.map fun kv => if kv.1 = k then (kv.1, d) else kv) (l.map fun kv => if kv.1 = k then (kv.1, v) else kv)
  | [], _, h => by rw [IsK] at h; rw [h]; exact rfl
  | kd :: r, _, h => by
    obtain ⟨v', l', rfl, h2, h3⟩ := h
    rw [List.map_cons, List.map_cons]
    by_cases e : kd.1 = k
    · rw [if_pos e, if_pos (show (kd.1, v').1 = k from e)]
      exact ⟨v, _, rfl, hd, IsK.mapK hd h3⟩
    · rw [if_neg e, if_neg (show ¬ (kd.1, v').1 = k from e)]
      exact ⟨v', _, rfl, h2, IsK.mapK hd h3⟩
theorem IsK.any {k : Key} : ∀ {kvs : List (Key × D)} {l : List (Key × V)}, IsK K S kvs l → (l.any fun kv => decide (kv.1 = k)) = (kvs.any fun kv => decide (kv.1 = k))
  | [], _, h => by rw [IsK] at h; rw [h]; rfl
  | kd :: r, _, h => by
    obtain ⟨v', l', rfl, h2, h3⟩ := h
    rw [List.any_cons, List.any_cons, IsK.any h3]
theorem IsK.put {d : D} {v : V} {k : Key} {kvs : List (Key × D)} {l : List (Key × V)} (h : IsK K S kvs l) (hd : Is K S d v) : IsK K S (setK kvs k d) (putK l k v) := by
  unfold setK putK
  rw [h.any]
  split
  · exact h.mapK hd
  · exact h.snoc hd
end
def keyD : D → (Key → Prop) → Prop
  | .int i, k => k (.inl i)
  | .str x, k => k (.inr x)
  | _, _ => False
theorem keyD_sh {K : PySem.W.Frag} {S H : Hp} {d : D} {v : V} {k : Key → Prop} (h : Sh K S H d v) (q : keyD d k) : ∃ key, v = kV key ∧ k key := by
  unfold keyD at q
  split at q
  · exact ⟨.inl _, sh_int h, q⟩
  · exact ⟨.inr _, sh_str h, q⟩
  · exact q.elim
def dInK (neg : Bool) (a b : DE) : DE := fun en cs k => a en cs fun x cs1 => b en cs1 fun y cs2 => withD cs2 x fun dx => withD cs2 y fun dy =>
  match dy with
  | .dic kvs => keyD dx fun key => k (.d (.bl (if neg = true then !(getK kvs key).isSome else (getK kvs key).isSome))) cs2
  | _ => False
section
variable {X : Cx} {pos : Pos}
theorem dget_of {K : PySem.W.Frag} {S H : Hp} {as : List Addr} {cs : Cs} (r : Rep K S H as cs) {kvs : List (Key × D)} {y : V} (hy : Sh K S H (.dic kvs) y) (key : Key) :
    ∃ a o, y = .ref a ∧ DGet H a (kV key) o ∧ ((getK kvs key = none ∧ o = none) ∨ ∃ d v, getK kvs key = some d ∧ o = some v ∧ Is K S d v) := by
  obtain ⟨a, kv, rfl, hs, is⟩ := hy
  exact ⟨a, _, rfl, DGet.k hs, is.get key⟩
def dGetK (a b : DE) : DE := fun en cs k => a en cs fun x cs1 => b en cs1 fun y cs2 => withD cs2 x fun dx => withD cs2 y fun dy =>
  match dx with
  | .dic kvs => keyD dy fun key => match getK kvs key with
    | some d => k (.d d) cs2
    | none => False
  | _ => False
theorem q_getK {a b : Expr} {ta tb : TE} {da db : DE} (hu : X.A.units + 1 < cLine) (ha : QE X a ta da) (hb : QE X b tb db) (hs : NoSl b) : QE X (.Subscript a b pos) (tDGet ta tb) (dGetK da db) := by
  refine ⟨pe_dget hu ha.pe hb.pe hs, ?_⟩
  intro σ H S as en cs k Q rp e q p
  refine ha.sem.use rp e q fun z v S1 H1 as1 cs1 e1 r1 v1 q1 => ?_
  refine hb.sem.use r1 (e.mono e1) q1 fun z2 v2 S2 H2 as2 cs2 e2 r2 w2 q2 => ?_
  obtain ⟨dx, l1, q2⟩ := withD_look q2
  obtain ⟨dy, l2, q2⟩ := withD_look q2
  split at q2
  · obtain ⟨key, rfl, q2⟩ := keyD_sh (look_sh r2 w2 l2) q2
    obtain ⟨ad, o, rfl, g, c⟩ := dget_of r2 (look_sh r2 (v1.mono e2) l1) key
    split at q2
    · rename_i d hd
      rcases c with ⟨h1, h2⟩ | ⟨d', u, h1, h2, h3⟩
      · rw [h1] at hd; cases hd
      · rw [h1] at hd; cases hd
        rw [h2] at g
        exact ⟨ad, u, rfl, g, p (.d _) u S2 H2 as2 cs2 (e1.trans e2) r2 h3 q2⟩
    · exact q2.elim
  · exact q2.elim
def dDicC : DE := fun _ cs k => k (.c cs.length) (cs ++ [.dic []])
def DO := En → Cs → (Option Int → Cs → Prop) → Prop
structure QO (X : Cx) (e : Option Expr) (to : TO) (t : DO) : Prop where
  po : PO X e to
  sem : ∀ (σ : L2.St) (H S : Hp) (as : List Addr) (en : En) (cs : Cs) (k : Option Int → Cs → Prop) (Q : Option Int → Hp → Prop), Rep X.K S H as cs → EnvOk X.K S as en σ → t en cs k →
    (∀ (o : Option Int) (S' H' : Hp) (as' : List Addr) (cs' : Cs), Ext S as S' as' → Rep X.K S' H' as' cs' → k o cs' → Q o H') → to σ H Q
def dNoPart : DO := fun _ cs k => k none cs
def dPart (a : DE) : DO := fun en cs k => a en cs fun z cs1 => ∃ i, z = .d (.int i) ∧ k (some i) cs1
def cutG {α : Type} (xs : List α) (lo hi : Option Int) : List α := (xs.drop (HT.sIx xs.length 0 lo)).take (HT.sIx xs.length xs.length hi - HT.sIx xs.length 0 lo)
def sliceD : D → Option Int → Option Int → (D → Prop) → Prop
  | .lst ds, lo, hi, k => k (.lst (cutG ds lo hi))
  | .tup ds, lo, hi, k => k (.tup (cutG ds lo hi))
  | _, _, _, _ => False
def dSl (a : DE) (lo hi : DO) : DE := fun en cs k => a en cs fun x cs1 => lo en cs1 fun l cs2 => hi en cs2 fun h cs3 => withD cs3 x fun dx => sliceD dx l h fun z => k (.d z) cs3
theorem IsL.cut {K : PySem.W.Frag} {S : Hp} {ds : List D} {vs : List V} (h : IsL K S ds vs) (lo hi : Option Int) : IsL K S (cutG ds lo hi) (cutV vs lo hi) := by
  unfold cutG cutV
  rw [h.len]
  exact (h.drop _).take _
def dBits (a : DE) : DE := fun en cs k => a en cs fun z cs1 => ∃ i, z = .d (.int i) ∧ k (.d (.int (Builtin.Int.intBits i : Nat))) cs1
end
end DL
set_option maxHeartbeats 2000000
namespace DL
open PySem L2

theorem wipe_set {σ : L2.St} {i : Nat} {o : Option V} : ∀ {own : List Nat}, i ∈ own → L2.wipe (σ.set i o) own = L2.wipe σ own
  | [], h => by simp at h
  | j :: js, h => by
    show (L2.wipe (σ.set i o) js).set j none = (L2.wipe σ js).set j none
    by_cases hj : i ∈ js
    · rw [wipe_set hj]
    · have e : i = j := by
        rcases List.mem_cons.mp h with e | e
        · exact e
        · exact absurd e hj
      subst e
      have far : ∀ (τ : L2.St) (ks : List Nat), i ∉ ks → L2.wipe (τ.set i o) ks = (L2.wipe τ ks).set i o := fun τ ks => by
        induction ks with
        | nil => intro _; rfl
        | cons k ks ih =>
          intro hk
          show (L2.wipe (τ.set i o) ks).set k none = ((L2.wipe τ ks).set k none).set i o
          rw [ih fun z => hk (List.mem_cons_of_mem _ z), List.set_comm _ _ (show i ≠ k from fun z => hk (z ▸ List.mem_cons_self))]
      rw [far σ js hj, List.set_set]
theorem wipe_wipe {σ : L2.St} : ∀ (own js : List Nat), (∀ j ∈ js, j ∈ own) → L2.wipe (L2.wipe σ js) own = L2.wipe σ own
  | _, [], _ => rfl
  | own, j :: js, h => by
    show L2.wipe ((L2.wipe σ js).set j none) own = _
    rw [wipe_set (h j List.mem_cons_self)]
    exact wipe_wipe own js fun k hk => h k (List.mem_cons_of_mem _ hk)
def GQ (K : PySem.W.Frag) (S : Hp) (as : List Addr) (σ : L2.St) (is : List Nat) (k : En → Cs → Prop) (Q : L2.St → Hp → Prop) : Prop :=
  ∀ (σ' : L2.St) (S' H' : Hp) (as' : List Addr) (en' : En) (cs' : Cs), Ext S as S' as' → Rep K S' H' as' cs' → EnvOk K S' as' en' σ' → (∀ own : List Nat, (∀ i ∈ is, i ∈ own) → L2.wipe σ' own = L2.wipe σ own) → k en' cs' → Q σ' H'
def SemG (K : PySem.W.Frag) (g : TG) (dg : DG) (is : List Nat) : Prop :=
  ∀ (z : Z) (v : V) (σ : L2.St) (H S : Hp) (as : List Addr) (en : En) (cs : Cs) (k : En → Cs → Prop) (Q : L2.St → Hp → Prop), Rep K S H as cs → EnvOk K S as en σ → VZ K S as z v → dg z en cs k → GQ K S as σ is k Q → g v σ H Q
def SemGs (K : PySem.W.Frag) (g : TGs) (dg : DGs) (is : List Nat) : Prop :=
  ∀ (ds : List D) (vs : List V) (σ : L2.St) (H S : Hp) (as : List Addr) (en : En) (cs : Cs) (k : En → Cs → Prop) (Q : L2.St → Hp → Prop), Rep K S H as cs → EnvOk K S as en σ → IsL K S ds vs → dg ds en cs k → GQ K S as σ is k Q → g vs σ H Q
structure QG (X : Cx) (tg : Expr) (g : TG) (dg : DG) (is : List Nat) : Prop where
  pg : PG X tg g
  sem : SemG X.K g dg is
structure QGs (X : Cx) (ts : List Expr) (g : TGs) (dg : DGs) (is : List Nat) : Prop where
  pgs : PGs X ts g
  sem : SemGs X.K g dg is
section
variable {X : Cx} {pos : Pos}
def dgName (i : Nat) : DG := fun z en cs k => k (en.set i (some z)) cs
theorem sem_gname {K : PySem.W.Frag} (i : Nat) : SemG K (gName i) (dgName i) [i] := by
  intro z v σ H S as en cs k Q r e vz h p
  exact p (σ.set i (some v)) S H as _ cs Ext.refl r (e.set vz i) (fun own ho => wipe_set (ho i List.mem_cons_self)) h
theorem qg_name (i : Nat) {x : Str} (hN : X.N.Nodup) (hi : X.N[i]? = some x := by rfl) (hx : Loc X.env.scope x := by first | exact Or.inl rfl | exact Or.inr rfl) (hf : X.fn x = true ∨ X.env.scope.names.lookup x = some .local := by first | exact .inl rfl | exact .inr rfl | assumption) : QG X (.Name x pos) (gName i) (dgName i) [i] := ⟨pg_name hN hi hx hf, sem_gname i⟩
def dgsNil : DGs := fun ds en cs k => ds = [] ∧ k en cs
def dgsCons (g : DG) (r : DGs) : DGs := fun ds en cs k => match ds with
  | d :: ds => g (.d d) en cs fun en1 cs1 => r ds en1 cs1 k
  | [] => False
theorem qgs_nil : QGs X [] gNil dgsNil [] := by
  refine ⟨pgs_nil, ?_⟩
  intro ds vs σ H S as en cs k Q r e hv h p
  obtain ⟨rfl, h⟩ := h
  rw [IsL] at hv
  exact ⟨hv, p σ S H as en cs Ext.refl r e (fun _ _ => rfl) h⟩
theorem qgs_cons {e : Expr} {es : List Expr} {g : TG} {gs : TGs} {dg : DG} {dgs : DGs} {is js : List Nat} (h1 : QG X e g dg is) (h2 : QGs X es gs dgs js) (hs : (assignEach (e :: es) X.env).map (·.2) = assign e X.env :: (assignEach es X.env).map (·.2) := by rfl) : QGs X (e :: es) (gCons g gs) (dgsCons dg dgs) (is ++ js) := by
  refine ⟨pgs_cons h1.pg h2.pgs hs, ?_⟩
  intro ds vs σ H S as en cs k Q r e hv h p
  cases ds with
  | nil => exact h.elim
  | cons d ds =>
    obtain ⟨v, vr, rfl, i1, i2⟩ := hv
    refine ⟨v, vr, rfl, h1.sem (.d d) v σ H S as en cs _ _ r e i1 h fun σ1 S1 H1 as1 en1 cs1 e1 r1 ev1 w1 q1 => ?_⟩
    refine h2.sem ds vr σ1 H1 S1 as1 en1 cs1 k Q r1 ev1 (IsL.mono e1.sub _ _ i2) q1 fun σ2 S2 H2 as2 en2 cs2 e2 r2 ev2 w2 q2 => ?_
    exact p σ2 S2 H2 as2 en2 cs2 (e1.trans e2) r2 ev2 (fun own ho => (w2 own fun i hi => ho i (List.mem_append_right _ hi)).trans (w1 own fun i hi => ho i (List.mem_append_left _ hi))) q2
def dgTup (n : Nat) (g : DGs) : DG := fun z en cs k => match z with
  | .d (.tup ds) => ds.length = n ∧ g ds en cs k
  | _ => False
theorem qg_tup {es : List Expr} {kk n : Nat} {g : TGs} {dg : DGs} {is : List Nat} (h : QGs X es g dg is) (hc : X.calm = true := by rfl) (hn : (assignEach es X.env).length = n := by rfl) (hst : (assignEach es X.env).findIdx? (·.1) = none := by rfl) :
    QG X (.Tuple es kk pos) (gTup X.K n g) (dgTup n dg) is := by
  refine ⟨pg_tup hc h.pgs hn hst, ?_⟩
  intro z v σ H S as en cs k Q r e vz hh p
  unfold dgTup at hh
  split at hh
  · obtain ⟨a, vs, rfl, hs, i⟩ := vz
    exact ⟨a, vs, rfl, r.sub.t hs, by rw [i.len]; exact hh.1, h.sem _ vs σ H S as en cs k Q r e i hh.2 p⟩
  · exact hh.elim
def dgSet (o i : DE) : DG := fun z en cs k => o en cs fun x cs1 => i en cs1 fun y cs2 => match x, y, z with
  | .c n, .d (.int j), .d d => match cs2[n]? with
    | some (.lst ds) => ∃ m, ixN ds.length j = some m ∧ k en (cs2.set n (.lst (ds.set m d)))
    | _ => False
  | _, _, _ => False
theorem Rep.cell_lst {K : PySem.W.Frag} {S H : Hp} {as : List Addr} {cs : Cs} (r : Rep K S H as cs) {n : Nat} {a : Addr} {ds : List D} (h1 : as[n]? = some a) (h2 : cs[n]? = some (.lst ds)) : S a = none ∧ ∃ vs, H a = some (.lst vs) ∧ IsL K S ds vs := r.cel n a _ h1 h2
theorem qg_set {o i : Expr} {to ti : TE} {od id : DE} (ho : QE X o to od) (hi : QE X i ti id)
    (ha : ∀ v, assign (.Subscript o i pos) X.env v = (do
      let ov ← holding [v] (eval o X.env)
      let iv ← holding [v, ov] (eval i X.env)
      standAt pos
      holding [v, ov, iv] (setItem ov iv v)
      release [v, ov, iv] []) := by intro _; rfl) : QG X (.Subscript o i pos) (gSub to ti rSetL) (dgSet od id) [] := by
  refine ⟨pg_sub ho.pe hi.pe set_list ha, ?_⟩
  intro z v σ H S as en cs k Q r e vz hh p
  refine ho.sem.use r e hh fun z1 v1 S1 H1 as1 cs1 e1 r1 w1 q1 => ?_
  refine hi.sem.use r1 (e.mono e1) q1 fun z2 v2 S2 H2 as2 cs2 e2 r2 w2 q2 => ?_
  split at q2
  · rename_i n j d
    split at q2
    · rename_i ds hc
      obtain ⟨m, hm, q2⟩ := q2
      obtain ⟨a, ha1, rfl⟩ := w1.mono e2
      obtain ⟨hS, vs, hl, is⟩ := r2.cell_lst ha1 hc
      have vd : Is X.K S2 d v := Is.mono (e1.trans e2).sub _ _ vz
      refine ⟨a, vs, j, m, rfl, w2, hl, by rw [is.len]; exact hm, ?_⟩
      exact p σ S2 _ as2 en _ (e1.trans e2) (r2.put ha1 (c := .lst (ds.set m d)) ⟨hS, _, upd_same, is.set vd⟩ hS) (e.mono (e1.trans e2)) (fun _ _ => rfl) q2
    · exact q2.elim
  · exact q2.elim

structure Wk (K : PySem.W.Frag) (J : It) (S : Hp) (as : List Addr) (ds : List D) (keep : Cs → Prop) : Prop where
  stop : ∀ (S' H : Hp) (as' : List Addr) (cs : Cs) (i : Nat), Ext S as S' as' → Rep K S' H as' cs → keep cs → ds.length ≤ i → J.stop i H
  go : ∀ (S' H : Hp) (as' : List Addr) (cs : Cs) (i : Nat) (d : D), Ext S as S' as' → Rep K S' H as' cs → keep cs → ds[i]? = some d →
    J.go i H ∧ ∀ x H', J.yld i H x H' → ∃ S'', Sub S' S'' ∧ Rep K S'' H' as' cs ∧ Is K S'' d x
structure QI (X : Cx) (tg iter : Expr) (wi : TI) (it : DI) : Prop where
  pi : PI X tg iter wi
  sem : ∀ (σ : L2.St) (H S : Hp) (as : List Addr) (en : En) (cs : Cs) (k : List D → (Cs → Prop) → Cs → Prop) (R : It → Hp → Prop), Rep X.K S H as cs → EnvOk X.K S as en σ → it en cs k →
    (∀ (J : It) (S' H' : Hp) (as' : List Addr) (ds : List D) (keep : Cs → Prop) (cs' : Cs), Ext S as S' as' → Rep X.K S' H' as' cs' → Wk X.K J S' as' ds keep → k ds keep cs' → R J H') → wi σ H R
def yes : Cs → Prop := fun _ => True
def seqD (cs : Cs) (z : Z) (k : List D → (Cs → Prop) → Prop) : Prop :=
  match z with
  | .d (.lst ds) => k ds yes
  | .d (.tup ds) => k ds yes
  | .d (.scr ns) => k (ns.map D.int) yes
  | .c n => match cs[n]? with
    | some (.lst ds) => k ds fun c => c[n]? = some (.lst ds)
    | _ => False
  | _ => False
def diSeq (a : DE) : DI := fun en cs k => a en cs fun z cs1 => seqD cs1 z fun ds keep => k ds keep cs1
def iSeq (K : PySem.W.Frag) (tl : TE) : TI := fun σ H R => tl σ H fun x H1 => ∃ a, x = .ref a ∧ ((∃ xs, SqL K H1 a xs ∧ R (Itl K a) H1) ∨ ∃ xs, SqT K H1 a xs ∧ R (Itt K a) H1)
theorem pi_seq {tg l : Expr} {tl : TE} (hl : PE X l tl) : PI X tg l (iSeq X.K tl) := by
  refine ⟨fun pins s σ H R I h => thn (hl.run pins s σ H _ I h) fun v s1 ⟨x, H1, I1, r1, a, e, q⟩ => ?_⟩
  subst e
  cases r1
  have fp : ∀ {c : String} (b : Addr), b ∈ [s1.heap.objs.size] → FpOk X pins H1 b := fun b hb => by
    have e : b = s1.heap.objs.size := by simpa using hb
    subst e
    exact I1.fpOk (Nat.le_refl _) (I1.hok.fresh (Nat.le_refl _))
  rcases q with ⟨xs, hq, q⟩ | ⟨xs, hq, q⟩
  · obtain ⟨its, rv, pl, hz⟩ := I1.list hq
    exact wpAny_pyIter_list pl.isList ⟨_, [s1.heap.objs.size], _, _, H1, rfl, I1.kept (t' := s1.toks) fun b o e => Heap.get?_push_of_some _ e, turn_list a _, ⟨_, Heap.get?_push_size _ rfl, rfl, rfl⟩, fp (c := ""), q⟩
  · obtain ⟨its, rv, pl, hz⟩ := I1.tuple hq
    exact wpAny_pyIter_tuple pl ⟨_, [s1.heap.objs.size], _, _, H1, rfl, I1.kept (t' := s1.toks) fun b o e => Heap.get?_push_of_some _ e, turn_tuple a _, ⟨_, Heap.get?_push_size _ rfl, rfl, rfl⟩, fp (c := ""), q⟩
theorem wk_l {K : PySem.W.Frag} {S : Hp} {as : List Addr} {ds : List D} {keep : Cs → Prop} {a : Addr}
    (h : ∀ (S' H : Hp) (as' : List Addr) (cs : Cs), Ext S as S' as' → Rep K S' H as' cs → keep cs → ∃ vs, SqL K H a vs ∧ IsL K S' ds vs) : Wk K (Itl K a) S as ds keep := by
  refine ⟨fun S' H as' cs i e r kp hi => ?_, fun S' H as' cs i d e r kp hi => ?_⟩
  · obtain ⟨vs, h1, h2⟩ := h S' H as' cs e r kp
    exact ⟨vs, h1, by rw [h2.len]; exact hi⟩
  · obtain ⟨vs, h1, h2⟩ := h S' H as' cs e r kp
    obtain ⟨v, hv, iv⟩ := h2.get hi
    refine ⟨⟨vs, v, h1, hv⟩, fun x H' y => ?_⟩
    obtain ⟨rfl, f⟩ := y
    have ex : v = x := Option.some.inj (hv.symm.trans (f vs h1))
    subst ex
    exact ⟨S', Sub.refl S', r, iv⟩
theorem wk_t {K : PySem.W.Frag} {S : Hp} {as : List Addr} {ds : List D} {a : Addr} {vs : List V} (h1 : SqT K S a vs) (h2 : IsL K S ds vs) : Wk K (Itt K a) S as ds yes := by
  refine ⟨fun S' H as' cs i e r kp hi => ⟨vs, r.sub.t (e.sub.t h1), by rw [h2.len]; exact hi⟩, fun S' H as' cs i d e r kp hi => ?_⟩
  obtain ⟨v, hv, iv⟩ := h2.get hi
  have ht := r.sub.t (e.sub.t h1)
  refine ⟨⟨vs, v, ht, hv⟩, fun x H' y => ?_⟩
  obtain ⟨rfl, f⟩ := y
  have ex : v = x := Option.some.inj (hv.symm.trans (f vs ht))
  subst ex
  exact ⟨S', Sub.refl S', r, Is.mono e.sub _ _ iv⟩
theorem qi_seq {tg l : Expr} {tl : TE} {dl : DE} (hl : QE X l tl dl) : QI X tg l (iSeq X.K tl) (diSeq dl) := by
  refine ⟨pi_seq hl.pe, fun σ H S as en cs k R r e h p => ?_⟩
  refine hl.sem.use r e h fun z v S1 H1 as1 cs1 e1 r1 v1 q1 => ?_
  unfold seqD at q1
  split at q1
  · obtain ⟨a, vs, rfl, hs, is⟩ := v1
    exact ⟨a, rfl, .inl ⟨vs, SqL.of (r1.sub _ _ hs), p _ S1 H1 as1 _ yes cs1 e1 r1 (wk_l fun S' H as' cs e r _ => ⟨vs, SqL.of (r.sub _ _ (e.sub _ _ hs)), IsL.mono e.sub _ _ is⟩) q1⟩⟩
  · obtain ⟨a, vs, rfl, hs, is⟩ := v1
    exact ⟨a, rfl, .inr ⟨vs, r1.sub.t hs, p _ S1 H1 as1 _ yes cs1 e1 r1 (wk_t hs is) q1⟩⟩
  · obtain ⟨a, rfl, hs⟩ := v1
    exact ⟨a, rfl, .inl ⟨_, r1.sub.l hs, p _ S1 H1 as1 _ yes cs1 e1 r1 (wk_l fun S' H as' cs e r _ => ⟨_, r.sub.l (e.sub.l hs), isL_ints _⟩) q1⟩⟩
  · rename_i n
    obtain ⟨a, ha, rfl⟩ := v1
    split at q1
    · rename_i ds hc
      obtain ⟨hS, vs, hl, is⟩ := r1.cell_lst ha hc
      refine ⟨a, rfl, .inl ⟨vs, SqL.of hl, p _ S1 H1 as1 _ _ cs1 e1 r1 (wk_l fun S' H as' cs e r kp => ?_) q1⟩⟩
      obtain ⟨_, vs', hl', is'⟩ := r.cell_lst (e.get ha) kp
      exact ⟨vs', SqL.of hl', is'⟩
    · exact q1.elim
  · exact q1.elim
def rgD (lo : Int) (n : Nat) : List D := (List.range n).map fun (i : Nat) => D.int (lo + (i : Int))
theorem rgD_len (lo : Int) (n : Nat) : (rgD lo n).length = n := by unfold rgD; rw [List.length_map, List.length_range]
theorem rgD_get {lo : Int} {n i : Nat} {d : D} (h : (rgD lo n)[i]? = some d) : i < n ∧ d = .int (lo + (i : Int)) := by
  unfold rgD at h
  rw [List.getElem?_map] at h
  cases q : (List.range n)[i]? with
  | none => rw [q] at h; cases h
  | some j =>
    rw [q] at h
    have hl := (List.getElem?_eq_some_iff.mp q)
    obtain ⟨h1, h2⟩ := hl
    rw [List.getElem_range] at h2
    subst h2
    rw [List.length_range] at h1
    exact ⟨h1, (Option.some.inj h).symm⟩
def Rg (i : Int) : Prop := -(2 ^ 62) ≤ i ∧ i < 2 ^ 62
theorem wk_r {K : PySem.W.Frag} {S : Hp} {as : List Addr} {lo : Int} {n : Nat} : Wk K (Itr lo n) S as (rgD lo n) yes := by
  refine ⟨fun S' H as' cs i e r kp hi => by rw [rgD_len] at hi; exact hi, fun S' H as' cs i d e r kp hi => ?_⟩
  obtain ⟨h1, rfl⟩ := rgD_get hi
  exact ⟨h1, fun x H' y => ⟨S', Sub.refl S', by rw [y.1]; exact r, y.2⟩⟩
def diR1 (a : DE) : DI := fun en cs k => a en cs fun z cs1 => ∃ j, z = .d (.int j) ∧ Rg j ∧ k (rgD 0 j.toNat) yes cs1
def diR2 (a b : DE) : DI := fun en cs k => a en cs fun z cs1 => b en cs1 fun w cs2 => ∃ i j, z = .d (.int i) ∧ w = .d (.int j) ∧ (Rg i ∧ Rg j) ∧ k (rgD i (j - i).toNat) yes cs2
theorem qi_range1 {tg a : Expr} {ta : TE} {da : DE} {p : Pos} (hm : X.mg "range" = none) (ha : QE X a ta da) (hg : Gl X "range" := by rfl) (hs : starEach [a] X.env = [(false, eval a X.env)] := by rfl) : QI X tg (.Call (.Name "range" p) [a] [] pos) (iRng1 (tCons ta tNil)) (diR1 da) := by
  refine ⟨pi_range1 hg hm (pa_cons ha.pe pa_nil hs) hs, fun σ H S as en cs k R r e h p => ?_⟩
  refine ha.sem.use r e h fun z v S1 H1 as1 cs1 e1 r1 v1 q1 => ?_
  obtain ⟨j, rfl, ⟨b1, b2⟩, q1⟩ := q1
  rw [show v = .int j from v1]
  exact ⟨j, rfl, b1, b2, p _ S1 H1 as1 _ yes cs1 e1 r1 wk_r q1⟩
def enumD (ds : List D) : List D := ds.zipIdx.map fun p => D.tup [.int (p.2 : Int), p.1]
theorem enumD_get {ds : List D} {i : Nat} {x : D} (h : (enumD ds)[i]? = some x) : ∃ d, ds[i]? = some d ∧ x = .tup [.int (i : Int), d] := by
  unfold enumD at h
  rw [List.getElem?_map, List.getElem?_zipIdx] at h
  cases q : ds[i]? with
  | none => rw [q] at h; cases h
  | some d =>
    rw [q] at h
    have e := Option.some.inj h
    refine ⟨d, rfl, ?_⟩
    rw [← e]
    simp
theorem enumD_len (ds : List D) : (enumD ds).length = ds.length := by unfold enumD; rw [List.length_map, List.length_zipIdx]
def diEnum (a : DE) : DI := fun en cs k => a en cs fun z cs1 => match z with
  | .d (.tup _) => False
  | z => seqD cs1 z fun ds keep => k (enumD ds) keep cs1
theorem wk_e {K : PySem.W.Frag} {S : Hp} {as : List Addr} {ds : List D} {keep : Cs → Prop} {a : Addr}
    (h : ∀ (S' H : Hp) (as' : List Addr) (cs : Cs), Ext S as S' as' → Rep K S' H as' cs → keep cs → ∃ vs, SqL K H a vs ∧ IsL K S' ds vs) : Wk K (Ite K a) S as (enumD ds) keep := by
  refine ⟨fun S' H as' cs i e r kp hi => ?_, fun S' H as' cs i d e r kp hi => ?_⟩
  · obtain ⟨vs, h1, h2⟩ := h S' H as' cs e r kp
    rw [enumD_len] at hi
    exact ⟨vs, h1, by rw [h2.len]; exact hi⟩
  · obtain ⟨d', hd, rfl⟩ := enumD_get hi
    obtain ⟨vs, h1, h2⟩ := h S' H as' cs e r kp
    obtain ⟨v, hv, iv⟩ := h2.get hd
    refine ⟨⟨vs, v, h1, hv⟩, fun x H' y => ?_⟩
    obtain ⟨T, x', rfl, nT, rfl, f⟩ := y
    have ex : v = x' := Option.some.inj (hv.symm.trans (f vs h1))
    subst ex
    have hn := Sub.new (o := .tup [.int (i : Nat), v]) (r.sub.free nT)
    exact ⟨_, hn, r.lay nT _, T, _, rfl, SqT.of upd_same, ⟨_, _, rfl, rfl, ⟨_, _, rfl, Is.mono hn _ _ iv, rfl⟩⟩⟩
end
end DL
set_option maxHeartbeats 2000000
namespace DL
open PySem L2

structure QTs (X : Cx) (ifs : List Expr) (tt : TT) (t : DT) : Prop where
  pts : PTs X ifs tt
  sem : SemT X.K tt t
def dYes : DT := fun _ cs k => k true cs
section
variable {X : Cx} {pos : Pos}
theorem qts_nil : QTs X [] tYes dYes := ⟨pts_nil, fun σ H S as en cs k Q r e q p => p true S H as cs Ext.refl r q⟩
def dLcG (fin : (Z → Cs → Prop) → List D → Cs → Prop) (it : DI) (g : DG) (tt : DT) (te : DE) (own : List Nat) : DE := fun en cs k => it en cs fun ds keep cs1 => ∃ I : Nat → List D → Cs → Prop,
  I 0 [] cs1 ∧ (∀ i acc c, I i acc c → c.length = cs1.length ∧ keep (c ++ [.lst acc])) ∧
  (∀ i d acc c, ds[i]? = some d → I i acc c → g (.d d) (wipeD en own) (c ++ [.lst acc]) fun en2 cs2 => tt en2 cs2 fun b cs3 =>
    if b = true then te en2 cs3 fun z cs4 => ∃ y c', z = .d y ∧ cs4.take (c.length + 1) = c' ++ [.lst acc] ∧ c'.length = c.length ∧ acc.length < LIM ∧ I (i + 1) (acc ++ [y]) c'
    else ∃ c', cs3.take (c.length + 1) = c' ++ [.lst acc] ∧ c'.length = c.length ∧ I (i + 1) acc c') ∧
  ∀ acc c, I ds.length acc c → fin k acc c
def finD (k : Z → Cs → Prop) (acc : List D) (c : Cs) : Prop := k (.d (.lst acc)) c
def finC (k : Z → Cs → Prop) (acc : List D) (c : Cs) : Prop := k (.c c.length) (c ++ [.lst acc])
abbrev dLc := dLcG finD
def FinOk (K : PySem.W.Frag) (fin : (Z → Cs → Prop) → List D → Cs → Prop) : Prop :=
  ∀ (S H : Hp) (as : List Addr) (c : Cs) (p : Addr) (acc : List D) (k : Z → Cs → Prop) (Q : VK), Rep K S H (as ++ [p]) (c ++ [.lst acc]) → fin k acc c → PQ K S as k Q → Q (.ref p) H
theorem Rep.last {K : PySem.W.Frag} {S H : Hp} {as : List Addr} {c : Cs} {p : Addr} {acc : List D} (r : Rep K S H (as ++ [p]) (c ++ [.lst acc])) : as.length = c.length ∧ S p = none ∧ ∃ vs, H p = some (.lst vs) ∧ IsL K S acc vs := by
  have hl : as.length = c.length := by
    have := r.len
    simp only [List.length_append, List.length_cons, List.length_nil] at this
    omega
  have h := r.cell_lst (n := c.length) (a := p) (ds := acc) (by rw [← hl, List.getElem?_append_right (Nat.le_refl _), Nat.sub_self]; rfl) (by rw [List.getElem?_append_right (Nat.le_refl _), Nat.sub_self]; rfl)
  exact ⟨hl, h⟩
theorem Rep.init {K : PySem.W.Frag} {S H : Hp} {as : List Addr} {c : Cs} {p : Addr} {x : D} (r : Rep K S H (as ++ [p]) (c ++ [x])) : Rep K S H as c := by
  have hl : as.length = c.length := by
    have := r.len
    simp only [List.length_append, List.length_cons, List.length_nil] at this
    omega
  have t := r.take as.length
  rw [List.take_left, hl, List.take_left] at t
  exact t
theorem Rep.freeze {K : PySem.W.Frag} {S H : Hp} {as : List Addr} {c : Cs} {p : Addr} {o : HO} (r : Rep K S H as c) (np : p ∉ as) (hp : H p = some o) (hS : S p = none) (hn : ∀ q ∈ tabsK K, q.1 ≠ p) : Rep K (upd S p o) H as c := by
  refine ⟨fun a u e => ?_, r.len, r.nod, fun n a d e1 e2 => ?_, r.liv, fun q hq => ⟨by rw [upd_ne (hn q hq)]; exact (r.tab q hq).1, (r.tab q hq).2⟩⟩
  · by_cases ha : a = p
    · subst ha
      rw [upd_same] at e
      rw [hp]; exact e
    · rw [upd_ne ha] at e
      exact r.sub a u e
  · have ne : a ≠ p := fun z => np (z ▸ List.mem_of_getElem? e1)
    exact CelAt.mono (Sub.new hS) (fun q => by rw [upd_ne ne]; exact q) rfl (r.cel n a d e1 e2)
theorem fin_d {K : PySem.W.Frag} : FinOk K finD := by
  intro S H as c p acc k Q r h q
  obtain ⟨hl, hS, vs, hp, is⟩ := r.last
  have np : p ∉ as := by
    have := r.nod
    rw [List.nodup_append] at this
    exact fun z => this.2.2 p z p (by simp) rfl
  have hn := Sub.new (o := .lst vs) hS
  exact q (.d (.lst acc)) (.ref p) (upd S p (.lst vs)) H as c (Ext.of hn) (r.init.freeze np hp hS (r.notab (by simp))) ⟨p, vs, rfl, upd_same, IsL.mono hn _ _ is⟩ h
theorem sem_lc {K : PySem.W.Frag} {fin : (Z → Cs → Prop) → List D → Cs → Prop} {wi : TI} {g : TG} {tt : TT} {te : TE} {it : DI} {dg : DG} {dt : DT} {de : DE} {is own : List Nat} (hf : FinOk K fin)
    (hi : ∀ (σ : L2.St) (H S : Hp) (as : List Addr) (en : En) (cs : Cs) (k : List D → (Cs → Prop) → Cs → Prop) (R : It → Hp → Prop), Rep K S H as cs → EnvOk K S as en σ → it en cs k →
      (∀ (J : It) (S' H' : Hp) (as' : List Addr) (ds : List D) (keep : Cs → Prop) (cs' : Cs), Ext S as S' as' → Rep K S' H' as' cs' → Wk K J S' as' ds keep → k ds keep cs' → R J H') → wi σ H R)
    (hg : SemG K g dg is) (ht : SemT K tt dt) (he : SemE K te de) (hw : ∀ i ∈ is, i ∈ own) : SemE K (tLc wi g tt te own) (dLcG fin it dg dt de own) := by
  intro σ H S as en cs k Q rp ev q p
  refine hi σ H S as en cs _ _ rp ev q fun J S1 H1 as1 ds keep cs1 e1 r1 wk q1 => ?_
  obtain ⟨I, i0, ik, step, done⟩ := q1
  intro Dl hD
  have rc : Rep K S1 (upd H1 Dl (.lst [])) (as1 ++ [Dl]) (cs1 ++ [.lst []]) := r1.cell hD (c := .lst []) ⟨r1.sub.free hD, [], upd_same, rfl⟩
  refine ⟨fun i m H' => m = ds.length - i ∧ i ≤ ds.length ∧ ∃ S' acc c, Sub S1 S' ∧ Rep K S' H' (as1 ++ [Dl]) (c ++ [.lst acc]) ∧ I i acc c, ⟨ds.length, by omega, Nat.zero_le _, S1, [], cs1, Sub.refl _, rc, i0⟩, ?_⟩
  rintro i m H' ⟨rfl, hi', S', acc, c, s', r', hI⟩
  have ex : Ext S1 as1 S' (as1 ++ [Dl]) := ⟨s', [Dl], rfl⟩
  have kp := (ik i acc c hI).2
  have lc := r'.last
  by_cases hlt : i < ds.length
  · obtain ⟨d, hd⟩ : ∃ d, ds[i]? = some d := ⟨ds[i], List.getElem?_eq_getElem hlt⟩
    obtain ⟨go, yl⟩ := wk.go S' H' (as1 ++ [Dl]) _ i d ex r' kp hd
    refine .inr ⟨go, fun H'' => ∃ S'' acc' c', Sub S1 S'' ∧ Rep K S'' H'' (as1 ++ [Dl]) (c' ++ [.lst acc']) ∧ I (i + 1) acc' c', fun H'' ⟨S'', acc', c', a1, a2, a3⟩ => ⟨ds.length - (i + 1), by omega, rfl, hlt, S'', acc', c', a1, a2, a3⟩, fun x H'' y => ?_⟩
    obtain ⟨S2, s2, r2, ix⟩ := yl x H'' y
    have ex2 : Ext S as S2 (as1 ++ [Dl]) := e1.trans (ex.trans (Ext.of s2))
    refine hg (.d d) x _ H'' S2 (as1 ++ [Dl]) (wipeD en own) _ _ _ r2 ((ev.mono ex2).wipe own) ix (step i d acc c hd hI) fun σ3 S3 H3 as3 en3 cs3 e3 r3 ev3 w3 q3 => ?_
    refine ⟨by rw [w3 own hw, wipe_wipe own own fun _ h => h], ?_⟩
    refine ht σ3 H3 S3 as3 en3 cs3 _ _ r3 ev3 q3 fun b S4 H4 as4 cs4 e4 r4 q4 => ?_
    have back : ∀ {S5 H5 : Hp} {as5 : List Addr} {cs5 : Cs} {c' : Cs}, Ext S2 (as1 ++ [Dl]) S5 as5 → Rep K S5 H5 as5 cs5 → cs5.take (c.length + 1) = c' ++ [.lst acc] → c'.length = c.length → Rep K S5 H5 (as1 ++ [Dl]) (c' ++ [.lst acc]) := fun {S5 H5 as5 cs5 c'} e5 r5 t5 l5 => by
      have t := r5.take (c.length + 1)
      rw [t5] at t
      obtain ⟨mr, rfl⟩ := e5.pre
      have hz : (as1 ++ [Dl]).length = c.length + 1 := by rw [List.length_append, lc.1]; rfl
      rw [← hz, List.take_left] at t
      exact t
    cases b with
    | false =>
      rw [if_neg Bool.false_ne_true] at q4 ⊢
      obtain ⟨c', t4, l4, hI'⟩ := q4
      exact ⟨S4, acc, c', (s'.trans s2).trans (e3.sub.trans e4.sub), back (e3.trans e4) r4 t4 l4, hI'⟩
    | true =>
      rw [if_pos rfl] at q4 ⊢
      refine he.use r4 (ev3.mono e4) q4 fun z v S5 H5 as5 cs5 e5 r5 v5 q5 => ?_
      obtain ⟨y, c', rfl, t5, l5, hz, hI'⟩ := q5
      have r6 := back ((e3.trans e4).trans e5) r5 t5 l5
      obtain ⟨hl6, hS6, vs, hp6, is6⟩ := r6.last
      refine ⟨vs, hp6, by rw [is6.len]; exact size_lt hz, S5, acc ++ [y], c', (s'.trans s2).trans ((e3.sub.trans e4.sub).trans e5.sub), ?_, hI'⟩
      have r7 := r6.put (n := c'.length) (a := Dl) (o := .lst (vs ++ [v])) (c := .lst (acc ++ [y])) (by rw [← hl6, List.getElem?_append_right (Nat.le_refl _), Nat.sub_self]; rfl) ⟨hS6, _, upd_same, is6.append ⟨v, [], rfl, v5, rfl⟩⟩ hS6
      rw [List.set_append_right _ _ (Nat.le_refl _), Nat.sub_self] at r7
      exact r7
  · have ei : i = ds.length := by omega
    subst ei
    refine .inl ⟨wk.stop S' H' (as1 ++ [Dl]) _ _ ex r' kp (Nat.le_refl _), ?_⟩
    exact hf S' H' as1 c Dl acc k Q r' (done acc c hI) (p.mono (e1.trans (Ext.of s')))
theorem q_lcG {elt tg iter : Expr} {ifs : List Expr} {scope : Scope} {own : List (Str × Nat)} {fin : (Z → Cs → Prop) → List D → Cs → Prop} {wi : TI} {g : TG} {tt : TT} {te : TE} {it : DI} {dg : DG} {dt : DT} {de : DE} {is : List Nat} (hf : FinOk X.K fin) (hN : X.N.Nodup) (hi : QI X tg iter wi it) (ok : BlkOk X.N X.env.scope scope own)
    (hg : ∀ (s : Shared) (H : Hp) (C : Addr) (cl : List (Str × Addr)) (fp : List Addr), QG (X.blk s H scope (compEnvC scope cl C X.env) fp) tg g dg is) (ht : ∀ (s : Shared) (H : Hp) (C : Addr) (cl : List (Str × Addr)) (fp : List Addr), QTs (X.blk s H scope (compEnvC scope cl C X.env) fp) ifs tt dt)
    (he : ∀ (s : Shared) (H : Hp) (C : Addr) (cl : List (Str × Addr)) (fp : List Addr), QE (X.blk s H scope (compEnvC scope cl C X.env) fp) elt te de) (s0 : Shared) (hw : ∀ i ∈ is, i ∈ own.map (·.2)) (hc : X.calm = true := by rfl) (hs : ∀ x, foldedSetIterable iter X.env x = pure x := by intro _; rfl) :
    QE X (.ListComp elt [⟨tg, iter, ifs, 0⟩] scope pos) (tLc wi g tt te (own.map (·.2))) (dLcG fin it dg dt de (own.map (·.2))) :=
  ⟨pe_lc hc hN hi.pi ok (fun s H C cl fp => (hg s H C cl fp).pg) (fun s H C cl fp => (ht s H C cl fp).pts) (fun s H C cl fp => (he s H C cl fp).pe) hs,
    sem_lc hf hi.sem (hg s0 (fun _ => none) 0 [] []).sem (ht s0 (fun _ => none) 0 [] []).sem (he s0 (fun _ => none) 0 [] []).sem hw⟩

structure EnK (K : PySem.W.Frag) (S : Hp) (as : List Addr) (D : DEnds) (E : Ends) : Prop where
  nx : ∀ (σ' : L2.St) (S' H' : Hp) (as' : List Addr) (en' : En) (cs' : Cs), Ext S as S' as' → Rep K S' H' as' cs' → EnvOk K S' as' en' σ' → D.nx en' cs' → E.nx σ' H'
  rt : PQ K S as D.rt E.rt
  bk : ∀ (σ' : L2.St) (S' H' : Hp) (as' : List Addr) (en' : En) (cs' : Cs), Ext S as S' as' → Rep K S' H' as' cs' → EnvOk K S' as' en' σ' → D.bk en' cs' → E.bk σ' H'
  ct : ∀ (σ' : L2.St) (S' H' : Hp) (as' : List Addr) (en' : En) (cs' : Cs), Ext S as S' as' → Rep K S' H' as' cs' → EnvOk K S' as' en' σ' → D.ct en' cs' → E.ct σ' H'
theorem EnK.mono {K : PySem.W.Frag} {S T : Hp} {as bs : List Addr} {D : DEnds} {E : Ends} (e : Ext S as T bs) (h : EnK K S as D E) : EnK K T bs D E :=
  ⟨fun σ' S' H' as' en' cs' e' => h.nx σ' S' H' as' en' cs' (e.trans e'), h.rt.mono e, fun σ' S' H' as' en' cs' e' => h.bk σ' S' H' as' en' cs' (e.trans e'), fun σ' S' H' as' en' cs' e' => h.ct σ' S' H' as' en' cs' (e.trans e')⟩
def SemS (K : PySem.W.Frag) (ts : TS) (t : DS) : Prop :=
  ∀ (σ : L2.St) (H S : Hp) (as : List Addr) (en : En) (cs : Cs) (D : DEnds) (E : Ends), Rep K S H as cs → EnvOk K S as en σ → t D en cs → EnK K S as D E → ts E σ H
structure QS (X : Cx) (st : Stmt) (ts : TS) (t : DS) : Prop where
  ps : PS X st ts
  sem : SemS X.K ts t
structure QSs (X : Cx) (st : List Stmt) (ts : TS) (t : DS) : Prop where
  pss : PSs X st ts
  sem : SemS X.K ts t
def dNext : DS := fun D en cs => D.nx en cs
def dSeq (t u : DS) : DS := fun D en cs => t { D with nx := u D } en cs
theorem qss_nil : QSs X [] tNext dNext := ⟨pss_nil, fun σ H S as en cs D E r e q p => p.nx σ S H as en cs Ext.refl r e q⟩
theorem qss_one {st : Stmt} {ts : TS} {t : DS} (h : QS X st ts t) : QSs X [st] ts t := ⟨pss_one h.ps, h.sem⟩
theorem qss_cons {st : Stmt} {rest : List Stmt} {ts us : TS} {t u : DS} (h1 : QS X st ts t) (h2 : QSs X rest us u) : QSs X (st :: rest) (tSeq ts us) (dSeq t u) := by
  refine ⟨pss_cons h1.ps h2.pss, ?_⟩
  intro σ H S as en cs D E r e q p
  exact h1.sem σ H S as en cs { D with nx := u D } { E with nx := us E } r e q ⟨fun σ' S' H' as' en' cs' e' r' ev' q' => h2.sem σ' H' S' as' en' cs' D E r' ev' q' (p.mono e'), p.rt, p.bk, p.ct⟩
def dBreak : DS := fun D en cs => D.bk en cs
def dCont : DS := fun D en cs => D.ct en cs
def dDrop (a : DE) : DS := fun D en cs => a en cs fun _ cs1 => D.nx en cs1
theorem qs_expr {e : Expr} {te : TE} {de : DE} (he : QE X e te de) (hs : swapsWith e none pos.line X.env = pure false := by rfl) : QS X (.Expr e pos) (tDrop te) (dDrop de) := by
  refine ⟨ps_expr he.pe hs, ?_⟩
  intro σ H S as en cs D E r e q p
  exact he.sem.use r e q fun z v S1 H1 as1 cs1 e1 r1 v1 q1 => p.nx σ S1 H1 as1 en cs1 e1 r1 (e.mono e1) q1
def dRet (a : DE) : DS := fun D en cs => a en cs D.rt
theorem qs_ret {e : Expr} {te : TE} {de : DE} (he : QE X e te de) : QS X (.Return (some e) pos) (tRet te) (dRet de) := ⟨ps_ret he.pe, fun σ H S as en cs D E r e q p => he.sem.use r e q p.rt⟩
def dRetN : DS := fun D _ cs => D.rt (.d .non) cs
def dIfS (c : DT) (t u : DS) : DS := fun D en cs => c en cs fun b cs1 => if b = true then t D en cs1 else u D en cs1
theorem qs_if {c : Expr} {a b : List Stmt} {tc : TT} {ta tb : TS} {dc : DT} {da db : DS} (hc : QT X c tc dc) (ha : QSs X a ta da) (hb : QSs X b tb db) : QS X (.If c a b pos) (tIfS tc ta tb) (dIfS dc da db) := by
  refine ⟨ps_if hc.pt ha.pss hb.pss, ?_⟩
  intro σ H S as en cs D E r e q p
  refine hc.sem σ H S as en cs _ _ r e q fun b S1 H1 as1 cs1 e1 r1 q1 => ?_
  cases b with
  | true =>
    rw [if_pos rfl] at q1 ⊢
    exact ha.sem σ H1 S1 as1 en cs1 D E r1 (e.mono e1) q1 (p.mono e1)
  | false =>
    rw [if_neg Bool.false_ne_true] at q1 ⊢
    exact hb.sem σ H1 S1 as1 en cs1 D E r1 (e.mono e1) q1 (p.mono e1)
def dNever : DS := fun _ _ _ => False
def dAsg (a : DE) (g : DG) : DS := fun D en cs => a en cs fun z cs1 => g z en cs1 D.nx
theorem sem_asg {K : PySem.W.Frag} {te : TE} {g : TG} {de : DE} {dg : DG} {is : List Nat} (he : SemE K te de) (hg : SemG K g dg is) : SemS K (tAsg te g) (dAsg de dg) := by
  intro σ H S as en cs D E r e q p
  refine he.use r e q fun z v S1 H1 as1 cs1 e1 r1 v1 q1 => ?_
  exact hg z v σ H1 S1 as1 en cs1 _ _ r1 (e.mono e1) v1 q1 fun σ' S' H' as' en' cs' e' r' ev' _ q' => p.nx σ' S' H' as' en' cs' (e1.trans e') r' ev' q'
theorem qs_asg {tg e : Expr} {te : TE} {g : TG} {de : DE} {dg : DG} {is : List Nat} (he : QE X e te de) (hg : QG X tg g dg is) (hs : swapsWithSole [tg] e pos.line X.env = pure false := by rfl) (hw : swappedStores [tg] e X.env = pure none := by rfl)
    (h1 : (assignEach [tg] X.env).map (·.2) = [assign tg X.env] := by rfl) : QS X (.Assign [tg] e pos) (tAsg te g) (dAsg de dg) := ⟨ps_asg he.pe hg.pg hs hw h1, sem_asg he.sem hg.sem⟩
theorem qs_set (i : Nat) {x : Str} {e : Expr} {te : TE} {de : DE} {pos' : Pos} (hN : X.N.Nodup) (he : QE X e te de) (hi : X.N[i]? = some x := by rfl) (hx : Loc X.env.scope x := by first | exact Or.inl rfl | exact Or.inr rfl) (hs : swapsWith e (some (.Name x pos')) pos.line X.env = pure false := by rfl) (hf : X.fn x = true ∨ X.env.scope.names.lookup x = some .local := by first | exact .inl rfl | exact .inr rfl | assumption) :
    QS X (.Assign [.Name x pos'] e pos) (tAsg te (gName i)) (dAsg de (dgName i)) := ⟨ps_set hN hi hx he.pe hs hf, sem_asg he.sem (sem_gname i)⟩
def dPar (i j : Nat) (a : DA) : DS := fun D en cs => a en cs fun zs cs1 => match zs with
  | [z, w] => D.nx ((en.set i (some z)).set j (some w)) cs1
  | _ => False
theorem qs_par (i j : Nat) {x y : Str} {a b : Expr} {ta : TA} {da : DA} {px py pt : Pos} {kt k2 pt2} (hN : X.N.Nodup) (ha : QA X [a, b] ta da) (hi : X.N[i]? = some x := by rfl) (hj : X.N[j]? = some y := by rfl) (hij : i ≠ j := by decide)
    (hx : X.env.scope.names.lookup x = some .local := by rfl) (hy : X.env.scope.names.lookup y = some .local := by rfl) (hw : swappedStores [.Tuple [.Name x px, .Name y py] kt pt] (.Tuple [a, b] k2 pt2) X.env = pure (some [x, y]) := by rfl)
    (hs : swapsWithSole [.Tuple [.Name x px, .Name y py] kt pt] (.Tuple [a, b] k2 pt2) pos.line X.env = pure false := by rfl) (hc : X.calm = true := by rfl) :
    QS X (.Assign [.Tuple [.Name x px, .Name y py] kt pt] (.Tuple [a, b] k2 pt2) pos) (tPar i j ta) (dPar i j da) := by
  refine ⟨ps_par hc hN hi hj hij hx hy ha.pa hw hs, ?_⟩
  intro σ H S as en cs D E r e q p
  refine ha.sem σ H S as en cs _ _ r e q fun zs vs S1 H1 as1 cs1 e1 r1 v1 q1 => ?_
  split at q1
  · obtain ⟨v, _, rfl, h1, u, _, rfl, h2, h3⟩ := v1
    exact ⟨v, u, by rw [h3], p.nx _ S1 H1 as1 _ cs1 e1 r1 (((e.mono e1).set h1 i).set h2 j) q1⟩
  · exact q1.elim
theorem qs_setLc (i : Nat) {y : Str} {py : Pos} {elt tg iter : Expr} {ifs : List Expr} {scope : Scope} {own : List (Str × Nat)} {spos : Pos} {fin : (Z → Cs → Prop) → List D → Cs → Prop} {wi : TI} {g : TG} {tt : TT} {te : TE} {it : DI} {dg : DG} {dt : DT} {de : DE} {is : List Nat} (hf : FinOk X.K fin) (hN : X.N.Nodup) (hsw : swapsWith (.ListComp elt [⟨tg, iter, ifs, 0⟩] scope pos) (some (.Name y py)) spos.line X.env = pure true)
    (hi : QI X tg iter wi it) (ok : BlkOk X.N X.env.scope scope own)
    (hg : ∀ (s : Shared) (H : Hp) (C : Addr) (cl : List (Str × Addr)) (fp : List Addr), QG (X.blk s H scope (compEnvC scope cl C X.env) fp) tg g dg is) (ht : ∀ (s : Shared) (H : Hp) (C : Addr) (cl : List (Str × Addr)) (fp : List Addr), QTs (X.blk s H scope (compEnvC scope cl C X.env) fp) ifs tt dt)
    (he : ∀ (s : Shared) (H : Hp) (C : Addr) (cl : List (Str × Addr)) (fp : List Addr), QE (X.blk s H scope (compEnvC scope cl C X.env) fp) elt te de) (s0 : Shared) (hw : ∀ i ∈ is, i ∈ own.map (·.2)) (hy : X.N[i]? = some y := by rfl) (hyl : X.env.scope.names.lookup y = some .local := by rfl) (hc : X.calm = true := by rfl) (hs : ∀ x, foldedSetIterable iter X.env x = pure x := by intro _; rfl) :
    QS X (.Assign [.Name y py] (.ListComp elt [⟨tg, iter, ifs, 0⟩] scope pos) spos) (tAsg (tLc wi g tt te (own.map (·.2))) (gName i)) (dAsg (dLcG fin it dg dt de (own.map (·.2))) (dgName i)) :=
  ⟨ps_setLc hc hN hy hyl hsw hi.pi ok (fun s H C cl fp => (hg s H C cl fp).pg) (fun s H C cl fp => (ht s H C cl fp).pts) (fun s H C cl fp => (he s H C cl fp).pe) hs,
    sem_asg (sem_lc hf hi.sem (hg s0 (fun _ => none) 0 [] []).sem (ht s0 (fun _ => none) 0 [] []).sem (he s0 (fun _ => none) 0 [] []).sem hw) (sem_gname i)⟩
def dPutK (a b c : DE) : DS := fun D en cs => c en cs fun z cs1 => a en cs1 fun x cs2 => b en cs2 fun y cs3 => match x, y, z with
  | .c n, .d dy, .d dz => (match cs3[n]? with
    | some (.dic kvs) => keyD dy fun key => kvs.length < LIM ∧ D.nx en (cs3.set n (.dic (setK kvs key dz)))
    | _ => False)
  | _, _, _ => False
def dAppend (o v : DE) : DE := fun en cs k => o en cs fun x cs1 => match x with
  | .c n => (match cs1[n]? with
    | some (.lst _) => v en cs1 fun y cs2 => (match y with
      | .d d => (match cs2[n]? with
        | some (.lst ds) => ds.length < LIM ∧ k (.d .non) (cs2.set n (.lst (ds ++ [d])))
        | _ => False)
      | _ => False)
    | _ => False)
  | _ => False
theorem q_append {o v : Expr} {to tv : TE} {od vd : DE} {apos cpos : Pos} (ho : QE X o to od) (hv : QE X v tv vd)
    (hbase : attributeBase o "append" X.env (eval o X.env) = eval o X.env := by rfl)
    (hfew : ((backTo cpos (starEach [v] X.env)).all (fun x => !x.1) && (backToKw cpos (keywordEach [] X.env)).all (fun x => x.1.isSome)
      && decide ([v].length + ([] : List Keyword).length + (if ([] : List Keyword).isEmpty then 0 else 1) < 30)) = true := by rfl)
    (hline : (apos.endLine == cpos.line) = true := by rfl) (hs : starEach [v] X.env = (false, eval v X.env) :: starEach [] X.env := by rfl) (hplain : (backTo cpos (starEach [] X.env)).any (·.1) = false := by rfl) :
    QE X (.Call (.Attribute o "append" apos) [v] [] cpos) (tBM X.K "list" rAppend to (tCons tv tNil)) (dAppend od vd) := by
  refine ⟨pe_bm PySem.F.plainAttrs_list PySem.F.slot_list_append PySem.F.type_list_append mt_append ho.pe (pa_cons hv.pe pa_nil hs) hbase hfew hline hs hplain, ?_⟩
  intro σ H S as en cs k Q r e q p
  refine ho.sem.use r e q fun z v S1 H1 as1 cs1 e1 r1 w1 q1 => ?_
  split at q1
  · rename_i n
    split at q1
    · rename_i ds1 hc1
      obtain ⟨a, ha, rfl⟩ := w1
      obtain ⟨_, vs1, hl1, _⟩ := r1.cell_lst ha hc1
      refine ⟨.inl ⟨rfl, vs1, SqL.of hl1⟩, ?_⟩
      refine hv.sem.use r1 (e.mono e1) q1 fun z2 v2 S2 H2 as2 cs2 e2 r2 w2 q2 => ?_
      split at q2
      · rename_i d
        split at q2
        · rename_i ds hc
          have ha2 := e2.get ha
          obtain ⟨hS, vs, hl, is⟩ := r2.cell_lst ha2 hc
          exact ⟨a, vs, v2, rfl, rfl, hl, by rw [is.len]; exact size_lt q2.1, p (.d .non) .non S2 _ as2 _ (e1.trans e2) (r2.put ha2 (c := .lst (ds ++ [d])) ⟨hS, _, upd_same, is.append ⟨v2, [], rfl, w2, rfl⟩⟩ hS) rfl q2.2⟩
        · exact q2.elim
      · exact q2.elim
    · exact q1.elim
  · exact q1.elim
def dExtend (o v : DE) : DE := fun en cs k => o en cs fun x cs1 => match x with
  | .c n => (match cs1[n]? with
    | some (.lst _) => v en cs1 fun y cs2 => withD cs2 y fun dy => (match dy with
      | .lst es => (match cs2[n]? with
        | some (.lst ds) => ds.length + es.length < LIM ∧ k (.d .non) (cs2.set n (.lst (ds ++ es)))
        | _ => False)
      | _ => False)
    | _ => False)
  | _ => False
theorem q_extend {o v : Expr} {to tv : TE} {od vd : DE} {apos cpos : Pos} (ho : QE X o to od) (hv : QE X v tv vd)
    (hbase : attributeBase o "extend" X.env (eval o X.env) = eval o X.env := by rfl)
    (hfew : ((backTo cpos (starEach [v] X.env)).all (fun x => !x.1) && (backToKw cpos (keywordEach [] X.env)).all (fun x => x.1.isSome)
      && decide ([v].length + ([] : List Keyword).length + (if ([] : List Keyword).isEmpty then 0 else 1) < 30)) = true := by rfl)
    (hline : (apos.endLine == cpos.line) = true := by rfl) (hs : starEach [v] X.env = (false, eval v X.env) :: starEach [] X.env := by rfl) (hplain : (backTo cpos (starEach [] X.env)).any (·.1) = false := by rfl) :
    QE X (.Call (.Attribute o "extend" apos) [v] [] cpos) (tBM X.K "list" rExtend to (tCons tv tNil)) (dExtend od vd) := by
  refine ⟨pe_bm PySem.F.plainAttrs_list PySem.F.slot_list_extend PySem.F.type_list_extend mt_extend ho.pe (pa_cons hv.pe pa_nil hs) hbase hfew hline hs hplain, ?_⟩
  intro σ H S as en cs k Q r e q p
  refine ho.sem.use r e q fun z v S1 H1 as1 cs1 e1 r1 w1 q1 => ?_
  split at q1
  · rename_i n
    split at q1
    · rename_i ds1 hc1
      obtain ⟨a, ha, rfl⟩ := w1
      obtain ⟨_, vs1, hl1, _⟩ := r1.cell_lst ha hc1
      refine ⟨.inl ⟨rfl, vs1, SqL.of hl1⟩, ?_⟩
      refine hv.sem.use r1 (e.mono e1) q1 fun z2 v2 S2 H2 as2 cs2 e2 r2 w2 q2 => ?_
      obtain ⟨dy, l2, q2⟩ := withD_look q2
      split at q2
      · rename_i es
        obtain ⟨b, us, rfl, hb, ie⟩ := look_sh r2 w2 l2
        split at q2
        · rename_i ds hc
          have ha2 := e2.get ha
          obtain ⟨hS, vs, hl, is⟩ := r2.cell_lst ha2 hc
          exact ⟨a, b, vs, us, rfl, rfl, hl, hb, by rw [is.len, ie.len]; exact Nat.le_of_lt (size_lt q2.1), p (.d .non) .non S2 _ as2 _ (e1.trans e2) (r2.put ha2 (c := .lst (ds ++ es)) ⟨hS, _, upd_same, is.append ie⟩ hS) rfl q2.2⟩
        · exact q2.elim
      · exact q2.elim
    · exact q1.elim
  · exact q1.elim

def forgetZ (n : Nat) : Option Z → Option Z
  | some (.c m) => if m < n then some (.c m) else none
  | o => o
def forget (n : Nat) (en : En) : En := en.map (forgetZ n)
def Wkn (n0 : Nat) (P : En → Cs → Prop) (en : En) (cs : Cs) : Prop := P en cs ∨ ∃ n, n0 ≤ n ∧ P (forget n en) (cs.take n)
theorem EnvOk.cut {K : PySem.W.Frag} {S : Hp} {as : List Addr} {en : En} {σ : L2.St} (h : EnvOk K S as en σ) (n : Nat) : EnvOk K S (as.take n) (DL.forget n en) σ := by
  refine ⟨by rw [h.len, DL.forget, List.length_map], fun i z e => ?_⟩
  unfold DL.forget at e
  rw [List.getElem?_map] at e
  cases q : en[i]? with
  | none => rw [q] at e; cases e
  | some o =>
    rw [q] at e
    have e' : forgetZ n o = some z := Option.some.inj e
    cases o with
    | none => cases e'
    | some y =>
      cases y with
      | d x =>
        cases e'
        obtain ⟨v, h1, h2⟩ := h.at_ i (.d x) q
        exact ⟨v, h1, h2⟩
      | c m =>
        have e2 : (if m < n then some (Z.c m) else none) = some z := e'
        split at e2
        · rename_i hm
          cases e2
          obtain ⟨v, h1, a, h2, h3⟩ := h.at_ i (.c m) q
          exact ⟨v, h1, a, by rw [List.getElem?_take_of_lt hm]; exact h2, h3⟩
        · cases e2
theorem Ext.cut {S S' : Hp} {as as' : List Addr} (e : Ext S as S' as') {n : Nat} (h : as.length ≤ n) : Ext S as S' (as'.take n) := by
  obtain ⟨m, rfl⟩ := e.pre
  refine ⟨e.sub, m.take (n - as.length), ?_⟩
  rw [List.take_append, List.take_of_length_le h]
theorem Wkn.out {K : PySem.W.Frag} {S0 S H : Hp} {as0 as : List Addr} {n0 : Nat} {P : En → Cs → Prop} {en : En} {cs : Cs} {σ : L2.St} (h : Wkn n0 P en cs) (x : Ext S0 as0 S as) (hn : as0.length = n0) (r : Rep K S H as cs) (e : EnvOk K S as en σ) :
    ∃ S' as' en' cs', Ext S0 as0 S' as' ∧ Rep K S' H as' cs' ∧ EnvOk K S' as' en' σ ∧ P en' cs' := by
  rcases h with h | ⟨n, h0, h⟩
  · exact ⟨S, as, en, cs, x, r, e, h⟩
  · exact ⟨S, _, _, _, x.cut (by omega), r.take n, e.cut n, h⟩
def dFor (it : DI) (g : DG) (b : DS) : DS := fun D en cs => it en cs fun ds keep cs1 => ∃ I : Nat → En → Cs → Prop, I 0 en cs1 ∧ (∀ i en cs, I i en cs → keep cs) ∧
  (∀ i d en cs, ds[i]? = some d → I i en cs → g (.d d) en cs fun en2 cs2 => b { D with nx := Wkn cs1.length (I (i + 1)), ct := Wkn cs1.length (I (i + 1)), bk := D.nx } en2 cs2) ∧ ∀ en cs, I ds.length en cs → D.nx en cs
theorem qs_for {tg iter : Expr} {body : List Stmt} {wi : TI} {g : TG} {tb : TS} {it : DI} {dg : DG} {db : DS} {is : List Nat} (hp : PassesOwn (model X.prog X.w) X.A X.env X.xe) (hi : QI X tg iter wi it) (hg : QG X tg g dg is) (hb : QSs X body tb db) (hc : X.calm = true := by rfl)
    (hs : ∀ x, foldedSetIterable iter X.env x = pure x := by intro _; rfl) : QS X (.For tg iter body [] pos) (tFor wi g tb) (dFor it dg db) := by
  refine ⟨ps_for hp hc hi.pi hg.pg hb.pss hs, ?_⟩
  intro σ H S as en cs D E r e q p
  refine hi.sem σ H S as en cs _ _ r e q fun J S1 H1 as1 ds keep cs1 e1 r1 wk q1 => ?_
  obtain ⟨I, i0, ik, step, done⟩ := q1
  refine ⟨fun i m σ' H' => m = ds.length - i ∧ i ≤ ds.length ∧ ∃ S' as' en' cs', Ext S1 as1 S' as' ∧ Rep X.K S' H' as' cs' ∧ EnvOk X.K S' as' en' σ' ∧ I i en' cs', ⟨ds.length, by omega, Nat.zero_le _, S1, as1, en, cs1, Ext.refl, r1, e.mono e1, i0⟩, ?_⟩
  rintro i m σ' H' ⟨rfl, hi', S', as', en', cs', ex, r', ev', hI⟩
  have kp := ik i en' cs' hI
  by_cases hlt : i < ds.length
  · obtain ⟨d, hd⟩ : ∃ d, ds[i]? = some d := ⟨ds[i], List.getElem?_eq_getElem hlt⟩
    obtain ⟨go, yl⟩ := wk.go S' H' as' cs' i d ex r' kp hd
    refine .inr ⟨go, fun σ2 H2 => ∃ S2 as2 en2 cs2, Ext S1 as1 S2 as2 ∧ Rep X.K S2 H2 as2 cs2 ∧ EnvOk X.K S2 as2 en2 σ2 ∧ I (i + 1) en2 cs2, fun σ2 H2 h2 => ⟨ds.length - (i + 1), by omega, rfl, hlt, h2⟩, fun x H'' y => ?_⟩
    obtain ⟨S2, s2, r2, ix⟩ := yl x H'' y
    have e2 : Ext S1 as1 S2 as' := ex.trans (Ext.of s2)
    refine hg.sem (.d d) x σ' H'' S2 as' en' cs' _ _ r2 (ev'.mono (Ext.of s2)) ix (step i d en' cs' hd hI) fun σ3 S3 H3 as3 en3 cs3 e3 r3 ev3 _ q3 => ?_
    have e4 := e2.trans e3
    refine hb.sem σ3 H3 S3 as3 en3 cs3 _ _ r3 ev3 q3 ⟨fun σ4 S4 H4 as4 en4 cs4 e5 r4 ev4 q4 => ?_, p.rt.mono (e1.trans e4), fun σ4 S4 H4 as4 en4 cs4 e5 r4 ev4 q4 => ?_, fun σ4 S4 H4 as4 en4 cs4 e5 r4 ev4 q4 => ?_⟩
    · exact Wkn.out q4 (e4.trans e5) r1.len r4 ev4
    · exact p.nx σ4 S4 H4 as4 en4 cs4 (e1.trans (e4.trans e5)) r4 ev4 q4
    · exact Wkn.out q4 (e4.trans e5) r1.len r4 ev4
  · have ei : i = ds.length := by omega
    subst ei
    exact .inl ⟨wk.stop S' H' as' cs' _ ex r' kp (Nat.le_refl _), p.nx σ' S' H' as' en' cs' (e1.trans ex) r' ev' (done en' cs' hI)⟩
end
end DL
set_option maxHeartbeats 2000000
set_option autoImplicit false
namespace DL
open PySem PySem.Spec PyProof.Rows L2

def spD (K : PySem.W.Frag) (sp : DSpec) (vs : List V) (H : Hp) (Q : VK) : Prop :=
  ∃ (S : Hp) (as : List Addr) (zs : List Z) (cs : Cs) (k : Z → Cs → Prop), Rep K S H as cs ∧ VZL K S as zs vs ∧ sp zs cs k ∧ PQ K S as k Q
structure FnD (P : Program) (w : World) (K : PySem.W.Frag) (mg : Str → Option Value) (base : Heap) (k : Nat) (f : Addr) (fd : FuncData) (ps : List Str) (sp : DSpec) : Prop where
  len : ∀ zs cs q, sp zs cs q → zs.length = ps.length
  run : ∀ (A : Around) (outer : List Env) (s : Shared) (H : Hp) (args : Args) (us : List Value) (vs : List V) (Q : VK), Room k A → A.guards = some [] → Env0 P w K mg base A outer s H → BindsTo s fd args (ps.zip us) → Vals vs us → spD K sp vs H Q →
    codeAny (model P w) A (.call (.ref f) args) (CR CX0 outer P w H s Q E0) s
theorem FnD.mono {P : Program} {w : World} {K : PySem.W.Frag} {mg : Str → Option Value} {base : Heap} {j k : Nat} {f : Addr} {fd : FuncData} {ps : List Str} {sp : DSpec} (F : FnD P w K mg base j f fd ps sp) (h : j ≤ k) : FnD P w K mg base k f fd ps sp :=
  ⟨F.len, fun A outer s H args us vs Q hr => F.run A outer s H args us vs Q (hr.mono h)⟩
theorem FnD.imp {P : Program} {w : World} {K : PySem.W.Frag} {mg : Str → Option Value} {base : Heap} {k : Nat} {f : Addr} {fd : FuncData} {ps : List Str} {sp sp' : DSpec} (F : FnD P w K mg base k f fd ps sp) (h : ∀ zs cs q, sp' zs cs q → sp zs cs q) : FnD P w K mg base k f fd ps sp' :=
  ⟨fun zs cs q h' => F.len zs cs q (h zs cs q h'), fun A outer s H args us vs Q hr hg e0 hb hv ⟨S, as, zs, cs, q, a1, a2, a3, a4⟩ => F.run A outer s H args us vs Q hr hg e0 hb hv ⟨S, as, zs, cs, q, a1, a2, h _ _ _ a3, a4⟩⟩
section
variable {X : Cx} {k : Nat} {f : Addr} {fd : FuncData} {ps : List Str} {sp : DSpec} {x : Str} {p pos : Pos} {e : Expr} {es : List Expr} {ta : TA} {da : DA}
theorem run_fnD {pins : List (Addr × Obj)} {σ : L2.St} {H : Hp} {s : Shared} {Q : VK} {us : List Value} {vs : List V} (F : FnD X.prog X.w X.K X.mg X.base k f fd ps sp) (hr : Room k X.A) (hg : X.A.guards = some []) (hb : L2.Binds X.K fd ps [])
    (I : Inv X pins σ H s) (r : Vals vs us) (h : spD X.K sp vs H Q) : wpAny (model X.prog X.w) X.A (call (.ref f) us) (EP X pins σ Q) X.xe s := by
  have hl : (us ++ []).length = ps.length := by
    obtain ⟨S, as, zs, cs, q, a1, a2, a3, a4⟩ := h
    rw [List.append_nil, ← r.length, a2.len, F.len _ _ _ a3]
  have b := hb s us I.kIn hl
  rw [List.append_nil] at b
  refine wpAny_call (codeAny_mono (F.run X.A X.stack s H ⟨us, []⟩ us vs Q hr hg I.env0 b r h) fun r s' hq => ?_)
  cases r with
  | error e => exact hq.elim
  | ok fl =>
    cases fl with
    | ret u => exact I.after hq
    | next => exact hq.elim
    | brk => exact hq.elim
    | cont => exact hq.elim
def tCallD (K : PySem.W.Frag) (sp : DSpec) (t : TA) : TE := fun σ H Q => t σ H fun vs H1 => spD K sp vs H1 Q
def dCall (sp : DSpec) (a : DA) : DE := fun en cs k => a en cs fun zs cs1 => sp zs cs1 k
theorem q_call (F : FnD X.prog X.w X.K X.mg X.base k f fd ps sp) (hr : Room k X.A) (hgd : X.A.guards = some []) (hm : X.mg x = some (.ref f)) (hk : PySem.W.keepIn X.K (.ref f) = true) (hb : L2.Binds X.K fd ps []) (ha : QA X (e :: es) ta da) (hg : Gl X x := by rfl)
    (hdb : (x == ("__debug__" : Str)) = false := by decide) (he : starEach (e :: es) X.env = (false, eval e X.env) :: starEach es X.env := by rfl) (hpl : (backTo pos (starEach es X.env)).any (·.1) = false := by rfl) :
    QE X (.Call (.Name x p) (e :: es) [] pos) (tCallD X.K sp ta) (dCall sp da) := by
  refine ⟨⟨fun pins s σ H Q I h => ?_⟩, ?_⟩
  · refine wpAny_Call_Name_kw (ld_glob I hg hm ?_ hdb)
    refine PySem.W.callWith_K (h₀ := X.base) I.ok.mod.kin hk (thn (ha.pa.run pos pins s σ H _ I h) fun us s1 ⟨vs, H1, I1, r, q⟩ => ⟨I1.kIn, ?_⟩) he hpl
    exact run_fnD F hr hgd hb I1 r q
  · intro σ H S as en cs k Q rp ev q pq
    refine ha.sem σ H S as en cs _ _ rp ev q fun zs vs S1 H1 as1 cs1 e1 r1 v1 q1 => ?_
    exact ⟨S1, as1, zs, cs1, k, r1, v1, q1, pq.mono e1⟩
end

def FinZ (n : Nat) (k : Z → Cs → Prop) : Z → Cs → Prop := fun z cs => match z with
  | .d x => k (.d x) (cs.take n)
  | .c m => (m < n ∧ k (.c m) (cs.take n)) ∨ (n ≤ m ∧ match cs[m]? with
    | some x => k (.d x) (cs.take n) ∨ k (.c n) (cs.take n ++ [x])
    | none => False)
def startD (N : List Str) (zs : List Z) : En := zs.map some ++ List.replicate (N.length - zs.length) none
theorem VZL.get {K : PySem.W.Frag} {S : Hp} {as : List Addr} : ∀ {zs : List Z} {vs : List V} {i : Nat} {z : Z}, VZL K S as zs vs → zs[i]? = some z → ∃ v, vs[i]? = some v ∧ VZ K S as z v
  | [], _, _, _, _, e => by simp at e
  | _ :: _, _, 0, _, ⟨v, r, h1, h2, h3⟩, e => by
    have e' := Option.some.inj e
    subst e' h1
    exact ⟨v, rfl, h2⟩
  | _ :: _, _, i + 1, _, ⟨v, r, h1, h2, h3⟩, e => by
    subst h1
    exact VZL.get (i := i) h3 e
theorem env_start {K : PySem.W.Frag} {S : Hp} {as : List Addr} {N : List Str} {zs : List Z} {vs : List V} (h : VZL K S as zs vs) : EnvOk K S as (startD N zs) (L2.start N vs) := by
  unfold startD L2.start
  refine ⟨by simp only [List.length_append, List.length_map, List.length_replicate, h.len], fun i z e => ?_⟩
  by_cases hi : i < zs.length
  · rw [List.getElem?_append_left (by simpa using hi), List.getElem?_map] at e
    obtain ⟨y, hy⟩ : ∃ y, zs[i]? = some y := ⟨zs[i], List.getElem?_eq_getElem hi⟩
    rw [hy] at e
    cases e
    obtain ⟨v, h1, h2⟩ := h.get hy
    refine ⟨v, ?_, h2⟩
    rw [List.getElem?_append_left (by simpa [h.len] using hi), List.getElem?_map, h1]
    rfl
  · rw [List.getElem?_append_right (by simpa using hi), List.getElem?_replicate] at e
    split at e <;> cases e
theorem Rep.pick {K : PySem.W.Frag} {S H : Hp} {as : List Addr} {cs : Cs} (r : Rep K S H as cs) {n m : Nat} {a : Addr} {x : D} (hm : n ≤ m) (ha : as[m]? = some a) (hx : cs[m]? = some x) : Rep K S H (as.take n ++ [a]) (cs.take n ++ [x]) := by
  have t := r.take n
  have np : a ∉ as.take n := fun z => by
    obtain ⟨i, hi, e⟩ := List.getElem_of_mem z
    rw [List.getElem_take] at e
    have hl : i < n := by
      have := hi
      rw [List.length_take] at this
      omega
    have := nd_ix r.nod (i := i) (j := m) (by rw [← e]; exact List.getElem?_eq_getElem _) ha
    omega
  refine ⟨r.sub, by rw [List.length_append, List.length_append, t.len]; rfl, ?_, fun j b d e1 e2 => ?_, fun b hb => ?_, fun q hq => ⟨(r.tab q hq).1, (r.tab q hq).2.keep fun b o nb e => ⟨fun z => ?_, e⟩⟩⟩
  rotate_right
  · rcases List.mem_append.mp z with z | z
    · exact nb (List.mem_of_mem_take z)
    · have z : b = a := by simpa using z
      exact nb (by rw [z]; exact List.mem_of_getElem? ha)
  · exact List.nodup_append.mpr ⟨t.nod, by simp, fun y hy w hw => by
      have hw' : w = a := by simpa using hw
      subst hw'
      exact fun z => np (z ▸ hy)⟩
  · by_cases hj : j < (as.take n).length
    · rw [List.getElem?_append_left hj] at e1
      rw [List.getElem?_append_left (by rw [← t.len]; exact hj)] at e2
      exact t.cel j b d e1 e2
    · rw [List.getElem?_append_right (by omega)] at e1
      rw [List.getElem?_append_right (by rw [← t.len]; omega), ← t.len] at e2
      have hz : j - (as.take n).length = 0 := by
        have := (List.getElem?_eq_some_iff.mp e1).1
        simp only [List.length_cons, List.length_nil] at this
        omega
      rw [hz] at e1 e2
      cases e1
      cases e2
      exact r.cel m a x ha hx
  · rcases List.mem_append.mp hb with hb | hb
    · exact t.liv b hb
    · have : b = a := by simpa using hb
      subst this
      exact r.liv b (List.mem_of_getElem? ha)
theorem CelAt.obj {K : PySem.W.Frag} {S H : Hp} {a : Addr} : ∀ {x : D}, (∀ b, x ≠ .obj b ∧ ∀ y, x ≠ .cel b y) → CelAt K S H a x → ∃ o, H a = some o ∧ S a = none ∧ Is K (upd S a o) x (.ref a)
  | .lst ds, _, ⟨h1, vs, h2, h3⟩ => ⟨_, h2, h1, a, vs, rfl, upd_same, IsL.mono (Sub.new h1) _ _ h3⟩
  | .dic kvs, _, ⟨h1, kv, h2, h3⟩ => ⟨_, h2, h1, a, kv, rfl, upd_same, IsK.mono (Sub.new h1) _ _ h3⟩
  | .ob _ _ _, _, ⟨h1, dx, vs, h2, h3, h4, h5⟩ => ⟨_, h2, h1, a, dx, vs, rfl, upd_same, Sub.new h1 _ _ h3, h4, IsL.mono (Sub.new h1) _ _ h5⟩
  | .scr _, _, h => h.elim
  | .ty _, _, h => h.elim
  | .obj b, n, _ => absurd rfl (n b).1
  | .cel b y, n, _ => absurd rfl ((n b).2 y)
  | .non, _, h => h.elim
  | .bl _, _, h => h.elim
  | .int _, _, h => h.elim
  | .str _, _, h => h.elim
  | .tup _, _, h => h.elim
theorem fin_pq {K : PySem.W.Frag} {S : Hp} {as : List Addr} {k : Z → Cs → Prop} {Q : VK} (p : PQ K S as k Q) : PQ K S as (FinZ as.length k) Q := by
  intro z v S' H' as' cs' e r vz h
  have et := e.take
  have rt := r.take as.length
  cases z with
  | d x => exact p (.d x) v S' H' _ _ et rt vz h
  | c m =>
    obtain ⟨a, ha, rfl⟩ := vz
    rcases h with ⟨hm, h⟩ | ⟨hm, h⟩
    · exact p (.c m) _ S' H' _ _ et rt ⟨a, by rw [List.getElem?_take_of_lt hm]; exact ha, rfl⟩ h
    · split at h
      · rename_i x hx
        have c := r.cel m a x ha hx
        rcases h with h | h
        · by_cases dd : ∃ b, x = .obj b
          · obtain ⟨b, rfl⟩ := dd
            exact p (.d (.obj b)) _ S' H' _ _ et rt (congrArg V.ref (Eq.symm (show b = a from c))) h
          by_cases de : ∃ b y, x = .cel b y
          · obtain ⟨b, y, rfl⟩ := de
            exact p (.d (.cel b y)) _ S' H' _ _ et rt c.isC h
          obtain ⟨o, h1, h2, h3⟩ := c.obj (fun b => ⟨fun e => dd ⟨b, e⟩, fun y e => de ⟨b, y, e⟩⟩)
          have np : a ∉ as'.take as.length := fun z => by
            obtain ⟨i, hi, e⟩ := List.getElem_of_mem z
            rw [List.getElem_take] at e
            have hl : i < as.length := by
              have := hi
              rw [List.length_take] at this
              omega
            have := nd_ix r.nod (i := i) (j := m) (by rw [← e]; exact List.getElem?_eq_getElem _) ha
            omega
          exact p (.d x) _ (upd S' a o) H' _ _ (et.trans (Ext.of (Sub.new h2))) (rt.freeze np h1 h2 (r.notab (List.mem_of_getElem? ha))) h3 h
        · have hz : (as'.take as.length).length = as.length := by
            obtain ⟨m', rfl⟩ := e.pre
            rw [List.take_left]
          refine p (.c as.length) _ S' H' _ _ ⟨et.sub, ?_⟩ (r.pick hm ha hx) ⟨a, ?_, rfl⟩ h
          · obtain ⟨m', e'⟩ := et.pre
            exact ⟨m' ++ [a], by rw [e', List.append_assoc]⟩
          · rw [List.getElem?_append_right (by omega), hz, Nat.sub_self]
            rfl
      · exact h.elim
section
variable {P : Program} {w : World} {K : PySem.W.Frag} {mg : Str → Option Value} {base : Heap}
theorem fn_D {x qual : Str} {st : Stmt} {f : Addr} {fd : FuncData} {N ps : List Str} {k : Nat} {sp : DSpec} (F : Fun K x qual st f fd) (S : FnScope N ps (defScope st)) (len : ∀ zs cs q, sp zs cs q → zs.length = ps.length) (t : DS)
    (der : ∀ (cdv : Value) (A : Around) (outer : List Env) (s : Shared) (H : Hp), Room k (A.deeper (envOfC qual (defScope st) s.heap.objs.size f cdv)) → (A.deeper (envOfC qual (defScope st) s.heap.objs.size f cdv)).guards = some [] →
      ∃ ts : TS, QSs (cxOf CX0 P w K mg base N qual (defScope st) f cdv A outer s H E0).nox (defBody st) ts t)
    (rd : ∀ zs cs q, sp zs cs q → t ⟨fun _ c => q (.d .non) (c.take cs.length), FinZ cs.length q, fun _ _ => False, fun _ _ => False⟩ (startD N zs) cs) : FnD P w K mg base (k + 1) f fd ps sp := by
  obtain ⟨oc, od, kV, doc, pm, an, cdv, ct, osl, rfl, lk, hcd⟩ := F.ex
  refine ⟨len, fun A outer s H args us vs Q hr hgd e0 hb r hsp => ?_⟩
  obtain ⟨T, as, zs, cs, q, rep, vz, hz, pq⟩ := hsp
  have hl : vs.length = ps.length := vz.len.trans (len _ _ _ hz)
  have KX : K.In s.heap := e0.mod.kin.keeps fun b o e => (e0.bs b o e).1
  have lim : s.heap.NoLimit := e0.mod.nolimit.keeps fun b o e => (e0.bs b o e).1
  refine codeAny_call_function hr.depth (KX _ _ lk) rfl S.co S.gen rfl (PySem.W.codeRec_of KX hcd) (hb _ _ _ _ ?_)
  refine wpAny_newFunctionEnv_cells S.kind (fun ⟨n, v⟩ hy => (S.par n (List.of_mem_zip hy).1).imp (fun h => h) fun h => ⟨h, PySem.W.cellsFrom_some _ _ _ (.inl h)⟩) fun env he s1 x => ?_
  subst he
  refine ⟨lim.keeps x.toInCall.keep, codeAny_func ?_⟩
  obtain ⟨ts, d⟩ := der cdv A outer s H (hr.deeper _) hgd
  have I : Inv (cxOf CX0 P w K mg base N qual (defScope st) f cdv A outer s H E0) [] (L2.start N vs) H s1 := inv_start S hr.hd e0 hl r x
  have body : ts { nx := fun _ H' => Q .non H', rt := Q } (L2.start N vs) H := by
    refine d.sem (L2.start N vs) H T as (startD N zs) cs _ _ rep (env_start vz) (rd zs cs q hz) ⟨fun σ' S' H' as' en' cs' e' r' ev' q' => ?_, ?_, fun _ _ _ _ _ _ _ _ _ h => h, fun _ _ _ _ _ _ _ _ _ h => h⟩
    · rw [← rep.len] at q'
      exact pq (.d .non) .non S' H' _ _ e'.take (r'.take as.length) rfl q'
    · rw [← rep.len]
      exact fin_pq pq
  refine wpAny_mono (d.pss.nox.run [] s1 (L2.start N vs) H _ I body) (fun fl s' hs => ?_) fun e s' hs => hs
  cases fl with
  | ret u =>
    obtain ⟨v, σ', H', J, rv, q⟩ := hs
    exact ⟨v, H', J.os, J.bare, J.base, J.hok, rv, q⟩
  | next =>
    obtain ⟨σ', H', J, q⟩ := hs
    exact ⟨.non, H', J.os, J.bare, J.base, J.hok, rfl, q⟩
  | brk => exact hs.elim fun _ h => h.elim fun _ h => h.2.elim
  | cont => exact hs.elim fun _ h => h.elim fun _ h => h.2.elim

end
end DL
set_option maxHeartbeats 2000000
set_option autoImplicit false
namespace DL
open PySem PySem.Spec PyProof.Rows L2

def DefT (K : PySem.W.Frag) (mg : Str → Option Value) (name : Str) (st : Stmt) (ps : List Str) : Prop :=
  ∃ (f : Addr) (fd : FuncData), Fun K name name st f fd ∧ mg name = some (.ref f) ∧ L2.Binds K fd ps []
def Got (P : Program) (w : World) (K : PySem.W.Frag) (mg : Str → Option Value) (base : Heap) (name : Str) (k : Nat) (ps : List Str) (sp : DSpec) : Prop :=
  ∃ (f : Addr) (fd : FuncData), mg name = some (.ref f) ∧ PySem.W.keepIn K (.ref f) = true ∧ L2.Binds K fd ps [] ∧ FnD P w K mg base k f fd ps sp
section
variable {P : Program} {w : World} {K : PySem.W.Frag} {mg : Str → Option Value} {base : Heap} {name : Str} {k : Nat} {ps : List Str} {sp : DSpec}
theorem Got.mono {j : Nat} (G : Got P w K mg base name j ps sp) (h : j ≤ k) : Got P w K mg base name k ps sp :=
  let ⟨f, fd, a, b, c, d⟩ := G
  ⟨f, fd, a, b, c, d.mono h⟩
theorem Got.imp {sp' : DSpec} (G : Got P w K mg base name k ps sp) (h : ∀ zs cs q, sp' zs cs q → sp zs cs q) : Got P w K mg base name k ps sp' :=
  let ⟨f, fd, a, b, c, d⟩ := G
  ⟨f, fd, a, b, c, d.imp h⟩
abbrev endD (n : Nat) (q : Z → Cs → Prop) : DEnds := ⟨fun _ c => q (.d .non) (c.take n), FinZ n q, fun _ _ => False, fun _ _ => False⟩
theorem Got.mk {st : Stmt} {N : List Str} (T : DefT K mg name st ps) (S : FnScope N ps (defScope st)) (len : ∀ zs cs q, sp zs cs q → zs.length = ps.length) (t : DS)
    (der : ∀ (f : Addr) (cdv : Value) (A : Around) (outer : List Env) (s : Shared) (H : Hp), Room k (A.deeper (envOfC name (defScope st) s.heap.objs.size f cdv)) → (A.deeper (envOfC name (defScope st) s.heap.objs.size f cdv)).guards = some [] →
      ∃ ts : TS, QSs (cxOf CX0 P w K mg base N name (defScope st) f cdv A outer s H E0).nox (defBody st) ts t)
    (rd : ∀ zs cs q, sp zs cs q → t (endD cs.length q) (startD N zs) cs) : Got P w K mg base name (k + 1) ps sp := by
  obtain ⟨f, fd, F, g, b⟩ := T
  exact ⟨f, fd, g, F.kp, b, fn_D F S len t (der f) rd⟩
end
section
variable {X : Cx} {pos p : Pos} {x : Str} {k : Nat} {ps : List Str} {sp : DSpec} {e : Expr} {es : List Expr} {ta : TA} {da : DA}
theorem qc (G : Got X.prog X.w X.K X.mg X.base x k ps sp) (hr : Room k X.A) (hgd : X.A.guards = some []) (ha : QA X (e :: es) ta da) (hg : Gl X x := by rfl)
    (hdb : (x == ("__debug__" : Str)) = false := by decide) (he : starEach (e :: es) X.env = (false, eval e X.env) :: starEach es X.env := by rfl) (hpl : (backTo pos (starEach es X.env)).any (·.1) = false := by rfl) :
    QE X (.Call (.Name x p) (e :: es) [] pos) (tCallD X.K sp ta) (dCall sp da) := by
  obtain ⟨f, fd, a, b, c, d⟩ := G
  exact q_call d hr hgd a b c ha hg hdb he hpl
end
section
variable {P : Program} {w : World} {K : PySem.W.Frag} {mg : Str → Option Value}
theorem law_callG {mb : Str → Option Value} {k : Nat} {fa a : Addr} {x name : Str} {sp : DSpec} {s1 : Shared} {vs : List Value} {ns : List Int}
    (KX : K.In s1.heap) (hns : s1.heap.Ns mainGlobals mg) (hb : s1.heap.Ns builtinsNs mb) (hbb : ∀ x : Str, x ≠ "__name__" → mb x = bootBuiltins x) (hlim : s1.heap.NoLimit) (hg : s1.gens = #[])
    (TK : TabsOk s1.heap K)
    (ha : s1.heap.get? a = some { cls := .type "list", data := .seq vs.toArray }) (hi : IntsAre vs ns) (hl : ns.length ≤ sizeLine) (hr : Room k callerA) (hmg : mg name = some (.ref fa))
    (F : ∀ base : Heap, K.In base → base.Ns mainGlobals mg → Got P w K mg base name k [x] sp)
    (hsp : sp [.d (.scr ns)] [] fun z _ => z = .d (.bl true)) :
    codeAny (model P w) callerA (.call (.ref fa) ⟨[.ref a], []⟩) (fun r s' => r = .ok (.ret (.bool true)) ∧ OldK s1.heap s'.heap ∧ s'.os = s1.os ∧ AllBare s'.gens) s1 := by
  have rv := vals_ints hi
  obtain ⟨cs, hcs⟩ : ∃ cs : List Addr, cs = (tabsK K).map (·.1) := ⟨_, rfl⟩
  have isT : ∀ b : Addr, b ∈ cs → s1.heap.get? b = some { cls := .none, data := .fields #[] } ∧ K.lookup b = none ∧ isCodeTable s1.heap b := fun b hb => by
    rw [hcs] at hb
    obtain ⟨p, hp, e⟩ := List.mem_map.mp hb
    rw [← e]
    obtain ⟨c, o, vs, q, t, l, e1, e2, _, e4, _⟩ := tabsK_mem TK.nice hp
    exact ⟨TK.emp p hp, TK.out p hp, c, o, vs, KX _ _ l, e1, e2, e4⟩
  have memT : ∀ p ∈ tabsK K, p.1 ∈ cs := fun p hp => by rw [hcs]; exact List.mem_map.mpr ⟨p, hp, rfl⟩
  have aT : a ∉ cs := fun z => by
    have q := (isT a z).1
    rw [ha] at q
    have z' : Data.seq vs.toArray _ = Data.fields #[] := congrArg Obj.data (Option.some.inj q)
    cases z'
  have core : ∀ H : Hp, (∀ b ∈ cs, H b = some (.tbl #[])) → (∀ b, H b = none ∨ b ∈ cs ∨ ∃ o xs, H b = some (.frz o (.lst xs))) → SqL K (fun b => if b = a then H a else none) a (ns.map V.int) → HOk P w H s1.heap → (∀ b, H b ≠ none → b = a ∨ b ∈ cs) → (H a ≠ none → K.lookup a = none) →
      codeAny (model P w) callerA (.call (.ref fa) ⟨[.ref a], []⟩) (fun r s' => r = .ok (.ret (.bool true)) ∧ OldK s1.heap s'.heap ∧ s'.os = s1.os ∧ AllBare s'.gens) s1 := by
    intro H hH hO hS hok hA hK
    have base_of : ∀ {b : Addr} {o : Obj}, s1.heap.get? b = some o → H b = none → (hidT s1.heap H).get? b = some o := fun e n => hidT_get e n
    have noD : ∀ {b : Addr} {o : Obj}, s1.heap.get? b = some o → (∀ vs n, o.data ≠ .seq vs n) → o.data ≠ .fields #[] → H b = none := fun {b o} e h1 h2 => by
      cases q : H b with
      | none => rfl
      | some u =>
        rcases hA b (by rw [q]; simp) with e' | e'
        · rw [e', ha] at e
          cases e
          exact (h1 _ _ rfl).elim
        · rw [(isT b e').1] at e
          cases e
          exact (h2 rfl).elim
    have noA : ∀ {b : Addr} {o : Obj} {es : Array DictEntry} {ep : Nat}, s1.heap.get? b = some o → o.data = .dict es ep → H b = none := fun {b o es ep} e d => by
      refine noD e (fun vs n z => ?_) fun z => ?_
      · rw [d] at z
        cases z
      · rw [d] at z
        cases z
    have keepN : ∀ {b : Addr} {m : Str → Option Value}, s1.heap.Ns b m → (hidT s1.heap H).Ns b m := fun {b m} ⟨o, es, ep, e, d, r⟩ => ⟨o, es, ep, base_of e (noA e d), d, r⟩
    have kb : K.In (hidT s1.heap H) := fun b o e => base_of (KX b o e) (by
      cases q : H b with
      | none => rfl
      | some u =>
        rcases hA b (by rw [q]; simp) with e' | e'
        · rw [e'] at e q
          rw [hK (by rw [q]; simp)] at e
          cases e
        · rw [(isT b e').2.1] at e
          cases e)
    have md : Mod K mg (hidT s1.heap H) := ⟨kb, keepN hns, ⟨mb, keepN hb, hbb⟩, hlim.elim fun mc hm => ⟨mc, keepN hm.1, hm.2⟩⟩
    have e0 : Env0 P w K mg (hidT s1.heap H) callerA [] s1 H := ⟨rfl, md, fun b o e => of_hidT e, Nat.le_of_eq (hidT_size _ _), trivial, fun b hb => absurd hb (by exact fun z => nomatch z), hok, .of_eq hg⟩
    have sub0 : Sub (fun b => if b = a then H a else none) H := fun b o e => by
      by_cases z : b = a
      · subst z
        exact (if_pos rfl).symm.trans e
      · cases (if_neg z).symm.trans e
    have tab0 : ∀ p ∈ tabsK K, (fun b => if b = a then H a else none) p.1 = none ∧ TabR H [] p.1 p.2 := fun p hp => ⟨if_neg fun z => aT (by rw [← z]; exact memT p hp), by simp, #[], hH _ (memT p hp), True.intro, fun pos cv hc => by
      have z : codeAmong pos [] = some cv := hc
      simp [codeAmong] at z⟩
    have sp0 : spD K sp [.ref a] H fun v _ => v = .bl true := ⟨fun b => if b = a then H a else none, [], [.d (.scr ns)], [], _, ⟨sub0, rfl, List.nodup_nil, fun n b c e => by simp at e, fun b hb => by simp at hb, tab0⟩, ⟨_, [], rfl, ⟨a, rfl, hS⟩, rfl⟩, hsp, fun z v S' H' as' cs' e r vz h => by subst h; exact vz⟩
    obtain ⟨f, fd, g, kp, b, FD⟩ := F _ kb (keepN hns)
    cases g.symm.trans hmg
    have hbind : BindsTo s1 fd ⟨[.ref a], []⟩ (([x] : List Str).zip [Value.ref a]) := b s1 [.ref a] KX rfl
    refine codeAny_mono (FD.run callerA [] s1 H ⟨[.ref a], []⟩ [.ref a] [.ref a] _ hr rfl e0 hbind (.cons rfl .nil) sp0) fun r s' h => ?_
    cases r with
    | error e => exact h.elim
    | ok fl =>
      cases fl with
      | next => exact h.elim
      | brk => exact h.elim
      | cont => exact h.elim
      | ret u =>
        obtain ⟨v, H', os, bare, un, hok', r', rfl⟩ := h
        obtain rfl : u = Value.bool true := r'
        have key : ∀ b o, b ∉ cs → s1.heap.get? b = some o → s'.heap.get? b = some o := fun b o nb e => by
          cases q : H b with
          | none => exact un.keep b o e q (by intro z; exact absurd (show b ∈ ([] : List Addr) from z) (by simp)) (by simp)
          | some u =>
            rcases hO b with z | z | ⟨ob, xs, z⟩
            · rw [q] at z; cases z
            · exact absurd z nb
            · have z2 := un.frzs b ob _ z
              obtain ⟨e1, _⟩ := hok b _ z
              obtain ⟨e2, _⟩ := hok' b _ z2
              rw [e] at e1; cases e1
              exact e2
        have grown : ∀ b ∈ cs, ∃ more : Array Value, s'.heap.get? b = some { cls := .none, data := .fields more } := fun b hp => by
          obtain ⟨more, z⟩ := un.tbls b #[] (hH b hp)
          exact ⟨_, hok' b _ z⟩
        refine ⟨rfl, ⟨fun b o e => ?_, fun b o e => ?_⟩, os, bare⟩
        · by_cases hb : b ∈ cs
          · obtain ⟨more, hm⟩ := grown b hb
            rw [(isT b hb).1] at e
            cases e
            exact .inr (.inl ⟨(isT b hb).2.2, rfl, #[], more, rfl, by rw [hm, Array.empty_append]⟩)
          · exact .inl (key b o hb e)
        · by_cases hb : b ∈ cs
          · obtain ⟨more, hm⟩ := grown b hb
            exact ⟨_, hm⟩
          · exact ⟨o, key b o hb e⟩
  cases hk : K.lookup a with
  | some o =>
    have e := KX a o hk
    rw [ha] at e
    cases e
    refine core (fun b => if b ∈ cs then some (.tbl #[]) else none) (fun b hb => if_pos hb) (fun b => ?_) (.inr ⟨_, vs.toArray, _, hk, rfl, rfl, rfl, by rw [List.size_toArray, hi.length]; exact hl, by simpa using rv⟩) (fun b u z => ?_) (fun b z => ?_) fun z => absurd (show (if a ∈ cs then some (HO.tbl #[]) else none) = none from if_neg aT) z
    · by_cases hb : b ∈ cs
      · exact .inr (.inl hb)
      · exact .inl (if_neg hb)
    · by_cases hb : b ∈ cs
      · have z' := (if_pos hb).symm.trans z
        cases z'
        exact (isT b hb).1
      · have z' := (if_neg hb).symm.trans z
        cases z'
    · by_cases hb : b ∈ cs
      · exact .inr hb
      · exact absurd (if_neg hb) z
  | none =>
    refine core (fun b => if b = a then some (.frz { cls := .type "list", data := .seq vs.toArray } (.lst (ns.map V.int))) else if b ∈ cs then some (.tbl #[]) else none) (fun b hb => (if_neg (show ¬ b = a from fun z => aT (by rw [← z]; exact hb))).trans (if_pos hb)) (fun b => ?_)
      (.inl (.inr ⟨{ cls := .type "list", data := .seq vs.toArray }, (if_pos rfl).trans (if_pos rfl)⟩)) (fun b u z => ?_) (fun b z => ?_) fun _ => hk
    · by_cases hb : b = a
      · exact .inr (.inr ⟨_, _, if_pos hb⟩)
      · by_cases hb2 : b ∈ cs
        · exact .inr (.inl hb2)
        · exact .inl ((if_neg hb).trans (if_neg hb2))
    · by_cases hb : b = a
      · have z' := (if_pos hb).symm.trans z
        cases z'
        rw [hb]
        exact ⟨ha, by rw [List.length_map]; exact hl, vs, _, rv, ha⟩
      · have z1 := (if_neg hb).symm.trans z
        by_cases hb2 : b ∈ cs
        · have z' := (if_pos hb2).symm.trans z1
          cases z'
          exact (isT b hb2).1
        · have z' := (if_neg hb2).symm.trans z1
          cases z'
    · by_cases hb : b = a
      · exact .inl hb
      · have z1 : (if b ∈ cs then some (HO.tbl #[]) else none) ≠ none := fun q => z ((if_neg hb).trans q)
        by_cases hb2 : b ∈ cs
        · exact .inr hb2
        · exact absurd (if_neg hb2) z1
end
end DL
set_option maxHeartbeats 2000000
set_option autoImplicit false
namespace DL
open PySem L2
theorem lc_go {fin : (Z → Cs → Prop) → List D → Cs → Prop} {k : Z → Cs → Prop} {ds : List D} {keep : Cs → Prop} {cs1 : Cs} {g : DG} {tt : DT} {te : DE} {own : List Nat} {en : En} (f : D → Option D) (hk : ∀ acc, keep (cs1 ++ [.lst acc])) (hl : ds.length ≤ 15000000)
    (h : ∀ (i : Nat) (d : D) (acc : List D), ds[i]? = some d → ∀ (P : Z → Cs → Prop) (N : Cs → Prop), (∀ y, f d = some y → P (.d y) (cs1 ++ [.lst acc])) → (f d = none → N (cs1 ++ [.lst acc])) →
      g (.d d) (wipeD en own) (cs1 ++ [.lst acc]) fun en2 cs2 => tt en2 cs2 fun b cs3 => if b = true then te en2 cs3 P else N cs3)
    (hq : fin k (ds.filterMap f) cs1) :
    ∃ I : Nat → List D → Cs → Prop, I 0 [] cs1 ∧ (∀ i acc c, I i acc c → c.length = cs1.length ∧ keep (c ++ [.lst acc])) ∧
      (∀ i d acc c, ds[i]? = some d → I i acc c → g (.d d) (wipeD en own) (c ++ [.lst acc]) fun en2 cs2 => tt en2 cs2 fun b cs3 =>
        if b = true then te en2 cs3 fun z cs4 => ∃ y c', z = .d y ∧ cs4.take (c.length + 1) = c' ++ [.lst acc] ∧ c'.length = c.length ∧ acc.length < LIM ∧ I (i + 1) (acc ++ [y]) c'
        else ∃ c', cs3.take (c.length + 1) = c' ++ [.lst acc] ∧ c'.length = c.length ∧ I (i + 1) acc c') ∧
      ∀ acc c, I ds.length acc c → fin k acc c := by
  refine ⟨fun i acc c => c = cs1 ∧ acc = (ds.take i).filterMap f, ⟨rfl, rfl⟩, ?_, ?_, ?_⟩
  · rintro i acc c ⟨rfl, _⟩
    exact ⟨rfl, hk acc⟩
  · rintro i d acc c hd ⟨rfl, rfl⟩
    have hi := (List.getElem?_eq_some_iff.mp hd).1
    have tk : (c ++ [D.lst ((ds.take i).filterMap f)]).take (c.length + 1) = c ++ [D.lst ((ds.take i).filterMap f)] := List.take_of_length_le (by simp)
    have sz : ((ds.take i).filterMap f).length < LIM := lim_lt (by
      have h1 := List.length_filterMap_le f (ds.take i)
      rw [List.length_take] at h1
      omega)
    have step : (ds.take (i + 1)).filterMap f = (ds.take i).filterMap f ++ (match f d with
      | some y => [y]
      | none => []) := by
      rw [List.take_add_one, hd, List.filterMap_append]
      congr 1
      show List.filterMap f [d] = _
      rw [List.filterMap_cons, List.filterMap_nil]
      cases f d <;> rfl
    refine h i d _ hd _ _ (fun y hy => ⟨y, c, rfl, tk, rfl, sz, rfl, ?_⟩) (fun hy => ⟨c, tk, rfl, rfl, ?_⟩)
    · rw [step, hy]
    · rw [step, hy, List.append_nil]
  · rintro acc c ⟨rfl, rfl⟩
    rw [List.take_length]
    exact hq
theorem filterMap_some {α β : Type} (f : α → β) (l : List α) : l.filterMap (fun x => some (f x)) = l.map f := by
  induction l with
  | nil => rfl
  | cons a l ih => rw [List.filterMap_cons, List.map_cons, ih]
theorem lc_map {fin : (Z → Cs → Prop) → List D → Cs → Prop} {k : Z → Cs → Prop} {ds : List D} {keep : Cs → Prop} {cs1 : Cs} {g : DG} {te : DE} {own : List Nat} {en : En} (f : D → D) (hk : ∀ acc, keep (cs1 ++ [.lst acc])) (hl : ds.length ≤ 15000000)
    (h : ∀ (i : Nat) (d : D) (acc : List D), ds[i]? = some d → ∀ (P : Z → Cs → Prop), P (.d (f d)) (cs1 ++ [.lst acc]) → g (.d d) (wipeD en own) (cs1 ++ [.lst acc]) fun en2 cs2 => te en2 cs2 P)
    (hq : fin k (ds.map f) cs1) :
    ∃ I : Nat → List D → Cs → Prop, I 0 [] cs1 ∧ (∀ i acc c, I i acc c → c.length = cs1.length ∧ keep (c ++ [.lst acc])) ∧
      (∀ i d acc c, ds[i]? = some d → I i acc c → g (.d d) (wipeD en own) (c ++ [.lst acc]) fun en2 cs2 => dYes en2 cs2 fun b cs3 =>
        if b = true then te en2 cs3 fun z cs4 => ∃ y c', z = .d y ∧ cs4.take (c.length + 1) = c' ++ [.lst acc] ∧ c'.length = c.length ∧ acc.length < LIM ∧ I (i + 1) (acc ++ [y]) c'
        else ∃ c', cs3.take (c.length + 1) = c' ++ [.lst acc] ∧ c'.length = c.length ∧ I (i + 1) acc c') ∧
      ∀ acc c, I ds.length acc c → fin k acc c := by
  refine lc_go (fun x => some (f x)) hk hl (fun i d acc hd P N hp _ => ?_) (by rw [filterMap_some]; exact hq)
  show g (.d d) (wipeD en own) (cs1 ++ [.lst acc]) fun en2 cs2 => te en2 cs2 P
  exact h i d acc hd P (hp _ rfl)
theorem finZ_d (n : Nat) (q : Z → Cs → Prop) (x : D) (cs : Cs) : FinZ n q (.d x) cs = q (.d x) (cs.take n) := nd rfl
end DL
set_option maxHeartbeats 2000000
set_option autoImplicit false
namespace DL
open PySem PySem.Spec PyProof.Rows HT L2
section
variable {prog : Program} {w : World} {A : Around} {E : Value → Shared → Prop} {s : Shared}
end
section
variable {X : Cx} {pos : Pos}
def revD : D → (D → Prop) → Prop
  | .lst ds, k => k (.lst ds.reverse)
  | .tup ds, k => k (.tup ds.reverse)
  | _, _ => False
def dRev (a : DE) : DE := fun en cs k => a en cs fun x cs1 => withD cs1 x fun dx => revD dx fun z => k (.d z) cs1
end
end DL
set_option maxHeartbeats 2000000
set_option autoImplicit false
namespace DL
open PySem PySem.Spec PyProof.Rows L2
theorem dFor_mk {it : DI} {g : DG} {b : DS} {D0 : DEnds} {en : En} {cs : Cs} (ds : List D) (keep : Cs → Prop) (cs1 : Cs) (hit : ∀ K, K ds keep cs1 → it en cs K) (I : Nat → En → Cs → Prop) (h0 : I 0 en cs1)
    (hs : ∀ i d en cs, ds[i]? = some d → I i en cs → g (.d d) en cs fun en2 cs2 => b { D0 with nx := Wkn cs1.length (I (i + 1)), ct := Wkn cs1.length (I (i + 1)), bk := D0.nx } en2 cs2) (he : ∀ en cs, I ds.length en cs → D0.nx en cs)
    (hk : ∀ i en cs, I i en cs → keep cs) : dFor it g b D0 en cs := hit _ ⟨I, h0, hk, hs, he⟩
theorem dLc_mk {fin : (Z → Cs → Prop) → List D → Cs → Prop} {it : DI} {g : DG} {te : DE} {own : List Nat} {en : En} {cs : Cs} {k : Z → Cs → Prop} (ds : List D) (keep : Cs → Prop) (cs1 : Cs) (hit : ∀ K, K ds keep cs1 → it en cs K) (f : D → D) (hl : ds.length ≤ 15000000)
    (h : ∀ (i : Nat) (d : D) (acc : List D), ds[i]? = some d → ∀ (P : Z → Cs → Prop), P (.d (f d)) (cs1 ++ [.lst acc]) → g (.d d) (wipeD en own) (cs1 ++ [.lst acc]) fun en2 cs2 => te en2 cs2 P)
    (hq : fin k (ds.map f) cs1) (hk : ∀ acc, keep (cs1 ++ [.lst acc])) : dLcG fin it g dYes te own en cs k := hit _ (lc_map f hk hl h hq)
structure RpN (w dep : Nat) (d : D) : Prop where
  ok : pyOk d = true
  sh : (py d).showable = true
  nd : (py d).hasDict = false
  dp : (py d).depth ≤ dep
  ln : (py d).shown.length ≤ w
theorem RpN.le {w w' e e' : Nat} {d : D} (h : RpN w e d) (h1 : w ≤ w') (h2 : e ≤ e') : RpN w' e' d := ⟨h.ok, h.sh, h.nd, Nat.le_trans h.dp h2, Nat.le_trans h.ln h1⟩
theorem RpN.rp {w e : Nat} {d : D} (h : RpN w e d) (h1 : w ≤ 16777216) (h2 : e ≤ 60) : RpOk d := ⟨h.ok, h.sh, h.nd, Nat.le_trans h.dp h2, Nat.le_trans h.ln (by rw [sizeLine_eq]; omega)⟩
theorem RpN.non : RpN 4 0 .non := ⟨rfl, rfl, rfl, Nat.le_refl _, by decide⟩
theorem RpN.bl (b : Bool) : RpN 5 0 (.bl b) := ⟨rfl, rfl, rfl, Nat.le_refl _, by cases b <;> decide⟩
theorem lt_pow_log2 {n k : Nat} (h0 : 0 < k) (h : n < 2 ^ k) : n.log2 < k := by
  by_cases e : n = 0
  · subst e
    simpa using h0
  · exact (Nat.log2_lt e).mpr h
theorem RpN.int {i : Int} (h1 : -(10 ^ 200) < i) (h2 : i < 10 ^ 200) : RpN 201 0 (.int i) := by
  have ha : i.natAbs < 10 ^ 200 := by omega
  refine ⟨rfl, ?_, rfl, Nat.le_refl _, ?_⟩
  · show decide (i.natAbs.log2 < 1920) = true
    exact decide_eq_true (lt_pow_log2 (by decide) (Nat.lt_of_lt_of_le ha (by decide +kernel)))
  · have e := int_text_length_le10 (k := 200) (by decide) ha
    show (Str.ofString (toString i)).length ≤ 201
    rw [PySem.ofString_length]
    exact e
theorem pyL_len : ∀ ds : List D, (pyL ds).length = ds.length
  | [] => rfl
  | d :: ds => by
    show (py d :: pyL ds).length = _
    rw [List.length_cons, List.length_cons, pyL_len ds]
theorem rp_all {w e : Nat} : ∀ {ds : List D}, (∀ d ∈ ds, RpN w e d) → pyOkL ds = true ∧ PyData.showableAll (pyL ds) = true ∧ PyData.hasDictAll (pyL ds) = false ∧ PyData.depthAll (pyL ds) ≤ e ∧ ((PyData.shownAll (pyL ds)).map (·.length)).sum ≤ w * ds.length
  | [], _ => ⟨rfl, rfl, rfl, Nat.zero_le _, by simp [pyL, PyData.shownAll]⟩
  | d :: ds, h => by
    obtain ⟨a, b, c, f, g⟩ := rp_all fun x hx => h x (List.mem_cons_of_mem _ hx)
    have r := h d List.mem_cons_self
    have hd := r.dp
    have hl := r.ln
    refine ⟨?_, ?_, ?_, ?_, ?_⟩
    · show (pyOk d && pyOkL ds) = true
      rw [r.ok, a]; rfl
    · simp only [pyL, PyData.showableAll, r.sh, b, Bool.and_self]
    · simp only [pyL, PyData.hasDictAll, r.nd, c, Bool.or_self]
    · simp only [pyL, PyData.depthAll]
      omega
    · simp only [pyL, PyData.shownAll, List.map_cons, List.sum_cons, List.length_cons]
      rw [Nat.mul_succ]
      omega
theorem shownAll_len (ds : List D) : (PyData.shownAll (pyL ds)).length = ds.length := by rw [PyData.shownAll_length, pyL_len]
theorem RpN.lst {w e : Nat} {ds : List D} (n : Nat) (hn : ds.length ≤ n) (h : ∀ d ∈ ds, RpN w e d) : RpN ((w + 2) * n + 3) (e + 1) (.lst ds) := by
  obtain ⟨a, b, c, f, g⟩ := rp_all h
  refine ⟨a, by simpa only [py, PyData.showable] using b, by simpa only [py, PyData.hasDict] using c, by simp only [py, PyData.depth]; omega, ?_⟩
  have l := listText_len_le (PyData.shownAll (pyL ds))
  rw [shownAll_len] at l
  simp only [py, PyData.shown]
  have m : (w + 2) * ds.length ≤ (w + 2) * n := Nat.mul_le_mul_left _ hn
  rw [Nat.add_mul] at m
  omega
theorem RpN.tup {w e : Nat} {ds : List D} (n : Nat) (hn : ds.length ≤ n) (h : ∀ d ∈ ds, RpN w e d) : RpN ((w + 2) * n + 3) (e + 1) (.tup ds) := by
  obtain ⟨a, b, c, f, g⟩ := rp_all h
  refine ⟨a, by simpa only [py, PyData.showable] using b, by simpa only [py, PyData.hasDict] using c, by simp only [py, PyData.depth]; omega, ?_⟩
  have l := tupleText_len_le (PyData.shownAll (pyL ds))
  rw [shownAll_len] at l
  simp only [py, PyData.shown]
  have m : (w + 2) * ds.length ≤ (w + 2) * n := Nat.mul_le_mul_left _ hn
  rw [Nat.add_mul] at m
  omega
structure EqN (dep : Nat) (d : D) : Prop where
  ok : pyOk d = true
  cl : (py d).canLay0 = true
  dp : (py d).depth ≤ dep
theorem EqN.le {e e' : Nat} {d : D} (h : EqN e d) (h2 : e ≤ e') : EqN e' d := ⟨h.ok, h.cl, Nat.le_trans h.dp h2⟩
theorem EqN.eq {e : Nat} {d : D} (h : EqN e d) (h2 : e ≤ 64) : EqOk d := ⟨h.ok, by
  unfold SeqAt.shaped
  rw [h.cl, decide_eq_true (Nat.le_trans h.dp h2)]
  rfl⟩
theorem EqN.non : EqN 0 .non := ⟨rfl, rfl, Nat.le_refl _⟩
theorem EqN.bl (b : Bool) : EqN 0 (.bl b) := ⟨rfl, rfl, Nat.le_refl _⟩
theorem EqN.int (i : Int) : EqN 0 (.int i) := ⟨rfl, rfl, Nat.le_refl _⟩
theorem eq_all {e : Nat} : ∀ {ds : List D}, (∀ d ∈ ds, EqN e d) → pyOkL ds = true ∧ PyData.canLayAll0 (pyL ds) = true ∧ PyData.depthAll (pyL ds) ≤ e
  | [], _ => ⟨rfl, rfl, Nat.zero_le _⟩
  | d :: ds, h => by
    obtain ⟨a, b, c⟩ := eq_all fun x hx => h x (List.mem_cons_of_mem _ hx)
    have r := h d List.mem_cons_self
    have hd := r.dp
    refine ⟨?_, ?_, ?_⟩
    · show (pyOk d && pyOkL ds) = true
      rw [r.ok, a]; rfl
    · simp only [pyL, PyData.canLayAll0, r.cl, b, Bool.and_self]
    · simp only [pyL, PyData.depthAll]
      omega
theorem EqN.lst {e : Nat} {ds : List D} (h : ∀ d ∈ ds, EqN e d) : EqN (e + 1) (.lst ds) := by
  obtain ⟨a, b, c⟩ := eq_all h
  exact ⟨a, by simpa only [py, PyData.canLay0] using b, by simp only [py, PyData.depth]; omega⟩
theorem EqN.tup {e : Nat} {ds : List D} (h : ∀ d ∈ ds, EqN e d) : EqN (e + 1) (.tup ds) := by
  obtain ⟨a, b, c⟩ := eq_all h
  exact ⟨a, by simpa only [py, PyData.canLay0] using b, by simp only [py, PyData.depth]; omega⟩
theorem set_snoc (cs : Cs) (x y : D) : (cs ++ [x]).set cs.length y = cs ++ [y] := by
  rw [List.set_append_right _ _ (Nat.le_refl _), Nat.sub_self]
  rfl
theorem take_snoc (cs : Cs) (x : D) : (cs ++ [x]).take cs.length = cs := List.take_left
theorem ixN_nat {n i : Nat} (h : i < n) : ixN n (i : Int) = some i := by
  unfold ixN
  rw [if_pos (by omega), if_pos (by omega), Int.toNat_natCast]
theorem at_nat {α : Type} {xs : List α} {i : Nat} {x : α} (h : xs[i]? = some x) : atI xs (i : Int) = some x := by
  unfold atI
  rw [ixN_nat (List.getElem?_eq_some_iff.mp h).1]
  exact h
theorem at_int {α : Type} {xs : List α} {j : Int} {x : α} (h0 : 0 ≤ j) (h : xs[j.toNat]? = some x) : atI xs j = some x := by
  have := at_nat h
  rwa [Int.toNat_of_nonneg h0] at this
theorem at0 {α : Type} {a : α} {l : List α} : atI (a :: l) 0 = some a := at_nat (i := 0) rfl
theorem at1 {α : Type} {a b : α} {l : List α} : atI (a :: b :: l) 1 = some b := at_nat (i := 1) rfl
theorem at2 {α : Type} {a b c : α} {l : List α} : atI (a :: b :: c :: l) 2 = some c := at_nat (i := 2) rfl
theorem at3 {α : Type} {a b c d : α} {l : List α} : atI (a :: b :: c :: d :: l) 3 = some d := at_nat (i := 3) rfl
theorem at4 {α : Type} {a b c d e : α} {l : List α} : atI (a :: b :: c :: d :: e :: l) 4 = some e := at_nat (i := 4) rfl
theorem at5 {α : Type} {a b c d e f : α} {l : List α} : atI (a :: b :: c :: d :: e :: f :: l) 5 = some f := at_nat (i := 5) rfl
theorem at_last {α : Type} {a : α} {l : List α} : atI (l ++ [a]) (-1) = some a := by
  unfold atI ixN
  rw [if_neg (by decide), if_pos (by simp only [List.length_append, List.length_cons, List.length_nil]; omega)]
  have e : (-1 + ((l ++ [a]).length : Nat) : Int).toNat = l.length := by
    simp only [List.length_append, List.length_cons, List.length_nil]
    omega
  rw [e]
  show (l ++ [a])[l.length]? = some a
  rw [List.getElem?_append_right (Nat.le_refl _), Nat.sub_self]
  rfl
theorem ix0 {n : Nat} : ixN (n + 1) 0 = some 0 := ixN_nat (i := 0) (by omega)
theorem ix1 {n : Nat} : ixN (n + 1 + 1) 1 = some 1 := ixN_nat (i := 1) (by omega)
theorem ix2 {n : Nat} : ixN (n + 1 + 1 + 1) 2 = some 2 := ixN_nat (i := 2) (by omega)
theorem finZ_new {n m : Nat} {q : Z → Cs → Prop} {cs : Cs} {x : D} (h : n ≤ m) (e : cs[m]? = some x) (p : q (.c n) (cs.take n ++ [x])) : FinZ n q (.c m) cs := .inr ⟨h, by rw [e]; exact .inr p⟩
theorem finZ_froz {n m : Nat} {q : Z → Cs → Prop} {cs : Cs} {x : D} (h : n ≤ m) (e : cs[m]? = some x) (p : q (.d x) (cs.take n)) : FinZ n q (.c m) cs := .inr ⟨h, by rw [e]; exact .inl p⟩
theorem get_snoc (cs : Cs) (x : D) : (cs ++ [x])[cs.length]? = some x := by
  rw [List.getElem?_append_right (Nat.le_refl _), Nat.sub_self]
  rfl
end DL
set_option maxHeartbeats 2000000
set_option autoImplicit false
namespace DL
open PySem PySem.Spec PyProof.Rows L2
section
variable {cs : Cs} {k : D → Prop} {kl : List D → Prop}
theorem e_wd (x : D) : withD cs (.d x) k = k x := nd rfl
theorem e_wc0 (x : D) (cs : Cs) : withD (x :: cs) (.c 0) k = k x := nd rfl
theorem e_wcs (x : D) (cs : Cs) (n : Nat) : withD (x :: cs) (.c (n + 1)) k = withD cs (.c n) k := nd rfl
theorem e_wsn (x : D) (cs : Cs) : withD (cs ++ [x]) (.c cs.length) k = k x := by
  unfold withD
  simp only [get_snoc]
theorem e_wc1 (x y : D) (cs : Cs) : withD (x :: y :: cs) (.c 1) k = k y := nd rfl
theorem e_wc2 (x y z : D) (cs : Cs) : withD (x :: y :: z :: cs) (.c 2) k = k z := nd rfl
theorem e_wl0 : withL cs [] kl = kl [] := nd rfl
theorem e_wl1 (z : Z) (zs : List Z) : withL cs (z :: zs) kl = withD cs z fun x => withL cs zs fun xs => kl (x :: xs) := nd rfl
theorem e_dl0 : datL [] kl = kl [] := nd rfl
theorem e_dl1 (x : D) (zs : List Z) : datL (.d x :: zs) kl = datL zs fun xs => kl (x :: xs) := nd rfl
theorem e_sl (ds : List D) (K : List D → (Cs → Prop) → Prop) : seqD cs (.d (.lst ds)) K = K ds yes := nd rfl
theorem e_st (ds : List D) (K : List D → (Cs → Prop) → Prop) : seqD cs (.d (.tup ds)) K = K ds yes := nd rfl
theorem e_ss (ns : List Int) (K : List D → (Cs → Prop) → Prop) : seqD cs (.d (.scr ns)) K = K (ns.map D.int) yes := nd rfl
theorem e_addi (i j : Int) : addD (.int i) (.int j) k = k (.int (i + j)) := nd rfl
theorem e_adds (a b : Str) : addD (.str a) (.str b) k = (a.length + b.length ≤ sizeLine ∧ k (.str (a ++ b))) := nd rfl
theorem e_addt (a b : List D) : addD (.tup a) (.tup b) k = (a.length + b.length ≤ LIM ∧ k (.tup (a ++ b))) := nd rfl
theorem e_addl (a b : List D) : addD (.lst a) (.lst b) k = (a.length + b.length ≤ LIM ∧ k (.lst (a ++ b))) := nd rfl
theorem e_sub (i j : Int) : subD (.int i) (.int j) k = k (.int (i - j)) := nd rfl
theorem e_muli (i j : Int) : mulD (.int i) (.int j) k = ((Sm i ∧ Sm j) ∧ k (.int (i * j))) := nd rfl
theorem e_mult (a : List D) (n : Int) : mulD (.tup a) (.int n) k = ((a ≠ [] ∧ 2 ≤ n ∧ n ≤ 1000 ∧ a.length ≤ 1000) ∧ k (.tup (List.replicate n.toNat a).flatten)) := nd rfl
theorem e_mull (a : List D) (n : Int) : mulD (.lst a) (.int n) k = ((0 ≤ n ∧ n ≤ 100000 ∧ a.length ≤ 1000 ∧ a.length * n.toNat ≤ LIM) ∧ k (.lst (List.replicate n.toNat a).flatten)) := nd rfl
theorem e_fdiv (i j : Int) : fdivD (.int i) (.int j) k = (Dv j ∧ k (.int (i / j))) := nd rfl
theorem e_mod (i j : Int) : modD (.int i) (.int j) k = (0 < j ∧ k (.int (i % j))) := nd rfl
theorem e_pow (i j : Int) : powD (.int i) (.int j) k = ((0 ≤ j ∧ j ≤ 1000 ∧ Sm i) ∧ k (.int (i ^ j.toNat))) := nd rfl
theorem e_neg (i : Int) : negD (.int i) k = k (.int (-i)) := nd rfl
theorem e_lt (i j : Int) : ltD (.int i) (.int j) k = k (.bl (decide (i < j))) := nd rfl
theorem e_le (i j : Int) : leD (.int i) (.int j) k = k (.bl (decide (i ≤ j))) := nd rfl
theorem e_gt (i j : Int) : gtD (.int i) (.int j) k = k (.bl (decide (j < i))) := nd rfl
theorem e_ge (i j : Int) : geD (.int i) (.int j) k = k (.bl (decide (j ≤ i))) := nd rfl
theorem e_eqi (i j : Int) : eqUD (.int i) (.int j) k = k (.bl (decide (i = j))) := nd rfl
theorem e_eqs (i j : Str) : eqUD (.str i) (.str j) k = k (.bl (decide (i = j))) := nd rfl
theorem e_eql (a : List D) (y : D) : eqUD (.lst a) y k = ((EqOk (.lst a) ∧ EqOk y) ∧ k (.bl (eqvD (.lst a) y))) := nd rfl
theorem e_eqt (a : List D) (y : D) : eqUD (.tup a) y k = ((EqOk (.tup a) ∧ EqOk y) ∧ k (.bl (eqvD (.tup a) y))) := nd rfl
theorem e_eqb (a : Bool) (y : D) : eqUD (.bl a) y k = ((EqOk (.bl a) ∧ EqOk y) ∧ k (.bl (eqvD (.bl a) y))) := nd rfl
theorem e_eqn (y : D) : eqUD .non y k = ((EqOk .non ∧ EqOk y) ∧ k (.bl (eqvD .non y))) := nd rfl
theorem e_nei (i j : Int) : neUD (.int i) (.int j) k = k (.bl (!decide (i = j))) := nd rfl
theorem e_nes (i j : Str) : neUD (.str i) (.str j) k = k (.bl (!decide (i = j))) := nd rfl
theorem e_nel (a : List D) (y : D) : neUD (.lst a) y k = ((EqOk (.lst a) ∧ EqOk y) ∧ k (.bl (!eqvD (.lst a) y))) := nd rfl
theorem e_net (a : List D) (y : D) : neUD (.tup a) y k = ((EqOk (.tup a) ∧ EqOk y) ∧ k (.bl (!eqvD (.tup a) y))) := nd rfl
theorem e_neb (a : Bool) (y : D) : neUD (.bl a) y k = ((EqOk (.bl a) ∧ EqOk y) ∧ k (.bl (!eqvD (.bl a) y))) := nd rfl
theorem e_nen (y : D) : neUD .non y k = ((EqOk .non ∧ EqOk y) ∧ k (.bl (!eqvD .non y))) := nd rfl
theorem e_isb (a b : Bool) : isD (.bl a) (.bl b) k = k (.bl (decide (a = b))) := nd rfl
theorem e_isn (x : D) : isD x .non k = k (.bl (isNonD x)) := by cases x <;> rfl
theorem e_inb (a b : Bool) : isNotD (.bl a) (.bl b) k = k (.bl (!decide (a = b))) := nd rfl
theorem e_inn (x : D) : isNotD x .non k = k (.bl (!isNonD x)) := by cases x <;> rfl
theorem e_in1 : isNonD .non = true := nd rfl
theorem e_in2 (i : Int) : isNonD (.int i) = false := nd rfl
theorem e_in3 (i : List D) : isNonD (.tup i) = false := nd rfl
theorem e_in4 (i : List D) : isNonD (.lst i) = false := nd rfl
theorem e_in5 (i : Bool) : isNonD (.bl i) = false := nd rfl
theorem e_ixt (ds : List D) (i : Int) : ixD (.tup ds) (.int i) k = atD ds i k := nd rfl
theorem e_ixl (ds : List D) (i : Int) : ixD (.lst ds) (.int i) k = atD ds i k := nd rfl
theorem e_ixs (ns : List Int) (i : Int) : ixD (.scr ns) (.int i) k = ∃ n, atI ns i = some n ∧ k (.int n) := nd rfl
theorem e_at {ds : List D} {i : Int} {d : D} (h : atI ds i = some d) : atD ds i k = k d := by
  unfold atD
  rw [h]
theorem e_at0 (a : D) (l : List D) : atD (a :: l) 0 k = k a := e_at at0
theorem e_at1 (a b : D) (l : List D) : atD (a :: b :: l) 1 k = k b := e_at at1
theorem e_at2 (a b c : D) (l : List D) : atD (a :: b :: c :: l) 2 k = k c := e_at at2
theorem e_at3 (a b c d : D) (l : List D) : atD (a :: b :: c :: d :: l) 3 k = k d := e_at at3
theorem e_at4 (a b c d e : D) (l : List D) : atD (a :: b :: c :: d :: e :: l) 4 k = k e := e_at at4
theorem e_at5 (a b c d e f : D) (l : List D) : atD (a :: b :: c :: d :: e :: f :: l) 5 k = k f := e_at at5
theorem e_atl (a : D) (l : List D) : atD (l ++ [a]) (-1) k = k a := e_at at_last
theorem e_keyi (i : Int) (kk : Key → Prop) : keyD (.int i) kk = kk (.inl i) := nd rfl
theorem e_keys (i : Str) (kk : Key → Prop) : keyD (.str i) kk = kk (.inr i) := nd rfl
theorem e_lenl (ds : List D) : lenD [.lst ds] k = k (.int ds.length) := nd rfl
theorem e_lent (ds : List D) : lenD [.tup ds] k = k (.int ds.length) := nd rfl
theorem e_lens (ns : List Int) : lenD [.scr ns] k = k (.int ns.length) := nd rfl
theorem e_lend (kvs : List (Key × D)) : lenD [.dic kvs] k = k (.int kvs.length) := nd rfl
theorem e_maxi (i j : Int) : maxD [.int i, .int j] k = k (.int (max i j)) := nd rfl
theorem e_mini (i j : Int) : minD [.int i, .int j] k = k (.int (min i j)) := nd rfl
theorem e_maxl (ds : List D) : maxD [.lst ds] k = ∃ ns : List Int, ds = ns.map D.int ∧ 0 < ns.length ∧ ∀ m, m ∈ ns → (∀ y, y ∈ ns → y ≤ m) → k (.int m) := nd rfl
theorem e_minl (ds : List D) : minD [.lst ds] k = ∃ ns : List Int, ds = ns.map D.int ∧ 0 < ns.length ∧ ∀ m, m ∈ ns → (∀ y, y ∈ ns → m ≤ y) → k (.int m) := nd rfl
theorem e_sum (ds : List D) : sumD [.lst ds] k = ∃ ns : List Int, ds = ns.map D.int ∧ k (.int ns.sum) := nd rfl
theorem e_all (ds : List D) : allD [.lst ds] k = ∃ bs : List Bool, ds = bs.map D.bl ∧ k (.bl (bs.all id)) := nd rfl
theorem e_any (ds : List D) : anyD [.lst ds] k = ∃ bs : List Bool, ds = bs.map D.bl ∧ k (.bl (bs.any id)) := nd rfl
theorem e_inti (i : Int) : intD [.int i] k = k (.int i) := nd rfl
theorem e_intb (b : Bool) : intD [.bl b] k = k (.int (if b then 1 else 0)) := nd rfl
theorem e_abs (i : Int) : absD [.int i] k = k (.int (if i < 0 then -i else i)) := nd rfl
theorem e_tol (ds : List D) : tupOfD [.lst ds] k = k (.tup ds) := nd rfl
theorem e_tot (ds : List D) : tupOfD [.tup ds] k = k (.tup ds) := nd rfl
theorem e_tos (ns : List Int) : tupOfD [.scr ns] k = k (.tup (ns.map D.int)) := nd rfl
theorem e_lol (ds : List D) : lstOfD [.lst ds] k = k (.lst ds) := nd rfl
theorem e_lot (ds : List D) : lstOfD [.tup ds] k = k (.lst ds) := nd rfl
theorem e_los (ns : List Int) : lstOfD [.scr ns] k = k (.lst (ns.map D.int)) := nd rfl
theorem e_sll (ds : List D) (lo hi : Option Int) : sliceD (.lst ds) lo hi k = k (.lst (cutG ds lo hi)) := nd rfl
theorem e_slt (ds : List D) (lo hi : Option Int) : sliceD (.tup ds) lo hi k = k (.tup (cutG ds lo hi)) := nd rfl
theorem e_rvl (ds : List D) : revD (.lst ds) k = k (.lst ds.reverse) := nd rfl
theorem e_rvt (ds : List D) : revD (.tup ds) k = k (.tup ds.reverse) := nd rfl
theorem e_repr (x : D) : reprD [x] k = (RpOk x ∧ k (.str (py x).shown)) := nd rfl
theorem e_isi (n : String) (x : D) : isiN n [x, .ty n] k = ∃ b, kitB (tyD x) n = some b ∧ k (.bl b) := by
  show (n = n ∧ _) = _
  rw [eq_self_iff_true, true_and]
end
def dLock (b : DS) : DS := b
section
variable {X : Cx} {pos : Pos}
theorem q_lcH {elt tg iter : Expr} {ifs : List Expr} {scope : Scope} {own : List (Str × Nat)} {fin : (Z → Cs → Prop) → List D → Cs → Prop} {wi : TI} {g : TG} {tt : TT} {te : TE} {it : DI} {dg : DG} {dt : DT} {de : DE} {is : List Nat} (hf : FinOk X.K fin) (hN : X.N.Nodup) (hi : QI X tg iter wi it) (ok : BlkOk X.N X.env.scope scope own) (s0 : Shared)
    (g0 : QG (X.blk s0 (fun _ => none) scope (compEnvC scope [] 0 X.env) []) tg g dg is) (t0 : QTs (X.blk s0 (fun _ => none) scope (compEnvC scope [] 0 X.env) []) ifs tt dt) (e0 : QE (X.blk s0 (fun _ => none) scope (compEnvC scope [] 0 X.env) []) elt te de)
    (hg : ∀ (s : Shared) (H : Hp) (C : Addr) (cl : List (Str × Addr)) (fp : List Addr), QG (X.blk s H scope (compEnvC scope cl C X.env) fp) tg g dg is) (ht : ∀ (s : Shared) (H : Hp) (C : Addr) (cl : List (Str × Addr)) (fp : List Addr), QTs (X.blk s H scope (compEnvC scope cl C X.env) fp) ifs tt dt)
    (he : ∀ (s : Shared) (H : Hp) (C : Addr) (cl : List (Str × Addr)) (fp : List Addr), QE (X.blk s H scope (compEnvC scope cl C X.env) fp) elt te de) (hw : ∀ i ∈ is, i ∈ own.map (·.2)) (hc : X.calm = true := by rfl) (hs : ∀ x, foldedSetIterable iter X.env x = pure x := by intro _; rfl) :
    QE X (.ListComp elt [⟨tg, iter, ifs, 0⟩] scope pos) (tLc wi g tt te (own.map (·.2))) (dLcG fin it dg dt de (own.map (·.2))) := q_lcG hf hN hi ok hg ht he s0 hw hc hs
theorem qs_setLcH (i : Nat) {y : Str} {py : Pos} {elt tg iter : Expr} {ifs : List Expr} {scope : Scope} {own : List (Str × Nat)} {spos : Pos} {fin : (Z → Cs → Prop) → List D → Cs → Prop} {wi : TI} {g : TG} {tt : TT} {te : TE} {it : DI} {dg : DG} {dt : DT} {de : DE} {is : List Nat} (hf : FinOk X.K fin) (hN : X.N.Nodup) (hsw : swapsWith (.ListComp elt [⟨tg, iter, ifs, 0⟩] scope pos) (some (.Name y py)) spos.line X.env = pure true)
    (hi : QI X tg iter wi it) (ok : BlkOk X.N X.env.scope scope own) (s0 : Shared)
    (g0 : QG (X.blk s0 (fun _ => none) scope (compEnvC scope [] 0 X.env) []) tg g dg is) (t0 : QTs (X.blk s0 (fun _ => none) scope (compEnvC scope [] 0 X.env) []) ifs tt dt) (e0 : QE (X.blk s0 (fun _ => none) scope (compEnvC scope [] 0 X.env) []) elt te de)
    (hg : ∀ (s : Shared) (H : Hp) (C : Addr) (cl : List (Str × Addr)) (fp : List Addr), QG (X.blk s H scope (compEnvC scope cl C X.env) fp) tg g dg is) (ht : ∀ (s : Shared) (H : Hp) (C : Addr) (cl : List (Str × Addr)) (fp : List Addr), QTs (X.blk s H scope (compEnvC scope cl C X.env) fp) ifs tt dt)
    (he : ∀ (s : Shared) (H : Hp) (C : Addr) (cl : List (Str × Addr)) (fp : List Addr), QE (X.blk s H scope (compEnvC scope cl C X.env) fp) elt te de) (hw : ∀ i ∈ is, i ∈ own.map (·.2)) (hy : X.N[i]? = some y := by rfl) (hyl : X.env.scope.names.lookup y = some .local := by rfl) (hc : X.calm = true := by rfl) (hs : ∀ x, foldedSetIterable iter X.env x = pure x := by intro _; rfl) :
    QS X (.Assign [.Name y py] (.ListComp elt [⟨tg, iter, ifs, 0⟩] scope pos) spos) (tAsg (tLc wi g tt te (own.map (·.2))) (gName i)) (dAsg (dLcG fin it dg dt de (own.map (·.2))) (dgName i)) := qs_setLc i hf hN hsw hi ok hg ht he s0 hw hy hyl hc hs
end
def r2D (z w : Z) (K : Int → Int → Prop) : Prop := ∃ i j, z = .d (.int i) ∧ w = .d (.int j) ∧ K i j
theorem e_r2 (a b : Int) (K : Int → Int → Prop) : r2D (.d (.int a)) (.d (.int b)) K = K a b := by
  refine propext ⟨fun ⟨i, j, h1, h2, h⟩ => ?_, fun h => ⟨a, b, rfl, rfl, h⟩⟩
  cases h1
  cases h2
  exact h
theorem e_diR2 {a b : DE} {en : En} {cs : Cs} {k : List D → (Cs → Prop) → Cs → Prop} : diR2 a b en cs k = a en cs fun z cs1 => b en cs1 fun w cs2 => r2D z w fun i j => (Rg i ∧ Rg j) ∧ k (rgD i (j - i).toNat) yes cs2 := nd rfl
end DL
set_option maxHeartbeats 2000000
set_option autoImplicit false
namespace DL
open PySem PySem.Spec PyProof.Rows L2
def dOpC (f : D → D → (List D → Prop) → Prop) (a b : DE) : DE := fun en cs k => a en cs fun x cs1 => b en cs1 fun y cs2 => withD cs2 x fun dx => withD cs2 y fun dy => f dx dy fun ds => k (.c cs2.length) (cs2 ++ [.lst ds])
section
variable {X : Cx} {pos : Pos}
theorem Rep.fresh {K : PySem.W.Frag} {S H : Hp} {as : List Addr} {cs : Cs} {k : Z → Cs → Prop} {Q : VK} (r : Rep K S H as cs) (p : PQ K S as k Q) {ds : List D} {vs : List V} {l : Addr} (hl : H l = none) (is : IsL K S ds vs) (h : k (.c cs.length) (cs ++ [.lst ds])) : Q (.ref l) (upd H l (.lst vs)) :=
  p (.c cs.length) (.ref l) S _ (as ++ [l]) _ ⟨Sub.refl _, [l], rfl⟩ (r.cell hl (c := .lst ds) ⟨r.sub.free hl, vs, upd_same, is⟩) ⟨l, r.get_new l, rfl⟩ h
def addC : D → D → (List D → Prop) → Prop
  | .lst a, .lst b, k => a.length + b.length ≤ LIM ∧ k (a ++ b)
  | _, _, _ => False
def mulC : D → D → (List D → Prop) → Prop
  | .lst a, .int n, k => (0 ≤ n ∧ n ≤ 100000 ∧ a.length ≤ 1000 ∧ a.length * n.toNat ≤ LIM) ∧ k (List.replicate n.toNat a).flatten
  | _, _, _ => False
theorem e_addC (a b : List D) (k : List D → Prop) : addC (.lst a) (.lst b) k = (a.length + b.length ≤ LIM ∧ k (a ++ b)) := nd rfl
theorem e_mulC (a : List D) (n : Int) (k : List D → Prop) : mulC (.lst a) (.int n) k = ((0 ≤ n ∧ n ≤ 100000 ∧ a.length ≤ 1000 ∧ a.length * n.toNat ≤ LIM) ∧ k (List.replicate n.toNat a).flatten) := nd rfl
def dSlC (a : DE) (lo hi : DO) : DE := fun en cs k => a en cs fun x cs1 => lo en cs1 fun l cs2 => hi en cs2 fun h cs3 => withD cs3 x fun dx => ∃ ds, dx = .lst ds ∧ k (.c cs3.length) (cs3 ++ [.lst (cutG ds l h)])
def lstOfC : D → (List D → Prop) → Prop
  | .lst ds, k => k ds
  | .tup ds, k => k ds
  | .scr ns, k => k (ns.map D.int)
  | _, _ => False
theorem e_loCl (ds : List D) (k : List D → Prop) : lstOfC (.lst ds) k = k ds := nd rfl
theorem e_loCt (ds : List D) (k : List D → Prop) : lstOfC (.tup ds) k = k ds := nd rfl
theorem e_loCs (ns : List Int) (k : List D → Prop) : lstOfC (.scr ns) k = k (ns.map D.int) := nd rfl
def dListC (a : DE) : DE := fun en cs k => a en cs fun x cs1 => withD cs1 x fun dx => lstOfC dx fun ds => k (.c cs1.length) (cs1 ++ [.lst ds])
end
end DL
set_option maxHeartbeats 2000000
set_option autoImplicit false
namespace DL
open PySem PySem.Spec PyProof.Rows L2
def key3 : List Int → Int × Int × Int
  | a :: b :: c :: _ => (a, b, c)
  | [a, b] => (a, b, 0)
  | [a] => (a, 0, 0)
  | [] => (0, 0, 0)
def lex3 (p q : Int × Int × Int) : Bool := decide (p.1 < q.1 ∨ (p.1 = q.1 ∧ (p.2.1 < q.2.1 ∨ (p.2.1 = q.2.1 ∧ p.2.2 < q.2.2))))
def RowV : List Value → List Int → Prop
  | [], [] => True
  | v :: vs, n :: ns => (∃ t, v = .int n t) ∧ RowV vs ns
  | _, _ => False
def rowOf (h : Heap) : Value → List Int
  | .ref a => match h.get? a with
    | some o => match o.data with
      | .seq xs _ => xs.toList.map fun v => match v with
        | .int i _ => i
        | _ => 0
      | _ => []
    | none => []
  | _ => []
def IsRow (h : Heap) (v : Value) (ns : List Int) : Prop := ∃ (a : Addr) (o : Obj) (us : List Value) (n : Nat), v = .ref a ∧ h.get? a = some o ∧ o.cls = .type "tuple" ∧ o.data = .seq us.toArray n ∧ RowV us ns
theorem IsRow.keeps {h h' : Heap} {v : Value} {ns : List Int} (p : IsRow h v ns) (k : ∀ b o, h.get? b = some o → o.cls = .type "tuple" → h'.get? b = some o) : IsRow h' v ns := by
  obtain ⟨a, o, us, n, e, ho, hc, hd, r⟩ := p
  exact ⟨a, o, us, n, e, k _ _ ho hc, hc, hd, r⟩
theorem rowV_back : ∀ {us : List Value} {ns : List Int}, RowV us ns → (us.map fun v => match v with
    | .int i _ => i
    | _ => 0) = ns
  | [], [], _ => rfl
  | [], _ :: _, h => h.elim
  | _ :: _, [], h => h.elim
  | v :: us, n :: ns, ⟨⟨t, e⟩, h⟩ => by
    subst e
    rw [List.map_cons, rowV_back h]
theorem IsRow.row {h : Heap} {v : Value} {ns : List Int} (p : IsRow h v ns) : rowOf h v = ns := by
  obtain ⟨a, o, us, n, rfl, ho, hc, hd, r⟩ := p
  unfold rowOf
  simp only [ho, hd]
  exact rowV_back r
section
variable {prog : Program} {w : World} {A : Around} {E : Value → Shared → Prop} {s : Shared}
end
def rowD (r : List Int) : D := .tup (r.map D.int)
def sortedRD : List D → (D → Prop) → Prop
  | [.lst ds], k => ∃ (rows : List (List Int)) (d : Nat), ds = rows.map rowD ∧ (1 ≤ d ∧ d ≤ 3 ∧ ∀ r ∈ rows, r.length = d) ∧ ∀ out : List (List Int), out.Perm rows → out.Pairwise (fun x y => lex3 (key3 y) (key3 x) = false) → k (.lst (out.map rowD))
  | [.tup ds], k => ∃ (rows : List (List Int)) (d : Nat), ds = rows.map rowD ∧ (1 ≤ d ∧ d ≤ 3 ∧ ∀ r ∈ rows, r.length = d) ∧ ∀ out : List (List Int), out.Perm rows → out.Pairwise (fun x y => lex3 (key3 y) (key3 x) = false) → k (.lst (out.map rowD))
  | _, _ => False
theorem e_srtl (ds : List D) (k : D → Prop) : sortedRD [.lst ds] k = ∃ (rows : List (List Int)) (d : Nat), ds = rows.map rowD ∧ (1 ≤ d ∧ d ≤ 3 ∧ ∀ r ∈ rows, r.length = d) ∧ ∀ out : List (List Int), out.Perm rows → out.Pairwise (fun x y => lex3 (key3 y) (key3 x) = false) → k (.lst (out.map rowD)) := nd rfl
theorem e_srtt (ds : List D) (k : D → Prop) : sortedRD [.tup ds] k = ∃ (rows : List (List Int)) (d : Nat), ds = rows.map rowD ∧ (1 ≤ d ∧ d ≤ 3 ∧ ∀ r ∈ rows, r.length = d) ∧ ∀ out : List (List Int), out.Perm rows → out.Pairwise (fun x y => lex3 (key3 y) (key3 x) = false) → k (.lst (out.map rowD)) := nd rfl
end DL
set_option maxHeartbeats 2000000
set_option autoImplicit false
namespace DL
open PySem PySem.Spec PyProof.Rows L2
section
variable {X : Cx} {pos : Pos}
def dFld (C : Addr) (f : Str) (o : DE) : DE := fun en cs k => o en cs fun z cs1 => withD cs1 z fun d => match d with
  | .ob C' ns ds => C' = C ∧ ∃ x, (ns.zip ds).lookup f = some x ∧ k (.d x) cs1
  | _ => False
end
end DL
set_option maxHeartbeats 2000000
set_option autoImplicit false
namespace DL
open PySem PySem.Spec PyProof.Rows L2
section
variable {X : Cx} {k : Nat} {f C : Addr} {fd : FuncData} {ps : List Str} {sp : DSpec} {x : Str} {p pos : Pos} {e : Expr} {es : List Expr} {ta : TA} {da : DA}
def dMake (C : Addr) (sp : DSpec) (a : DA) : DE := fun en cs k => a en cs fun zs cs1 => sp (.c cs1.length :: zs) (cs1 ++ [.ob C [] []]) fun z cs2 => z = .d .non ∧ ∃ ns ds, cs2[cs1.length]? = some (.ob C ns ds) ∧ (k (.d (.ob C ns ds)) (cs2.take cs1.length) ∨ k (.c cs1.length) cs2)
end
end DL
set_option maxHeartbeats 2000000
set_option autoImplicit false
namespace DL
open PySem PySem.Spec PyProof.Rows L2
section
variable {X : Cx} {k : Nat} {f C : Addr} {fd : FuncData} {ps : List Str} {sp : DSpec} {x m : Str} {p pos apos : Pos} {o e : Expr} {es : List Expr} {to : TE} {od : DE} {ta : TA} {da : DA}
def dMeth (C : Addr) (m : Str) (sp : DSpec) (o : DE) (a : DA) : DE := fun en cs k => o en cs fun z cs1 => withD cs1 z fun d => match d with
  | .ob C' ns ds => C' = C ∧ (ns.zip ds).lookup m = none ∧ a en cs1 fun zs cs2 => sp (z :: zs) cs2 k
  | _ => False
end
end DL
set_option maxHeartbeats 2000000
set_option autoImplicit false
namespace DL
open PySem PySem.Spec PyProof.Rows L2
section
variable {X : Cx} {k : Nat} {C p g a dx : Addr} {fs : List (Str × V)} {f : Str} {fd : FuncData} {ps : List Str} {sp : DSpec} {e : Expr} {pos : Pos} {ta : TE} {od : DE}
def dProp (C : Addr) (sp : DSpec) (o : DE) : DE := fun en cs k => o en cs fun z cs1 => withD cs1 z fun d => match d with
  | .ob C' _ _ => C' = C ∧ sp [z] cs1 k
  | _ => False
end
end DL
set_option maxHeartbeats 2000000
set_option autoImplicit false
namespace DL
open PySem PySem.Spec PyProof.Rows L2 PySem.W
section
variable {prog : Program} {w : World} {A : Around} {E : Value → Shared → Prop} {s : Shared} {K : Frag} {x C L f : Addr} {h₀ : Heap} {m : Str → Option Value} {ox : Obj} {od : Option Obj} {b tb : Value}
end
end DL
set_option maxHeartbeats 2000000
set_option autoImplicit false
namespace DL
open PySem PySem.Spec PyProof.Rows L2
structure ClsD (K : PySem.W.Frag) (C : Addr) : Prop where
  cl : Cls K C
  ca : PySem.W.findIn K (.ref C) "__class__" = some (some (.builtin "object.__class__"))
  cn : PySem.W.specialIn K (.builtin "object.__class__") "__get__" = some (some (.builtin "getset_descriptor.__get__"))
  ct : PySem.W.takesIn K (.builtin "object.__class__") = some true
  cm : PySem.W.mroIn K C (.type "object") = some true
  sf : PySem.W.selfFirst K C = true
  kc : PySem.W.typeIn K (.ref C) = some (.type "type")
  kp : PySem.W.keepIn K (.ref C) = true
def tyNames : List String := ["NoneType", "bool", "int", "str", "tuple", "list", "dict"]
def isBt : D → Bool
  | .ty _ => false
  | .obj _ => false
  | .ob _ _ _ => false
  | .cel _ _ => false
  | _ => true
def isiO (C : Addr) (Cs : List Addr) (d : D) (k : Bool → Prop) : Prop := match d with
  | .ob C' _ _ => (C' = C ∧ k true) ∨ (C' ∈ Cs ∧ k false)
  | d => isBt d = true ∧ k false
structure Oth (K : PySem.W.Frag) (C C' : Addr) : Prop where
  c : ClsD K C'
  ne : PySem.W.subIn K (.ref C') (.ref C) = some false
  df : C' ≠ C
section
variable {X : Cx} {pos : Pos} {k : Nat} {f C : Addr} {fd : FuncData} {ps : List Str} {sp : DSpec} {a b e : Expr} {es : List Expr} {ta tb te : TE} {da db de : DE} {tl : TA} {dl : DA} {x y : Str} {p p2 : Pos}
def dIsiO (C : Addr) (Cs : List Addr) (a : DE) : DE := fun en cs k => a en cs fun z cs1 => withD cs1 z fun d => isiO C Cs d fun q => k (.d (.bl q)) cs1
end
end DL
set_option maxHeartbeats 2000000
set_option autoImplicit false
namespace DL
open PySem PySem.Spec PyProof.Rows L2
def GotM (P : Program) (w : World) (K : PySem.W.Frag) (mg : Str → Option Value) (base : Heap) (C : Addr) (m : Str) (k : Nat) (ps : List Str) (sp : DSpec) : Prop :=
  ∃ (f : Addr) (fd : FuncData), Meth K C m f ∧ PySem.W.fnIn K f = true ∧ L2.Binds K fd ps [] ∧ FnD P w K mg base k f fd ps sp
def GotP (P : Program) (w : World) (K : PySem.W.Frag) (mg : Str → Option Value) (base : Heap) (C : Addr) (m : Str) (k : Nat) (ps : List Str) (sp : DSpec) : Prop :=
  ∃ (p f : Addr) (fd : FuncData), PropOf K C m p f ∧ L2.Binds K fd ps [] ∧ FnD P w K mg base k f fd ps sp
def GotI (P : Program) (w : World) (K : PySem.W.Frag) (mg : Str → Option Value) (base : Heap) (C : Addr) (x : Str) (k : Nat) (ps : List Str) (sp : DSpec) : Prop :=
  ∃ (f : Addr) (fd : FuncData), mg x = some (.ref C) ∧ Mk K C f ∧ L2.Binds K fd ps [] ∧ FnD P w K mg base k f fd ps sp
section
variable {X : Cx} {pos : Pos} {k : Nat} {f C : Addr} {fd : FuncData} {ps : List Str} {sp : DSpec} {a b e fe : Expr} {es : List Expr} {ta tb te tf : TE} {da db de df : DE} {tl : TA} {dl : DA} {x y m : Str} {p p2 : Pos}
def isC (C : Addr) (d : D) : Prop := match d with
  | .ob C' _ _ => C' = C
  | _ => False
def dOwn (C : Addr) (sp : DSpec) (a b : DE) : DE := fun en cs k => a en cs fun x cs1 => b en cs1 fun y cs2 => withD cs2 x fun dx => withD cs2 y fun dy => isC C dx ∧ isC C dy ∧ sp [x, y] cs2 k
def rgt (C : Addr) (d : D) : Prop := match d with
  | .ob C' _ _ => C' = C
  | d => isBt d = true
def dOwnE (C : Addr) (neg : Bool) (sp : DSpec) (a b : DE) : DE := fun en cs k => a en cs fun x cs1 => b en cs1 fun y cs2 => withD cs2 x fun dx => withD cs2 y fun dy => isC C dx ∧ rgt C dy ∧ sp [x, y] cs2 fun z cs3 => ∃ q, z = .d (.bl q) ∧ k (.d (.bl (if neg = true then !q else q))) cs3
def dCallI (C : Addr) (sp : DSpec) (o : DE) (a : DA) : DE := fun en cs k => o en cs fun z cs1 => withD cs1 z fun d => isC C d ∧ a en cs1 fun zs cs2 => withD cs2 z fun d => isC C d ∧ sp (z :: zs) cs2 k
end
end DL
set_option maxHeartbeats 2000000
set_option autoImplicit false
namespace DL
open PySem PySem.Spec PyProof.Rows L2
def clsBody (s : Stmt) : List Stmt := match s with
  | .ClassDef _ _ _ b _ _ _ _ _ _ _ => b
  | _ => []
def methS (s : Stmt) (j : Nat) : Stmt := (clsBody s).getD j (.Pass ⟨0, 0, 0, 0⟩)
def MethT (K : PySem.W.Frag) (C : Addr) (m qual : Str) (st : Stmt) (ps : List Str) : Prop :=
  ∃ (f : Addr) (fd : FuncData), Fun K m qual st f fd ∧ Meth K C m f ∧ PySem.W.fnIn K f = true ∧ L2.Binds K fd ps []
def PropT (K : PySem.W.Frag) (C : Addr) (m qual : Str) (st : Stmt) (ps : List Str) : Prop :=
  ∃ (p f : Addr) (fd : FuncData), Fun K m qual st f fd ∧ PropOf K C m p f ∧ L2.Binds K fd ps []
def InitT (K : PySem.W.Frag) (mg : Str → Option Value) (C : Addr) (x qual : Str) (st : Stmt) (ps : List Str) : Prop :=
  ∃ (f : Addr) (fd : FuncData), Fun K "__init__" qual st f fd ∧ mg x = some (.ref C) ∧ Mk K C f ∧ L2.Binds K fd ps []
section
variable {P : Program} {w : World} {K : PySem.W.Frag} {mg : Str → Option Value} {base : Heap} {C : Addr} {m qual x : Str} {k : Nat} {ps : List Str} {sp : DSpec} {st : Stmt} {N : List Str}
theorem GotM.mk (T : MethT K C m qual st ps) (S : FnScope N ps (defScope st)) (len : ∀ zs cs q, sp zs cs q → zs.length = ps.length) (t : DS)
    (der : ∀ (f : Addr) (cdv : Value) (A : Around) (outer : List Env) (s : Shared) (H : Hp), Room k (A.deeper (envOfC qual (defScope st) s.heap.objs.size f cdv)) → (A.deeper (envOfC qual (defScope st) s.heap.objs.size f cdv)).guards = some [] →
      ∃ ts : TS, QSs (cxOf CX0 P w K mg base N qual (defScope st) f cdv A outer s H E0).nox (defBody st) ts t)
    (rd : ∀ zs cs q, sp zs cs q → t (endD cs.length q) (startD N zs) cs) : GotM P w K mg base C m (k + 1) ps sp := by
  obtain ⟨f, fd, F, M, fi, b⟩ := T
  exact ⟨f, fd, M, fi, b, fn_D F S len t (der f) rd⟩
theorem GotP.mk (T : PropT K C m qual st ps) (S : FnScope N ps (defScope st)) (len : ∀ zs cs q, sp zs cs q → zs.length = ps.length) (t : DS)
    (der : ∀ (f : Addr) (cdv : Value) (A : Around) (outer : List Env) (s : Shared) (H : Hp), Room k (A.deeper (envOfC qual (defScope st) s.heap.objs.size f cdv)) → (A.deeper (envOfC qual (defScope st) s.heap.objs.size f cdv)).guards = some [] →
      ∃ ts : TS, QSs (cxOf CX0 P w K mg base N qual (defScope st) f cdv A outer s H E0).nox (defBody st) ts t)
    (rd : ∀ zs cs q, sp zs cs q → t (endD cs.length q) (startD N zs) cs) : GotP P w K mg base C m (k + 1) ps sp := by
  obtain ⟨p, f, fd, F, M, b⟩ := T
  exact ⟨p, f, fd, M, b, fn_D F S len t (der f) rd⟩
theorem GotI.mk (T : InitT K mg C x qual st ps) (S : FnScope N ps (defScope st)) (len : ∀ zs cs q, sp zs cs q → zs.length = ps.length) (t : DS)
    (der : ∀ (f : Addr) (cdv : Value) (A : Around) (outer : List Env) (s : Shared) (H : Hp), Room k (A.deeper (envOfC qual (defScope st) s.heap.objs.size f cdv)) → (A.deeper (envOfC qual (defScope st) s.heap.objs.size f cdv)).guards = some [] →
      ∃ ts : TS, QSs (cxOf CX0 P w K mg base N qual (defScope st) f cdv A outer s H E0).nox (defBody st) ts t)
    (rd : ∀ zs cs q, sp zs cs q → t (endD cs.length q) (startD N zs) cs) : GotI P w K mg base C x (k + 1) ps sp := by
  obtain ⟨f, fd, F, mgC, M, b⟩ := T
  exact ⟨f, fd, mgC, M, b, fn_D F S len t (der f) rd⟩
section
variable {h : Heap} {f p : Addr} {oc : Value} {od an : Option Addr} {osl : Array (Option Value)} {kV doc pm cdv ct : Value}
end
end
section
variable {X : Cx} {pos p apos : Pos} {x m : Str} {k : Nat} {C : Addr} {ps : List Str} {sp : DSpec} {o e : Expr} {es : List Expr} {to : TE} {od : DE} {ta : TA} {da : DA}
end
section
variable {k : Z → Cs → Prop} {cs : Cs} {C : Addr} {sp : DSpec}
theorem e_isC (C' : Addr) (ns : List Str) (ds : List D) : isC C (.ob C' ns ds) = (C' = C) := nd rfl
theorem e_rgO (C' : Addr) (ns : List Str) (ds : List D) : rgt C (.ob C' ns ds) = (C' = C) := nd rfl
theorem e_rgn : rgt C .non = True := by simp [rgt, isBt]
theorem e_rgi (i : Int) : rgt C (.int i) = True := by simp [rgt, isBt]
theorem e_rgs (i : Str) : rgt C (.str i) = True := by simp [rgt, isBt]
theorem e_rgb (i : Bool) : rgt C (.bl i) = True := by simp [rgt, isBt]
theorem e_rgt (i : List D) : rgt C (.tup i) = True := by simp [rgt, isBt]
theorem e_rgl (i : List D) : rgt C (.lst i) = True := by simp [rgt, isBt]
end
end DL
namespace DL
open PySem PySem.Spec PyProof.Rows L2
section
variable {X : Cx} {pos : Pos} {k : Nat} {C : Addr} {ps : List Str} {sp : DSpec} {a b : Expr} {ta tb : TE} {da db : DE}
end
end DL
set_option maxHeartbeats 4000000
set_option autoImplicit false
namespace DL
open PySem PySem.Spec PyProof.Rows L2
section
variable {P : Program} {w : World} {A : Around} {E : Value → Shared → Prop} {s : Shared}
end
section
variable {X : Cx}
def rSetL (K : PySem.W.Frag) (w : World) : List V → Hp → VK → Prop := fun xs H Q => ∃ (l : Addr) (ns : List Int), xs = [.ref l] ∧ SqL K H l (ns.map V.int) ∧ ns.length ≤ 4000 ∧
  ∀ p n, H p = none → n ≤ ns.length → Q (.ref p) (upd H p (SetO w p (fun j => decide (j ∈ ns)) n))
def dSortSet (a : DE) : DE := fun en cs k => a en cs fun z cs1 => withD cs1 z fun d => ∃ ns : List Int, d = .lst (ns.map D.int) ∧ ns.length ≤ 4000 ∧ ∀ out : List Int, out.Pairwise (· < ·) → (∀ j, j ∈ out ↔ j ∈ ns) → k (.d (.lst (out.map D.int))) cs1
section
variable {a : Expr} {ta : TE} {da : DE} {p p2 q pos : Pos}
end
end
def sortedID : List D → (D → Prop) → Prop
  | [.lst ds], k => ∃ ns : List Int, ds = ns.map D.int ∧ ∀ out : List Int, out.Perm ns → out.Pairwise (· ≤ ·) → k (.lst (out.map D.int))
  | _, _ => False
theorem e_srtI (ds : List D) (k : D → Prop) : sortedID [.lst ds] k = ∃ ns : List Int, ds = ns.map D.int ∧ ∀ out : List Int, out.Perm ns → out.Pairwise (· ≤ ·) → k (.lst (out.map D.int)) := nd rfl
end DL
set_option maxHeartbeats 2000000
set_option autoImplicit false
namespace DL
open PySem L2
theorem Rep.frz {K : PySem.W.Frag} {S H : Hp} {as : List Addr} {cs : Cs} (r : Rep K S H as cs) {n : Nat} {a : Addr} {o : HO} (ha : as[n]? = some a) (h1 : H a = some o) (h2 : S a = none) : Rep K (upd S a o) H as (cs.set n (.obj a)) := by
  refine ⟨fun b u e => ?_, by rw [List.length_set]; exact r.len, r.nod, fun m b d e1 e2 => ?_, r.liv, fun q hq => ⟨by rw [upd_ne (r.notab (List.mem_of_getElem? ha) q hq)]; exact (r.tab q hq).1, (r.tab q hq).2⟩⟩
  · by_cases hb : b = a
    · subst hb
      rw [upd_same] at e
      rw [h1]
      exact e
    · rw [upd_ne hb] at e
      exact r.sub b u e
  · by_cases hm : n = m
    · subst hm
      rw [ha] at e1
      cases e1
      have hl : n < cs.length := by rw [← r.len]; exact (List.getElem?_eq_some_iff.mp ha).1
      rw [List.getElem?_set_self hl] at e2
      cases e2
      rfl
    · rw [List.getElem?_set_ne hm] at e2
      have ne : b ≠ a := fun z => by
        subst z
        exact hm (nd_ix r.nod ha e1)
      exact CelAt.mono (Sub.new h2) (fun q => by rw [upd_ne ne]; exact q) rfl (r.cel m b d e1 e2)
def frzOk : D → Bool
  | .lst _ => true
  | .dic _ => true
  | _ => false
def dFrz (i : Nat) (t : DS) : DS := fun E en cs => match en[i]? with
  | some (some (.c n)) => withD cs (.c n) fun d => frzOk d = true ∧ ∀ b, t E (en.set i (some (.d d))) (cs.set n (.obj b))
  | some (some (.d _)) => t E en cs
  | _ => False
theorem e_fz1 (ds : List D) : frzOk (.lst ds) = true := nd rfl
theorem e_fz2 (ds : List (Key × D)) : frzOk (.dic ds) = true := nd rfl
theorem set_snoc0 (cs : Cs) (x y : D) : (cs ++ [x]).set cs.length y = cs ++ [y] := by simp
end DL
namespace DL
open PySem
def cAof (l : List (Str × Addr)) (n : Str) : Addr := (l.lookup n).getD 0
end DL
set_option maxHeartbeats 4000000
set_option autoImplicit false
namespace DL
open PySem PySem.Spec PyProof.Rows L2
def zipD (ds es : List D) : List D := (ds.zip es).map fun p => D.tup [p.1, p.2]
def diZip (a b : DE) : DI := fun en cs k => a en cs fun x cs1 => b en cs1 fun y cs2 => match x, y with
  | .d (.lst ds), .d (.lst es) => k (zipD ds es) yes cs2
  | .d (.tup ds), .d (.tup es) => k (zipD ds es) yes cs2
  | _, _ => False
theorem pair_laid {K : PySem.W.Frag} {S H : Hp} {as : List Addr} {cs : Cs} (r : Rep K S H as cs) {T : Addr} {x y : V} {d e : D} (nT : H T = none) (hx : Is K S d x) (hy : Is K S e y) :
    ∃ S', Sub S S' ∧ Rep K S' (upd H T (.tup [x, y])) as cs ∧ Is K S' (.tup [d, e]) (.ref T) := by
  have hn := Sub.new (o := .tup [x, y]) (r.sub.free nT)
  exact ⟨_, hn, r.lay nT _, T, _, rfl, SqT.of upd_same, ⟨_, _, rfl, Is.mono hn _ _ hx, ⟨_, _, rfl, Is.mono hn _ _ hy, rfl⟩⟩⟩
section
variable {X : Cx}
end
theorem enumT_end {prog : Program} {w : World} {A : Around} {E : Value → Shared → Prop} {s : Shared} {e it t : Addr} {i : Nat} {items : Array Value} {old : Value} {Q : Option Value → Shared → Prop} (hh : A.handled = none) (he : IsEnum s.heap e it i old) (hit : s.heap.IsTupleIter it t i)
    (ht : s.heap.IsTuple t items) (hx : items[i]? = none) (hQ : ∀ h', Heap.ExtBut it s.heap h' → Q none { s with heap := h' }) : wpAny (model prog w) A (pyNext (.ref e)) Q E s := by
  have ty : s.TypeIs (.ref e) "enumerate" := ⟨_, he, rfl⟩
  unfold pyNext
  apply wpAny_bind
  apply wpAny_attempt
  refine wpAny_callSpecial?_slot (name := Str.ofString "__next__") ty F.slot_enumerate_next ?_
  refine wpAny_call_entry F.slot_enumerate_next ty F.entry_enumerate_next ?_ (F.args_enumerate_next_1 _)
  show wpAny _ _ (field (.ref e) 2 >>= _) _ _ _
  apply wpAny_bind
  refine wpAny_field he rfl (x := .ref it) rfl ?_
  apply wpAny_bind
  refine wpAny_nextOf_tuple_end (by simp [hh]) hit ht hx fun h' y ext hy => ?_
  obtain ⟨o, ho, hc⟩ := hy
  apply wpAny_bind
  refine wpAny_isInstance (T := "StopIteration") (b := true) ⟨o, ho, hc⟩ isSubtype_stop ?_
  exact wpAny_pure (hQ _ ext)
def IteT (K : PySem.W.Frag) (a : Addr) : It :=
  ⟨fun i H => ∃ (xs : List V) (x : V), SqT K H a xs ∧ xs[i]? = some x, fun i H v H' => ∃ T x, v = .ref T ∧ H T = none ∧ H' = upd H T (.tup [.int (i : Nat), x]) ∧ ∀ xs, SqT K H a xs → xs[i]? = some x, fun i H => ∃ xs : List V, SqT K H a xs ∧ xs.length ≤ i⟩
theorem tup_inj {X : Cx} {pins : List (Addr × Obj)} {σ : L2.St} {H : Hp} {s : Shared} (I : Inv X pins σ H s) {a : Addr} {xs ys : List V} (h1 : SqT X.K H a xs) (h2 : SqT X.K H a ys) : xs = ys := I.tuple_inj h1 h2
theorem turn_enumT {P : Program} {w : World} {K : PySem.W.Frag} {elts : List Expr} {kk : Nat} {tpos : Pos} (a e it : Addr) (hai : a ≠ it) :
    Turn P w K (.Tuple elts kk tpos) (IteT K a) [e, it] e (fun i h => (∃ old, IsEnum h e it ((i : Nat) : Int) old) ∧ h.IsTupleIter it a i ∧ e ≠ it ∧ e ≠ a) where
  mem := List.mem_cons_self
  obj := fun i h st b hb => by
    obtain ⟨⟨old, he⟩, ⟨o, ho, hc, hd⟩, _⟩ := st
    rcases List.mem_cons.mp hb with rfl | hb
    · exact ⟨_, he, fun v q => nomatch q⟩
    · obtain rfl := List.mem_singleton.mp hb
      exact ⟨o, ho, fun v q => by rw [hd] at q; cases q⟩
  keep := fun i h h' st k => by
    obtain ⟨⟨old, he⟩, hi, h1, h2⟩ := st
    exact ⟨⟨old, k e (by simp) _ he⟩, hi.at fun o q => k it (by simp) o q, h1, h2⟩
  item := by
    intro X hP hw hK hc i pins s σ H E I hf st hg
    subst hP hw hK
    obtain ⟨⟨old, he⟩, hit, hne, hea⟩ := st
    obtain ⟨xs, x, hq, hx⟩ := hg
    obtain ⟨its, rv, p, hz⟩ := I.tuple hq
    obtain ⟨u, hu, ru⟩ := rv.get hx
    have hel : e < s.heap.objs.size := Heap.lt_size he
    have hil : it < s.heap.objs.size := by
      obtain ⟨_, q, _⟩ := hit
      exact Heap.lt_size q
    have hi : i < its.length := (List.getElem?_eq_some_iff.mp hu).1
    have D := Draws.tuple (prog := X.prog) (w := X.w) (A := X.A.in1) (by simp [I.ok.hd hc]) it a hai its.toArray
    refine wpAny_pyNext_enum_itemD D he ⟨hit, p⟩ (by simpa using hi) hne (by simp [hne, hea]) fun x' h' tk hp ho st' hT hsz hk => ?_
    obtain rfl : x' = u := by
      have : its[i]? = some x' := by simpa using hp
      exact Option.some.inj (this.symm.trans hu)
    refine ⟨_, rfl, wpAny_letOwnedTupleGo_enum (s := { s with heap := h', toks := tk + 1 }) ho fun h'' he' sb => ?_⟩
    have hT2 : h''.get? s.heap.objs.size = some { cls := .type "tuple", data := .seq #[.int i tk, x'] } := (sb.2 _ (Nat.ne_of_gt hel)).trans hT
    have new : ObjOk X.prog X.w (upd H s.heap.objs.size (.tup [.int (i : Nat), x])) h'' s.heap.objs.size (.tup [.int (i : Nat), x]) :=
      ⟨by show 2 ≤ sizeLine; decide, [.int i tk, x'], .cons ⟨_, rfl⟩ (.cons ru .nil), ⟨_, hT2, rfl, _, rfl⟩⟩
    have I1 : Inv X pins σ (upd H s.heap.objs.size (.tup [.int (i : Nat), x])) { s with heap := h'', toks := tk + 1 } :=
      I.turnedNew (ch := [e, it]) (fun b ob hb q => by
        have b1 : b ≠ e := fun z => hb (by simp [z])
        have b2 : b ≠ it := fun z => hb (by simp [z])
        exact (sb.2 b b1).trans (hk b ob b1 b2 q)) hf (Nat.le_refl _) new
    refine ⟨.ref s.heap.objs.size, _, I1, rfl, ⟨_, x, rfl, I.hok.fresh (Nat.le_refl _), rfl, fun ys hy => by rw [tup_inj I hy hq]; exact hx⟩, ⟨⟨x', ?_⟩, st'.1.at fun o q => (sb.2 it (Ne.symm hne)).trans q, hne, hea⟩, fun b hb => ?_⟩
    · rw [show ((i + 1 : Nat) : Int) = (i : Int) + 1 by omega]
      exact he'
    · have lt : b < s.heap.objs.size := by
        rcases List.mem_cons.mp hb with rfl | hb'
        · exact hel
        · obtain rfl := List.mem_singleton.mp hb'
          exact hil
      rw [upd_ne (Nat.ne_of_lt lt)]
      exact (hf b hb).1
  done := by
    intro X hP hw hK hc i pins s σ H E I hf st hg
    subst hP hw hK
    obtain ⟨⟨old, he⟩, hit, hne, hea⟩ := st
    obtain ⟨xs, hq, hx⟩ := hg
    obtain ⟨its, rv, p, hz⟩ := I.tuple hq
    obtain ⟨f0, f1, f2, f3, f4, f5⟩ := hf it (by simp)
    have hl := rv.length
    refine enumT_end (I.ok.hd hc) he hit (show s.heap.IsTuple a its.toArray from p) (by simp; omega) fun h' eb => ?_
    exact ⟨rfl, I.turned (t' := s.toks) (fun b o hb q => eb b o hb q) f0 f1 f3 f4 f5⟩
  self := fun A i s Q E st h => let ⟨⟨_, he⟩, _⟩ := st; wpAny_pyIter_enum he h
section
variable {prog : Program} {w : World} {A : Around} {E : Value → Shared → Prop} {s : Shared}
theorem enumT_new (l : Addr) (items : Array Value) (n : Nat) (dct : Option Addr) (sl : Array (Option Value)) :
    Meets (Builtin.«enumerate.__new__» ⟨[.type "enumerate", .ref l], []⟩) (fun _ R s => s.heap.get? l = some ⟨.type "tuple", dct, .seq items n, sl⟩ ∧
      R (.ok (.ret (.ref (s.heap.push { cls := .type "tuple_iterator", data := .fields #[.ref l, .int 0 0] }).objs.size)))
        { s with heap := (s.heap.push { cls := .type "tuple_iterator", data := .fields #[.ref l, .int 0 0] }).push { cls := .type "enumerate", data := .fields #[.none, .bool false, .ref s.heap.objs.size, rawInt 0, .none, .none] } }) := by
  refine .of_wp fun prog w A R s h => ?_
  obtain ⟨hp, g, d, tk, os⟩ := s
  obtain ⟨hl, h⟩ := h
  have sb := sub_enumerate
  have tp : Heap.IsTuple (Shared.heap ⟨hp, g, d, tk, os⟩) l items := ⟨_, hl, rfl, n, rfl⟩
  wp_walk using wpAny_loadPart' hl
  refine wpAny_stack_any fun st => wpAny_pure ?_
  split
  · rename_i c _ _ _ _ _
    cases (c == Value.type "enumerate") <;>
    · wp_walk using wpAny_loadPart' hl, wpAny_pyIter_tuple tp
      exact ⟨_, rfl, h⟩
  · wp_walk using wpAny_loadPart' hl, wpAny_pyIter_tuple tp
    exact ⟨_, rfl, h⟩
theorem call_enumT {l : Addr} {items : Array Value} {Q : Value → Shared → Prop} (hL : s.heap.IsTuple l items)
    (h : ∀ h', IsEnum h' (s.heap.objs.size + 1) s.heap.objs.size 0 .none → h'.IsTupleIter s.heap.objs.size l 0 → (∀ b o, s.heap.get? b = some o → h'.get? b = some o) → Q (.ref (s.heap.objs.size + 1)) { s with heap := h' }) :
    wpAny (model prog w) A (call (.type "enumerate") [.ref l]) Q E s := by
  obtain ⟨⟨c, dct, dt, sl⟩, hl, hc, n, hd⟩ := hL
  simp only at hc hd
  subst hc hd
  have hz : (s.heap.push { cls := .type "tuple_iterator", data := .fields #[.ref l, .int 0 0] }).objs.size = s.heap.objs.size + 1 := Heap.size_push ..
  refine callType_new F.called_enumerate (by decide) (F.typeCall_enumerate_1 _) (F.newCall_enumerate_1 _) (fun obj => F.args_object_init_2 obj _) F.entry_enumerate_new (enumT_new l items n dct sl) ⟨hl, ?_⟩
  show _ ∧ _
  rw [hz]
  have made := Heap.get?_push_size (s.heap.push { cls := .type "tuple_iterator", data := .fields #[.ref l, .int 0 0] }) (o := { cls := .type "enumerate", data := .fields #[.none, .bool false, .ref s.heap.objs.size, rawInt 0, .none, .none] }) rfl
  rw [hz] at made
  exact ⟨⟨_, made, rfl⟩, h _ made ⟨_, Heap.get?_push_of_some _ (Heap.get?_push_size _ rfl), rfl, rfl⟩ fun b o x => Heap.get?_push_of_some _ (Heap.get?_push_of_some _ x)⟩
end
def iEnumU (K : PySem.W.Frag) (ta : TA) : TI := fun σ H R => ta σ H fun vs H1 => ∃ a, vs = [.ref a] ∧ ((∃ xs, SqL K H1 a xs ∧ R (Ite K a) H1) ∨ ∃ xs, SqT K H1 a xs ∧ R (IteT K a) H1)
theorem pi_enumU {X : Cx} {e : Expr} {ta : TA} {p pos tpos : Pos} {elts : List Expr} {kk : Nat} (hg : Gl X "enumerate") (hm : X.mg "enumerate" = none) (ha : PA X [e] ta) (hs : starEach [e] X.env = [(false, eval e X.env)] := by rfl) :
    PI X (.Tuple elts kk tpos) (.Call (.Name "enumerate" p) [e] [] pos) (iEnumU X.K ta) := by
  refine ⟨fun pins s σ H R I h => ?_⟩
  refine Call_ (ld_blt I hg hm boot_enumerate (PyProof.Rows.callWith_type1 (thn (ha.run pos pins s σ H _ I h) fun us s1 ⟨vs, H1, I1, r1, a, ex, hq⟩ => ?_) hs rfl))
  subst ex
  rw [Vals.ref1 r1]
  have fp : ∀ b, b ∈ [s1.heap.objs.size + 1, s1.heap.objs.size] → FpOk X pins H1 b := fun b hb => by
    have le : s1.heap.objs.size ≤ b := by
      rcases List.mem_cons.mp hb with rfl | hb'
      · exact Nat.le_succ _
      · rw [List.mem_singleton.mp hb']
        exact Nat.le_refl _
    exact I1.fpOk le (I1.hok.fresh le)
  rcases hq with ⟨xs, hq, q⟩ | ⟨xs, hq, q⟩
  · obtain ⟨its, rv, tp, hz⟩ := I1.list hq
    refine call_enumerate_list tp.isList fun h' he hit hsz hk => wpAny_pyIter_enum he ?_
    have I2 : Inv X pins σ H1 { s1 with heap := h' } := I1.kept (t' := s1.toks) hk
    exact ⟨s1.heap.objs.size + 1, [s1.heap.objs.size + 1, s1.heap.objs.size], _, _, H1, rfl, I2, turn_enum a (s1.heap.objs.size + 1) s1.heap.objs.size, ⟨⟨.none, he⟩, hit, Nat.succ_ne_self _⟩, fp, q⟩
  · obtain ⟨its, rv, tp, hz⟩ := I1.tuple hq
    have lt : a < s1.heap.objs.size := by
      obtain ⟨o, ho, _⟩ := tp
      exact Heap.lt_size ho
    refine call_enumT (show s1.heap.IsTuple a its.toArray from tp) fun h' he hit hk => wpAny_pyIter_enum he ?_
    have I2 : Inv X pins σ H1 { s1 with heap := h' } := I1.kept (t' := s1.toks) hk
    exact ⟨s1.heap.objs.size + 1, [s1.heap.objs.size + 1, s1.heap.objs.size], _, _, H1, rfl, I2, turn_enumT a (s1.heap.objs.size + 1) s1.heap.objs.size (Nat.ne_of_lt lt), ⟨⟨.none, he⟩, hit, Nat.succ_ne_self _, Nat.ne_of_gt (Nat.lt_succ_of_lt lt)⟩, fp, q⟩
theorem wk_eT {K : PySem.W.Frag} {S : Hp} {as : List Addr} {ds : List D} {a : Addr} {vs : List V} (h : SqT K S a vs) (is : IsL K S ds vs) : Wk K (IteT K a) S as (enumD ds) yes := by
  refine ⟨fun S' H as' cs i e r _ hi => ?_, fun S' H as' cs i d e r _ hi => ?_⟩
  · rw [enumD_len] at hi
    exact ⟨vs, r.sub.t (e.sub.t h), by rw [is.len]; exact hi⟩
  · obtain ⟨d', hd, rfl⟩ := enumD_get hi
    obtain ⟨v, hv, iv⟩ := is.get hd
    have q : SqT K H a vs := r.sub.t (e.sub.t h)
    refine ⟨⟨vs, v, q, hv⟩, fun x H' y => ?_⟩
    obtain ⟨T, x', rfl, nT, rfl, f⟩ := y
    obtain rfl : v = x' := Option.some.inj (hv.symm.trans (f vs q))
    exact pair_laid r nT rfl (Is.mono e.sub _ _ iv)
def diEnumU (a : DE) : DI := fun en cs k => a en cs fun z cs1 => match z with
  | .d (.tup ds) => k (enumD ds) yes cs1
  | z => seqD cs1 z fun ds keep => k (enumD ds) keep cs1
theorem qi_enumU {X : Cx} {a : Expr} {elts : List Expr} {kk : Nat} {ta : TE} {da : DE} {p tpos pos : Pos} (hm : X.mg "enumerate" = none) (ha : QE X a ta da) (hg : Gl X "enumerate" := by rfl) (hs : starEach [a] X.env = [(false, eval a X.env)] := by rfl) :
    QI X (.Tuple elts kk tpos) (.Call (.Name "enumerate" p) [a] [] pos) (iEnumU X.K (tCons ta tNil)) (diEnumU da) := by
  refine ⟨pi_enumU hg hm (pa_cons ha.pe pa_nil hs) hs, fun σ H S as en cs k R r e h p => ?_⟩
  refine ha.sem.use r e h fun z v S1 H1 as1 cs1 e1 r1 v1 q1 => ?_
  cases z with
  | d x =>
    cases x with
    | tup ds =>
      obtain ⟨a, vs, rfl, hs, is⟩ := v1
      exact ⟨a, rfl, .inr ⟨vs, r1.sub.t hs, p _ S1 H1 as1 _ yes cs1 e1 r1 (wk_eT hs is) q1⟩⟩
    | lst ds =>
      obtain ⟨a, vs, rfl, hs, is⟩ := v1
      exact ⟨a, rfl, .inl ⟨vs, SqL.of (r1.sub _ _ hs), p _ S1 H1 as1 _ yes cs1 e1 r1 (wk_e fun S' H as' cs e r _ => ⟨vs, SqL.of (r.sub _ _ (e.sub _ _ hs)), IsL.mono e.sub _ _ is⟩) q1⟩⟩
    | scr ns =>
      obtain ⟨a, rfl, hs⟩ := v1
      exact ⟨a, rfl, .inl ⟨_, r1.sub.l hs, p _ S1 H1 as1 _ yes cs1 e1 r1 (wk_e fun S' H as' cs e r _ => ⟨_, r.sub.l (e.sub.l hs), isL_ints _⟩) q1⟩⟩
    | _ => exact q1.elim
  | c n =>
    obtain ⟨a, ha, rfl⟩ := v1
    have q1' : (match cs1[n]? with
      | some (.lst ds) => k (enumD ds) (fun c => c[n]? = some (.lst ds)) cs1
      | _ => False) := q1
    split at q1'
    · rename_i ds hc
      obtain ⟨hS, vs, hl, is⟩ := r1.cell_lst ha hc
      refine ⟨a, rfl, .inl ⟨vs, SqL.of hl, p _ S1 H1 as1 _ _ cs1 e1 r1 (wk_e fun S' H as' cs e r kp => ?_) q1'⟩⟩
      obtain ⟨_, vs', hl', is'⟩ := r.cell_lst (e.get ha) kp
      exact ⟨vs', SqL.of hl', is'⟩
    · exact q1'.elim
end DL
set_option maxHeartbeats 2000000
set_option autoImplicit false
namespace DL
open PySem L2
def vK (o : Option (Option Z)) (k : Z → Prop) : Prop := match o with
  | some (some z) => k z
  | _ => False
theorem n_vK (z : Z) (k : Z → Prop) : vK (some (some z)) k = k z := nd rfl
theorem u_dVar (i : Nat) (en : En) (cs : Cs) (k : Z → Cs → Prop) : dVar i en cs k = vK en[i]? fun z => k z cs := nd rfl
theorem u_dC (x : D) (b0 : En) (cs : Cs) (k : Z → Cs → Prop) : dC x b0 cs k = (k (.d x) cs) := nd rfl
theorem u_dOp (f : D → D → (D → Prop) → Prop) (a b : DE) (en : En) (cs : Cs) (k : Z → Cs → Prop) : dOp f a b en cs k = (a en cs fun x cs1 => b en cs1 fun y cs2 => withD cs2 x fun dx => withD cs2 y fun dy => f dx dy fun z => k (.d z) cs2) := nd rfl
theorem u_dChain (f g : D → D → (D → Prop) → Prop) (a b c : DE) (en : En) (cs : Cs) (k : Z → Cs → Prop) : dChain f g a b c en cs k = (a en cs fun x cs1 => b en cs1 fun y cs2 => withD cs2 x fun dx => withD cs2 y fun dy => f dx dy fun z => ∃ q, z = .bl q ∧
  if q = true then c en cs2 fun w cs3 => withD cs3 y fun dy => withD cs3 w fun dw => g dy dw fun z => k (.d z) cs3 else k (.d (.bl false)) cs2) := nd rfl
theorem u_dUn (f : D → (D → Prop) → Prop) (a : DE) (en : En) (cs : Cs) (k : Z → Cs → Prop) : dUn f a en cs k = (a en cs fun x cs1 => withD cs1 x fun dx => f dx fun z => k (.d z) cs1) := nd rfl
theorem u_dB (a : DE) (en : En) (cs : Cs) (k : Bool → Cs → Prop) : dB a en cs k = (a en cs fun x cs1 => ∃ b, x = .d (.bl b) ∧ k b cs1) := nd rfl
theorem u_dNot (t : DT) (en : En) (cs : Cs) (k : Bool → Cs → Prop) : dNot t en cs k = (t en cs fun b cs1 => k (!b) cs1) := nd rfl
theorem u_dAnd (t u : DT) (en : En) (cs : Cs) (k : Bool → Cs → Prop) : dAnd t u en cs k = (t en cs fun b cs1 => if b = true then u en cs1 k else k false cs1) := nd rfl
theorem u_dOr (t u : DT) (en : En) (cs : Cs) (k : Bool → Cs → Prop) : dOr t u en cs k = (t en cs fun b cs1 => if b = true then k true cs1 else u en cs1 k) := nd rfl
theorem u_dAndV (a b : DE) (en : En) (cs : Cs) (k : Z → Cs → Prop) : dAndV a b en cs k = (a en cs fun x cs1 => ∃ c, x = .d (.bl c) ∧ if c = true then b en cs1 k else k (.d (.bl false)) cs1) := nd rfl
theorem u_dOrV (a b : DE) (en : En) (cs : Cs) (k : Z → Cs → Prop) : dOrV a b en cs k = (a en cs fun x cs1 => ∃ c, x = .d (.bl c) ∧ if c = true then k (.d (.bl true)) cs1 else b en cs1 k) := nd rfl
theorem u_dNotV (a : DE) (en : En) (cs : Cs) (k : Z → Cs → Prop) : dNotV a en cs k = (a en cs fun x cs1 => ∃ c, x = .d (.bl c) ∧ k (.d (.bl (!c))) cs1) := nd rfl
theorem u_dIf (t : DT) (a b : DE) (en : En) (cs : Cs) (k : Z → Cs → Prop) : dIf t a b en cs k = (t en cs fun c cs1 => if c = true then a en cs1 k else b en cs1 k) := nd rfl
theorem u_dNil (b0 : En) (cs : Cs) (k : List Z → Cs → Prop) : dNil  b0 cs k = (k [] cs) := nd rfl
theorem u_dCons (a : DE) (r : DA) (en : En) (cs : Cs) (k : List Z → Cs → Prop) : dCons a r en cs k = (a en cs fun x cs1 => r en cs1 fun xs cs2 => k (x :: xs) cs2) := nd rfl
theorem u_dTup (a : DA) (en : En) (cs : Cs) (k : Z → Cs → Prop) : dTup a en cs k = (a en cs fun zs cs1 => datL zs fun ds => ds.length ≤ LIM ∧ k (.d (.tup ds)) cs1) := nd rfl
theorem u_dLst (a : DA) (en : En) (cs : Cs) (k : Z → Cs → Prop) : dLst a en cs k = (a en cs fun zs cs1 => datL zs fun ds => ds.length ≤ LIM ∧ k (.d (.lst ds)) cs1) := nd rfl
theorem u_dLstC (a : DA) (en : En) (cs : Cs) (k : Z → Cs → Prop) : dLstC a en cs k = (a en cs fun zs cs1 => datL zs fun ds => ds.length ≤ LIM ∧ k (.c cs1.length) (cs1 ++ [.lst ds])) := nd rfl
theorem u_dCB (f : List D → (D → Prop) → Prop) (a : DA) (en : En) (cs : Cs) (k : Z → Cs → Prop) : dCB f a en cs k = (a en cs fun zs cs1 => withL cs1 zs fun ds => f ds fun z => k (.d z) cs1) := nd rfl
theorem u_dInK (neg : Bool) (a b : DE) (en : En) (cs : Cs) (k : Z → Cs → Prop) : dInK neg a b en cs k = (a en cs fun x cs1 => b en cs1 fun y cs2 => withD cs2 x fun dx => withD cs2 y fun dy =>
  match dy with
  | .dic kvs => keyD dx fun key => k (.d (.bl (if neg = true then !(getK kvs key).isSome else (getK kvs key).isSome))) cs2
  | _ => False) := nd rfl
theorem u_dGetK (a b : DE) (en : En) (cs : Cs) (k : Z → Cs → Prop) : dGetK a b en cs k = (a en cs fun x cs1 => b en cs1 fun y cs2 => withD cs2 x fun dx => withD cs2 y fun dy =>
  match dx with
  | .dic kvs => keyD dy fun key => match getK kvs key with
    | some d => k (.d d) cs2
    | none => False
  | _ => False) := nd rfl
theorem u_dDicC (b0 : En) (cs : Cs) (k : Z → Cs → Prop) : dDicC  b0 cs k = (k (.c cs.length) (cs ++ [.dic []])) := nd rfl
theorem u_dNoPart (b0 : En) (cs : Cs) (k : Option Int → Cs → Prop) : dNoPart  b0 cs k = (k none cs) := nd rfl
theorem u_dPart (a : DE) (en : En) (cs : Cs) (k : Option Int → Cs → Prop) : dPart a en cs k = (a en cs fun z cs1 => ∃ i, z = .d (.int i) ∧ k (some i) cs1) := nd rfl
theorem u_dSl (a : DE) (lo hi : DO) (en : En) (cs : Cs) (k : Z → Cs → Prop) : dSl a lo hi en cs k = (a en cs fun x cs1 => lo en cs1 fun l cs2 => hi en cs2 fun h cs3 => withD cs3 x fun dx => sliceD dx l h fun z => k (.d z) cs3) := nd rfl
theorem u_dBits (a : DE) (en : En) (cs : Cs) (k : Z → Cs → Prop) : dBits a en cs k = (a en cs fun z cs1 => ∃ i, z = .d (.int i) ∧ k (.d (.int (Builtin.Int.intBits i : Nat))) cs1) := nd rfl
theorem u_dgName (i : Nat) (z : Z) (en : En) (cs : Cs) (k : En → Cs → Prop) : dgName i z en cs k = (k (en.set i (some z)) cs) := nd rfl
theorem u_dgsNil (ds : List D) (en : En) (cs : Cs) (k : En → Cs → Prop) : dgsNil  ds en cs k = (ds = [] ∧ k en cs) := nd rfl
theorem u_dgsCons (g : DG) (r : DGs) (ds : List D) (en : En) (cs : Cs) (k : En → Cs → Prop) : dgsCons g r ds en cs k = (match ds with
  | d :: ds => g (.d d) en cs fun en1 cs1 => r ds en1 cs1 k
  | [] => False) := nd rfl
theorem u_dgTup (n : Nat) (g : DGs) (z : Z) (en : En) (cs : Cs) (k : En → Cs → Prop) : dgTup n g z en cs k = (match z with
  | .d (.tup ds) => ds.length = n ∧ g ds en cs k
  | _ => False) := nd rfl
theorem u_dgSet (o i : DE) (z : Z) (en : En) (cs : Cs) (k : En → Cs → Prop) : dgSet o i z en cs k = (o en cs fun x cs1 => i en cs1 fun y cs2 => match x, y, z with
  | .c n, .d (.int j), .d d => match cs2[n]? with
    | some (.lst ds) => ∃ m, ixN ds.length j = some m ∧ k en (cs2.set n (.lst (ds.set m d)))
    | _ => False
  | _, _, _ => False) := nd rfl
theorem u_diSeq (a : DE) (en : En) (cs : Cs) (k : List D → (Cs → Prop) → Cs → Prop) : diSeq a en cs k = (a en cs fun z cs1 => seqD cs1 z fun ds keep => k ds keep cs1) := nd rfl
theorem u_diR1 (a : DE) (en : En) (cs : Cs) (k : List D → (Cs → Prop) → Cs → Prop) : diR1 a en cs k = (a en cs fun z cs1 => ∃ j, z = .d (.int j) ∧ Rg j ∧ k (rgD 0 j.toNat) yes cs1) := nd rfl
theorem u_diEnum (a : DE) (en : En) (cs : Cs) (k : List D → (Cs → Prop) → Cs → Prop) : diEnum a en cs k = (a en cs fun z cs1 => match z with
  | .d (.tup _) => False
  | z => seqD cs1 z fun ds keep => k (enumD ds) keep cs1) := nd rfl
theorem u_dYes (b0 : En) (cs : Cs) (k : Bool → Cs → Prop) : dYes  b0 cs k = (k true cs) := nd rfl
theorem u_dNext (D0 : DEnds) (en : En) (cs : Cs) : dNext  D0 en cs = (D0.nx en cs) := nd rfl
theorem u_dSeq (t u : DS) (D0 : DEnds) (en : En) (cs : Cs) : dSeq t u D0 en cs = (t { D0 with nx := u D0 } en cs) := nd rfl
theorem u_dBreak (D0 : DEnds) (en : En) (cs : Cs) : dBreak  D0 en cs = (D0.bk en cs) := nd rfl
theorem u_dCont (D0 : DEnds) (en : En) (cs : Cs) : dCont  D0 en cs = (D0.ct en cs) := nd rfl
theorem u_dDrop (a : DE) (D0 : DEnds) (en : En) (cs : Cs) : dDrop a D0 en cs = (a en cs fun _ cs1 => D0.nx en cs1) := nd rfl
theorem u_dRet (a : DE) (D0 : DEnds) (en : En) (cs : Cs) : dRet a D0 en cs = (a en cs D0.rt) := nd rfl
theorem u_dRetN (D0 : DEnds) (b1 : En) (cs : Cs) : dRetN  D0 b1 cs = (D0.rt (.d .non) cs) := nd rfl
theorem u_dIfS (c : DT) (t u : DS) (D0 : DEnds) (en : En) (cs : Cs) : dIfS c t u D0 en cs = (c en cs fun b cs1 => if b = true then t D0 en cs1 else u D0 en cs1) := nd rfl
theorem u_dNever (b0 : DEnds) (b1 : En) (b2 : Cs) : dNever  b0 b1 b2 = (False) := nd rfl
theorem u_dAsg (a : DE) (g : DG) (D0 : DEnds) (en : En) (cs : Cs) : dAsg a g D0 en cs = (a en cs fun z cs1 => g z en cs1 D0.nx) := nd rfl
theorem u_dPar (i j : Nat) (a : DA) (D0 : DEnds) (en : En) (cs : Cs) : dPar i j a D0 en cs = (a en cs fun zs cs1 => match zs with
  | [z, w] => D0.nx ((en.set i (some z)).set j (some w)) cs1
  | _ => False) := nd rfl
theorem u_dPutK (a b c : DE) (D0 : DEnds) (en : En) (cs : Cs) : dPutK a b c D0 en cs = (c en cs fun z cs1 => a en cs1 fun x cs2 => b en cs2 fun y cs3 => match x, y, z with
  | .c n, .d dy, .d dz => (match cs3[n]? with
    | some (.dic kvs) => keyD dy fun key => kvs.length < LIM ∧ D0.nx en (cs3.set n (.dic (setK kvs key dz)))
    | _ => False)
  | _, _, _ => False) := nd rfl
theorem u_dAppend (o v : DE) (en : En) (cs : Cs) (k : Z → Cs → Prop) : dAppend o v en cs k = (o en cs fun x cs1 => match x with
  | .c n => (match cs1[n]? with
    | some (.lst _) => v en cs1 fun y cs2 => (match y with
      | .d d => (match cs2[n]? with
        | some (.lst ds) => ds.length < LIM ∧ k (.d .non) (cs2.set n (.lst (ds ++ [d])))
        | _ => False)
      | _ => False)
    | _ => False)
  | _ => False) := nd rfl
theorem u_dExtend (o v : DE) (en : En) (cs : Cs) (k : Z → Cs → Prop) : dExtend o v en cs k = (o en cs fun x cs1 => match x with
  | .c n => (match cs1[n]? with
    | some (.lst _) => v en cs1 fun y cs2 => withD cs2 y fun dy => (match dy with
      | .lst es => (match cs2[n]? with
        | some (.lst ds) => ds.length + es.length < LIM ∧ k (.d .non) (cs2.set n (.lst (ds ++ es)))
        | _ => False)
      | _ => False)
    | _ => False)
  | _ => False) := nd rfl
theorem u_dCall (sp : DSpec) (a : DA) (en : En) (cs : Cs) (k : Z → Cs → Prop) : dCall sp a en cs k = (a en cs fun zs cs1 => sp zs cs1 k) := nd rfl
theorem u_dRev (a : DE) (en : En) (cs : Cs) (k : Z → Cs → Prop) : dRev a en cs k = (a en cs fun x cs1 => withD cs1 x fun dx => revD dx fun z => k (.d z) cs1) := nd rfl
theorem u_dOpC (f : D → D → (List D → Prop) → Prop) (a b : DE) (en : En) (cs : Cs) (k : Z → Cs → Prop) : dOpC f a b en cs k = (a en cs fun x cs1 => b en cs1 fun y cs2 => withD cs2 x fun dx => withD cs2 y fun dy => f dx dy fun ds => k (.c cs2.length) (cs2 ++ [.lst ds])) := nd rfl
theorem u_dSlC (a : DE) (lo hi : DO) (en : En) (cs : Cs) (k : Z → Cs → Prop) : dSlC a lo hi en cs k = (a en cs fun x cs1 => lo en cs1 fun l cs2 => hi en cs2 fun h cs3 => withD cs3 x fun dx => ∃ ds, dx = .lst ds ∧ k (.c cs3.length) (cs3 ++ [.lst (cutG ds l h)])) := nd rfl
theorem u_dListC (a : DE) (en : En) (cs : Cs) (k : Z → Cs → Prop) : dListC a en cs k = (a en cs fun x cs1 => withD cs1 x fun dx => lstOfC dx fun ds => k (.c cs1.length) (cs1 ++ [.lst ds])) := nd rfl
theorem u_dFld (C : Addr) (f : Str) (o : DE) (en : En) (cs : Cs) (k : Z → Cs → Prop) : dFld C f o en cs k = (o en cs fun z cs1 => withD cs1 z fun d => match d with
  | .ob C' ns ds => C' = C ∧ ∃ x, (ns.zip ds).lookup f = some x ∧ k (.d x) cs1
  | _ => False) := nd rfl
theorem u_dMake (C : Addr) (sp : DSpec) (a : DA) (en : En) (cs : Cs) (k : Z → Cs → Prop) : dMake C sp a en cs k = (a en cs fun zs cs1 => sp (.c cs1.length :: zs) (cs1 ++ [.ob C [] []]) fun z cs2 => z = .d .non ∧ ∃ ns ds, cs2[cs1.length]? = some (.ob C ns ds) ∧ (k (.d (.ob C ns ds)) (cs2.take cs1.length) ∨ k (.c cs1.length) cs2)) := nd rfl
theorem u_dMeth (C : Addr) (m : Str) (sp : DSpec) (o : DE) (a : DA) (en : En) (cs : Cs) (k : Z → Cs → Prop) : dMeth C m sp o a en cs k = (o en cs fun z cs1 => withD cs1 z fun d => match d with
  | .ob C' ns ds => C' = C ∧ (ns.zip ds).lookup m = none ∧ a en cs1 fun zs cs2 => sp (z :: zs) cs2 k
  | _ => False) := nd rfl
theorem u_dProp (C : Addr) (sp : DSpec) (o : DE) (en : En) (cs : Cs) (k : Z → Cs → Prop) : dProp C sp o en cs k = (o en cs fun z cs1 => withD cs1 z fun d => match d with
  | .ob C' _ _ => C' = C ∧ sp [z] cs1 k
  | _ => False) := nd rfl
theorem u_dIsiO (C : Addr) (Ks : List Addr) (a : DE) (en : En) (cs : Cs) (k : Z → Cs → Prop) : dIsiO C Ks a en cs k = (a en cs fun z cs1 => withD cs1 z fun d => isiO C Ks d fun q => k (.d (.bl q)) cs1) := nd rfl
theorem u_dOwn (C : Addr) (sp : DSpec) (a b : DE) (en : En) (cs : Cs) (k : Z → Cs → Prop) : dOwn C sp a b en cs k = (a en cs fun x cs1 => b en cs1 fun y cs2 => withD cs2 x fun dx => withD cs2 y fun dy => isC C dx ∧ isC C dy ∧ sp [x, y] cs2 k) := nd rfl
theorem u_dOwnE (C : Addr) (neg : Bool) (sp : DSpec) (a b : DE) (en : En) (cs : Cs) (k : Z → Cs → Prop) : dOwnE C neg sp a b en cs k = (a en cs fun x cs1 => b en cs1 fun y cs2 => withD cs2 x fun dx => withD cs2 y fun dy => isC C dx ∧ rgt C dy ∧ sp [x, y] cs2 fun z cs3 => ∃ q, z = .d (.bl q) ∧ k (.d (.bl (if neg = true then !q else q))) cs3) := nd rfl
theorem u_dCallI (C : Addr) (sp : DSpec) (o : DE) (a : DA) (en : En) (cs : Cs) (k : Z → Cs → Prop) : dCallI C sp o a en cs k = (o en cs fun z cs1 => withD cs1 z fun d => isC C d ∧ a en cs1 fun zs cs2 => withD cs2 z fun d => isC C d ∧ sp (z :: zs) cs2 k) := nd rfl
theorem u_dSortSet (a : DE) (en : En) (cs : Cs) (k : Z → Cs → Prop) : dSortSet a en cs k = (a en cs fun z cs1 => withD cs1 z fun d => ∃ ns : List Int, d = .lst (ns.map D.int) ∧ ns.length ≤ 4000 ∧ ∀ out : List Int, out.Pairwise (· < ·) → (∀ j, j ∈ out ↔ j ∈ ns) → k (.d (.lst (out.map D.int))) cs1) := nd rfl
theorem u_dFrz (i : Nat) (t : DS) (E : DEnds) (en : En) (cs : Cs) : dFrz i t E en cs = (match en[i]? with
  | some (some (.c n)) => withD cs (.c n) fun d => frzOk d = true ∧ ∀ b, t E (en.set i (some (.d d))) (cs.set n (.obj b))
  | some (some (.d _)) => t E en cs
  | _ => False) := nd rfl
theorem u_diZip (a b : DE) (en : En) (cs : Cs) (k : List D → (Cs → Prop) → Cs → Prop) : diZip a b en cs k = (a en cs fun x cs1 => b en cs1 fun y cs2 => match x, y with
  | .d (.lst ds), .d (.lst es) => k (zipD ds es) yes cs2
  | .d (.tup ds), .d (.tup es) => k (zipD ds es) yes cs2
  | _, _ => False) := nd rfl
theorem u_diEnumU (a : DE) (en : En) (cs : Cs) (k : List D → (Cs → Prop) → Cs → Prop) : diEnumU a en cs k = (a en cs fun z cs1 => match z with
  | .d (.tup ds) => k (enumD ds) yes cs1
  | z => seqD cs1 z fun ds keep => k (enumD ds) keep cs1) := nd rfl
end DL
set_option maxHeartbeats 2000000
set_option autoImplicit false
namespace DL
open PySem L2
section
variable {X : Cx} {pos : Pos}
def dPar3 (i j l : Nat) (a : DA) : DS := fun D en cs => a en cs fun zs cs1 => match zs with
  | [z, w, y] => D.nx (((en.set i (some z)).set j (some w)).set l (some y)) cs1
  | _ => False
theorem u_dPar3 (i j l : Nat) (a : DA) (D0 : DEnds) (en : En) (cs : Cs) : dPar3 i j l a D0 en cs = (a en cs fun zs cs1 => match zs with
  | [z, w, y] => D0.nx (((en.set i (some z)).set j (some w)).set l (some y)) cs1
  | _ => False) := nd rfl
end
end DL
set_option maxHeartbeats 2000000
set_option autoImplicit false
namespace DL
open PySem PySem.Spec PyProof.Rows L2
open PySem.W (dataLt dataLt_ii AlikeAll min_list_data alike_unique readsAll_at reads_keeps)
end DL
set_option maxHeartbeats 4000000
set_option autoImplicit false
namespace DL
open PySem PySem.Spec PyProof.Rows L2
section
variable {X : Cx}
end
section
variable {X : Cx} {a : Expr} {ta : TE} {da : DE} {p p2 q pos : Pos}
end
end DL
set_option maxHeartbeats 4000000
set_option autoImplicit false
namespace DL
open PySem PySem.Spec PyProof.Rows L2
section
variable {X : Cx} {a b : Expr} {ta tb : TE} {da db : DE} {p p2 q pos : Pos}
end
end DL
set_option maxHeartbeats 4000000
set_option autoImplicit false
namespace DL
open PySem PySem.Spec PyProof.Rows L2
section
variable {X : Cx} {pos : Pos}
end
end DL
set_option maxHeartbeats 4000000
set_option autoImplicit false
namespace DL
open PySem PySem.Spec PyProof.Rows L2
section
variable {X : Cx}
end
end DL
set_option maxHeartbeats 4000000
set_option autoImplicit false
namespace DL
open PySem PySem.Spec PyProof.Rows L2
section
variable {prog : Program} {w : World} {A : Around}
end
end DL
set_option maxHeartbeats 4000000
set_option autoImplicit false
namespace DL
open PySem PySem.Spec PyProof.Rows L2
section
variable {X : Cx} {pos : Pos} {k : Nat} {f C : Addr} {fd : FuncData} {ps : List Str} {sp : DSpec} {a b : Expr} {ta tb : TE} {da db : DE}
end
end DL
set_option maxHeartbeats 4000000
set_option autoImplicit false
namespace DL
open PySem PySem.SeqAt GQ
open AutoSeq1 (wpAny_loadPart')
open MeetsSeq MeetsSeq2 MeetsSeq3 SeqRoads2
section
variable {prog : Program} {w : World} {A : Around} {R : Result → Shared → Prop}
end
section
variable {prog : Program} {w : World} {A : Around} {E : Value → Shared → Prop} {s : Shared}
end
end DL
set_option maxHeartbeats 4000000
set_option autoImplicit false
namespace DL
open PySem PySem.Spec PyProof.Rows L2
section
variable {X : Cx} {pos : Pos} {k : Nat} {f C : Addr} {fd : FuncData} {ps : List Str} {sp : DSpec} {a b : Expr} {ta tb : TE} {da db : DE}
end
end DL
set_option maxHeartbeats 2000000
namespace DL
open PySem PySem.Spec PyProof.Rows L2 PySem.W PySem.SeqAt MeetsSeq AutoSeq1
section
variable {prog : Program} {w : World} {A : Around} {E : Value → Shared → Prop} {s : Shared} {K : Frag} {x C L f : Addr} {h₀ : Heap} {m : Str → Option Value} {ox : Obj} {od : Option Obj} {b tb : Value}
end
end DL
namespace DL
open PySem PySem.Spec PyProof.Rows L2 PySem.SeqAt
section
variable {X : Cx} {pos : Pos} {k k1 k2 : Nat} {f f1 f2 C C1 C2 : Addr} {fd fd1 fd2 : FuncData} {ps ps1 ps2 : List Str} {sp sp1 sp2 : DSpec} {a b e : Expr} {ta tb te : TE} {da db de : DE}
end
end DL
set_option maxHeartbeats 2000000
set_option autoImplicit false
namespace DL
open PySem PySem.Spec PyProof.Rows L2
abbrev Caps := List (Nat × D)
def CapOk (K : PySem.W.Frag) (S : Hp) (caps : Caps) : Prop := ∀ p ∈ caps, Is K S p.2 (.ref p.1)
theorem CapOk.mono {K : PySem.W.Frag} {S T : Hp} (e : Sub S T) {caps : Caps} (h : CapOk K S caps) : CapOk K T caps := fun p hp => Is.mono e _ _ (h p hp)
def spL (K : PySem.W.Frag) (caps : Caps) (sp : DSpec) (vs : List V) (H : Hp) (Q : VK) : Prop :=
  ∃ (S : Hp) (as : List Addr) (zs : List Z) (cs : Cs) (k : Z → Cs → Prop), Rep K S H as cs ∧ VZL K S as zs vs ∧ CapOk K S caps ∧ sp zs cs k ∧ PQ K S as k Q
structure FnL (P : Program) (w : World) (K : PySem.W.Frag) (mg : Str → Option Value) (base : Heap) (k : Nat) (f : Addr) (n : Nat) (caps : Caps) (sp : DSpec) : Prop where
  len : ∀ zs cs q, sp zs cs q → zs.length = n
  at_ : PySem.W.FnAt f base
  run : ∀ (A : Around) (outer : List Env) (s : Shared) (H : Hp) (us : List Value) (vs : List V) (Q : VK), Room k A → A.guards = some [] → Env0 P w K mg base A outer s H → Vals vs us → spL K caps sp vs H Q →
    codeAny (model P w) A (.call (.ref f) ⟨us, []⟩) (CR CX0 outer P w H s Q E0) s
section
variable {P : Program} {w : World} {K : PySem.W.Frag} {mg : Str → Option Value} {base : Heap} {k n : Nat} {f : Addr} {caps : Caps} {sp : DSpec}
theorem FnL.mono {j : Nat} (F : FnL P w K mg base j f n caps sp) (h : j ≤ k) : FnL P w K mg base k f n caps sp :=
  ⟨F.len, F.at_, fun A outer s H us vs Q hr => F.run A outer s H us vs Q (hr.mono h)⟩
end
section
variable {X : Cx} {k i n : Nat} {f : Addr} {caps : Caps} {sp : DSpec} {x : Str} {p pos : Pos} {e : Expr} {es : List Expr} {ta : TA} {da : DA}
end
structure LamAt (base : Heap) (f : Addr) (F : NdefX.NF) (bd : Expr) (fr : List Str) (xs : List Nat) : Prop where
  obj : ∃ pm ctv : Value, base.get? f = some (PySem.W.kla_obj "<lambda>" F.qual F.params bd F.scope F.cl pm F.c ctv)
  len : xs.length = fr.length
  all : ∀ y c, F.cl.lookup y = some c → ∃ v, base.IsCell c v
  inj : ∀ x y c, F.cl.lookup x = some c → F.cl.lookup y = some c → x = y
  has : ∀ (i : Nat) (y : Str), fr[i]? = some y → ∃ c, F.cl.lookup y = some c ∧ ∀ x, xs[i]? = some x → base.IsCell c (some (.ref x))
end DL
set_option maxHeartbeats 2000000
set_option autoImplicit false
namespace DL
open PySem PySem.Spec PyProof.Rows L2
section
variable {X : Cx} {pins : List (Addr × Obj)} {σ : L2.St} {H : Hp} {s : Shared}
end
structure PAc (X : Cx) (es : List Expr) (t : TA) : Prop where
  run : ∀ (pos : Pos) (pins : List (Addr × Obj)) (s : Shared) (σ : L2.St) (H : Hp) (Q : List V → Hp → Prop) (rest : List (Bool × Sem Value)) (R : List Value → Shared → Prop), Inv X pins σ H s → t σ H Q →
    (∀ (us : List Value) (vs : List V) (s' : Shared) (H' : Hp), Inv X pins σ H' s' → Vals vs us → Q vs H' → wpAny (model X.prog X.w) X.A (spliced rest) (fun ws s'' => R (us ++ ws) s'') X.xe s') →
    wpAny (model X.prog X.w) X.A (spliced (backTo pos (starEach es X.env) ++ rest)) R X.xe s
structure QAc (X : Cx) (es : List Expr) (ta : TA) (t : DA) : Prop where
  pa : PAc X es ta
  sem : SemA X.K ta t
section
variable {X : Cx}
end
end DL
set_option maxHeartbeats 2000000
set_option autoImplicit false
namespace DL
open PySem PySem.Spec PyProof.Rows L2
abbrev lamQ (qual : Str) : Str := qual ++ ".<locals>." ++ "<lambda>"
structure LamK (K : PySem.W.Frag) (mg : Str → Option Value) (qual : Str) : Prop where
  tab : ∀ cdv : Value, PySem.W.codeIn K cdv qual = true → ∃ c : Addr, cdv = .ref c ∧ (tabP K cdv, lamQ qual) ∈ tabsK K ∧ ∀ base : Heap, K.In base → base.Ns mainGlobals mg → LamX.TabB base mg c (tabP K cdv)
  one : ∀ p ∈ tabsK K, ∀ r ∈ tabsK K, p.1 = r.1 → p.2 = r.2
section
variable {X : Cx} {pins : List (Addr × Obj)} {σ : L2.St} {H : Hp} {s : Shared}
end
section
variable {X : Cx} {name qual : Str} {ps fr : List Str} {k : Nat} {e : Expr} {es es1 es2 : List Expr} {params : Arguments} {bd : Expr} {scope : Scope} {lpos p pos : Pos} {t1 t2 : TA} {a1 a2 : DA} {js : List Nat} {spg : Addr → Caps → DSpec}
end
end DL
set_option maxHeartbeats 2000000
set_option autoImplicit false
namespace DL
open PySem PySem.Spec PyProof.Rows L2
namespace Hk
theorem isNo_eq {v : Value} (h : isNo v = true) : v = .none := by
  cases v <;> first | rfl | cases h
theorem FnC.fun_ {K : FrK} {d : FnC} (e : d.seen K = d.due) (g : d.good K = true) : ∃ fd, Fun K d.name d.qual d.st (d.adr K) fd := by
  obtain ⟨kp, g2⟩ := Bool.and_eq_true_iff.mp g
  unfold FnC.seen at e
  cases q : fdA K (d.adr K) with
  | none =>
    rw [q] at g2
    cases g2
  | some fd =>
    rw [q] at g2 e
    obtain ⟨g3, g4⟩ := Bool.and_eq_true_iff.mp g2
    have g5 := isNo_eq g4
    have e2 : seeF fd = ((d.name, d.qual), (defArgs d.st, .stmts (defBody d.st)), (defScope d.st, mainGlobals), [], builtinsNs) := Option.some.inj e
    unfold fdA at q
    obtain ⟨o, q1, q2⟩ := Option.bind_eq_some_iff.mp q
    obtain ⟨oc, od, dt, osl⟩ := o
    cases dt with
    | func fd2 =>
      cases q2
      obtain ⟨m1, m2, m3, m4, m5, m6, m7, m8, m9, m10, m11, m12, m13, m14, m15⟩ := fd
      simp only [seeF, Prod.mk.injEq] at e2
      obtain ⟨⟨rfl, rfl⟩, ⟨rfl, rfl⟩, ⟨rfl, rfl⟩, rfl, rfl⟩ := e2
      have g5 : m8 = .none := g5
      subst g5
      exact ⟨_, fun_mk q1 g3 kp⟩
    | _ => cases q2
section
variable {fa : List He.Fa} {ck : List (FrK → Bool)} {fn : List FnC} {K : FrK}
theorem SaysC.all (c : SaysC fa ck fn K) : (fa.all fun f => f.ok K) = true ∧ (ck.all fun c => c K) = true ∧ (fn.all fun d => d.good K) = true := by
  have h := congrArg (fun z : ObC => z.1) c
  obtain ⟨h1, h2⟩ := Bool.and_eq_true_iff.mp (show ((fa.all fun f => f.ok K) && ((ck.all fun c => c K) && fn.all fun d => d.good K)) = true from h)
  obtain ⟨h3, h4⟩ := Bool.and_eq_true_iff.mp h2
  exact ⟨h1, h3, h4⟩
theorem SaysC.fact (c : SaysC fa ck fn K) (i : Nat) {f : He.Fa} (h : fa[i]? = some f := by rfl) : f.ok K = true := List.all_eq_true.mp c.all.1 f (List.mem_of_getElem? h)
theorem SaysC.chk (c : SaysC fa ck fn K) (i : Nat) {f : FrK → Bool} (h : ck[i]? = some f := by rfl) : f K = true := List.all_eq_true.mp c.all.2.1 f (List.mem_of_getElem? h)
theorem SaysC.def_ (c : SaysC fa ck fn K) (i : Nat) {d : FnC} (h : fn[i]? = some d := by rfl) : ∃ fd, Fun K d.name d.qual d.st (d.adr K) fd := by
  have e : fn.map (fun d => d.seen K) = fn.map FnC.due := congrArg (fun z : ObC => z.2) c
  have e2 : (fn.map fun d => d.seen K)[i]? = (fn.map FnC.due)[i]? := by rw [e]
  rw [List.getElem?_map, List.getElem?_map, h] at e2
  exact FnC.fun_ (Option.some.inj e2) (List.all_eq_true.mp c.all.2.2 d (List.mem_of_getElem? h))
end
section
variable {K : FrK} {h : Heap} {mg : Str → Option Value} {st : Stmt} {ps : List Str} {x m name qual : Str} {fd : FuncData}
theorem defT (X : K.In h) (G : h.Ns mainGlobals mg) (g : (He.Fa.glo name).ok K = true) (F : Fun K name name st (He.ga K name) fd)
    (hb : ∀ (kV doc pm : Value) (an : Option Addr) (cdv ct : Value) (us : List Value), us.length = ps.length → bindArgs (PySem.W.fnOf name name (defArgs st) (defBody st) (defScope st) .none kV doc pm an cdv ct) ⟨us, []⟩ = pure (ps.zip us)) : DefT K mg name st ps :=
  ⟨_, _, F, He.glo_ok X G g, F.binds hb⟩
theorem methT (g : methC x m K = true) (F : Fun K m qual st (mA x m K) fd)
    (hb : ∀ (kV doc pm : Value) (an : Option Addr) (cdv ct : Value) (us : List Value), us.length = ps.length → bindArgs (PySem.W.fnOf m qual (defArgs st) (defBody st) (defScope st) .none kV doc pm an cdv ct) ⟨us, []⟩ = pure (ps.zip us)) : MethT K (He.ga K x) m qual st ps := by
  obtain ⟨g1, g2⟩ := Bool.and_eq_true_iff.mp g
  exact ⟨_, _, F, He.meth_ok g1, g2, F.binds hb⟩
end
end Hk
theorem walk_H {l : PySem.W.OpenLaw} {n k : Nat} {q : Program} {loose : List Str} {XP : (Str → Option Value) → Heap → Prop} {YP : World → Heap → Prop} {d : DefRec} {sp : DSpec} {x : Str}
    (hn : l.most = some n) (hn2 : n ≤ sizeLine) (hdf : d.params.defaults = []) (hr : Room k callerA)
    (F : ∀ (w : World) (h : Heap), YP w h → ∃ K : PySem.W.Frag, K.In h ∧ TabsOk h K ∧ ∀ mg : Str → Option Value, h.Ns mainGlobals mg →
      ∀ base : Heap, K.In base → base.Ns mainGlobals mg → Got l.prog w K mg base d.name k [x] sp)
    (hsp : ∀ ns : List Int, ns.length ≤ n → sp [.d (.scr ns)] [] fun z _ => z = .d (.bl true)) :
    PySem.W.WalkO q loose XP YP l.row.toRowW d [] (fun f vs => PySem.call f vs) := by
  refine Att.attach_call hn hdf fun w s0 s1 mg mb fa o pm cd doc a vs ns G Y ho hd hcd hmg hobj hints hlen hg => ?_
  obtain ⟨K, KX, TK, FK⟩ := F w _ Y
  exact law_callG KX G.T.g G.T.b G.T.builtins G.T.nolimit hg TK hobj hints (Nat.le_trans hlen hn2) hr hmg (FK mg G.T.g) (hsp ns hlen)
end DL
set_option maxHeartbeats 2000000
set_option autoImplicit false
namespace DL
open PySem PySem.Spec PyProof.Rows L2

abbrev Flds := List (Str × D)
abbrev DW := Addr → Flds → En → Cs → Prop
abbrev DX := Addr → Flds → Cs → Prop
abbrev XSpec := List Z → Cs → (Z → Cs → Prop) → DX → Prop
def IsF (K : PySem.W.Frag) (S : Hp) : Flds → List (Str × V) → Prop
  | [], l => l = []
  | p :: r, l => ∃ v l', l = (p.1, v) :: l' ∧ Is K S p.2 v ∧ IsF K S r l'
def XdOk (K : PySem.W.Frag) (S : Hp) (d : Option Addr) (fs : Flds) : Prop := match d with
  | none => fs = []
  | some dx => fs ≠ [] ∧ ∃ kvs, S dx = some (.xd kvs) ∧ IsF K S fs kvs
def WOk (K : PySem.W.Frag) (S : Hp) (as : List Addr) (w : DW) (W : WX) : Prop :=
  ∀ (C : Addr) (fs : Flds) (d : Option Addr) (σ' : L2.St) (S' H' : Hp) (as' : List Addr) (en' : En) (cs' : Cs), Ext S as S' as' → Rep K S' H' as' cs' → EnvOk K S' as' en' σ' → XdOk K S' d fs → w C fs en' cs' → W (.ref C) d σ' H'
def XOk (K : PySem.W.Frag) (S : Hp) (as : List Addr) (x : DX) (E : XK) : Prop :=
  ∀ (C : Addr) (fs : Flds) (d : Option Addr) (S' H' : Hp) (as' : List Addr) (cs' : Cs), Ext S as S' as' → Rep K S' H' as' cs' → XdOk K S' d fs → x C fs cs' → E (.ref C) d H'
theorem WOk.mono {K : PySem.W.Frag} {S T : Hp} {as bs : List Addr} {w : DW} {W : WX} (e : Ext S as T bs) (h : WOk K S as w W) : WOk K T bs w W := fun C fs d σ' S' H' as' en' cs' e' => h C fs d σ' S' H' as' en' cs' (e.trans e')
theorem XOk.mono {K : PySem.W.Frag} {S T : Hp} {as bs : List Addr} {x : DX} {E : XK} (e : Ext S as T bs) (h : XOk K S as x E) : XOk K T bs x E := fun C fs d S' H' as' cs' e' => h C fs d S' H' as' cs' (e.trans e')

section
variable {X : Cx} {pn pins : List (Addr × Obj)} {xe : Value → Shared → Prop} {σ : L2.St} {H : Hp} {s : Shared}
end

def SemX (K : PySem.W.Frag) (W : WX) (ts : TS) (db : DW → DS) : Prop :=
  ∀ (w : DW) (σ : L2.St) (H S : Hp) (as : List Addr) (en : En) (cs : Cs) (D : DEnds) (E : Ends), Rep K S H as cs → EnvOk K S as en σ → db w D en cs → EnK K S as D E → WOk K S as w W → ts E σ H
def QX (X : Cx) (st : List Stmt) (db : DW → DS) : Prop := ∀ (W : WX) (pn : List (Addr × Obj)) (xe : Value → Shared → Prop), L2N.Takes (X.tr pn xe) W → PassesOwn (model X.prog X.w) X.A X.env xe → ∃ ts : TS, PSs (X.tr pn xe) st ts ∧ SemX X.K W ts db
section
variable {X : Cx} {pos : Pos} {st : Stmt} {rest : List Stmt} {d u : DW → DS}
def dDropX (de : DW → DE) : DW → DS := fun w D en cs => de w en cs fun _ cs1 => D.nx en cs1
def dAsgX (de : DW → DE) (g : DG) : DW → DS := fun w D en cs => de w en cs fun z cs1 => g z en cs1 D.nx
def dRetX (de : DW → DE) : DW → DS := fun w D en cs => de w en cs D.rt
def dRaise (C : Addr) : DW → DS := fun w _ en cs => w C [] en cs
end

def spDX (K : PySem.W.Frag) (sp : XSpec) (vs : List V) (H : Hp) (Q : VK) (E : XK) : Prop :=
  ∃ (S : Hp) (as : List Addr) (zs : List Z) (cs : Cs) (k : Z → Cs → Prop) (x : DX), Rep K S H as cs ∧ VZL K S as zs vs ∧ sp zs cs k x ∧ PQ K S as k Q ∧ XOk K S as x E
structure FnDX (P : Program) (w : World) (K : PySem.W.Frag) (mg : Str → Option Value) (base : Heap) (k : Nat) (f : Addr) (fd : FuncData) (ps : List Str) (sp : XSpec) : Prop where
  len : ∀ zs cs q x, sp zs cs q x → zs.length = ps.length
  run : ∀ (A : Around) (outer : List Env) (s : Shared) (H : Hp) (us : List Value) (vs : List V) (Q : VK) (E : XK), Room k A → A.guards = some [] → Env0 P w K mg base A outer s H → BindsTo s fd ⟨us, []⟩ (ps.zip us) → Vals vs us → spDX K sp vs H Q E →
    codeAny (model P w) A (.call (.ref f) ⟨us, []⟩) (CR (L2N.CX P w) outer P w H s Q E) s
section
variable {P : Program} {w : World} {K : PySem.W.Frag} {mg : Str → Option Value} {base : Heap} {k : Nat} {f : Addr} {fd : FuncData} {ps : List Str}
theorem FnDX.mono {j : Nat} {sp : XSpec} (F : FnDX P w K mg base j f fd ps sp) (h : j ≤ k) : FnDX P w K mg base k f fd ps sp :=
  ⟨F.len, fun A outer s H us vs Q E hr => F.run A outer s H us vs Q E (hr.mono h)⟩
theorem FnDX.or {sp sp' : XSpec} (F : FnDX P w K mg base k f fd ps sp) (G : FnDX P w K mg base k f fd ps sp') : FnDX P w K mg base k f fd ps (fun zs cs q x => sp zs cs q x ∨ sp' zs cs q x) :=
  ⟨fun zs cs q x h => h.elim (F.len zs cs q x) (G.len zs cs q x), fun A outer s H us vs Q E hr hg e0 hb hv ⟨S, as, zs, cs, q, x, a1, a2, a3, a4, a5⟩ => a3.elim
    (fun a3 => F.run A outer s H us vs Q E hr hg e0 hb hv ⟨S, as, zs, cs, q, x, a1, a2, a3, a4, a5⟩) fun a3 => G.run A outer s H us vs Q E hr hg e0 hb hv ⟨S, as, zs, cs, q, x, a1, a2, a3, a4, a5⟩⟩
theorem FnDX.imp {sp sp' : XSpec} (F : FnDX P w K mg base k f fd ps sp) (h : ∀ zs cs q x, sp' zs cs q x → sp zs cs q x) : FnDX P w K mg base k f fd ps sp' :=
  ⟨fun zs cs q x h' => F.len zs cs q x (h _ _ _ _ h'), fun A outer s H us vs Q E hr hg e0 hb hv ⟨S, as, zs, cs, q, x, a1, a2, a3, a4, a5⟩ => F.run A outer s H us vs Q E hr hg e0 hb hv ⟨S, as, zs, cs, q, x, a1, a2, h _ _ _ _ a3, a4, a5⟩⟩
theorem FnD.x {sp : DSpec} (F : FnD P w K mg base k f fd ps sp) : FnDX P w K mg base k f fd ps (fun zs cs q _ => sp zs cs q) :=
  ⟨fun zs cs q _ h => F.len zs cs q h, fun A outer s H us vs Q E hr hg e0 hb hv ⟨S, as, zs, cs, q, x, a1, a2, a3, a4, a5⟩ =>
    codeAny_mono (F.run A outer s H ⟨us, []⟩ us vs Q hr hg e0 hb hv ⟨S, as, zs, cs, q, a1, a2, a3, a4⟩) fun r s' h => by
      cases r with
      | error e => exact False.elim h
      | ok fl =>
        cases fl with
        | ret u => exact h
        | next => exact h
        | brk => exact h
        | cont => exact h⟩
abbrev endX (n : Nat) (q : Z → Cs → Prop) : DEnds := ⟨fun _ c => q (.d .non) (c.take n), FinZ n q, fun _ _ => False, fun _ _ => False⟩
abbrev outX (n : Nat) (x : DX) : DW := fun C fs _ cs => x C fs (cs.take n)
theorem fn_DX {x qual : Str} {st : Stmt} {N : List Str} {sp : XSpec} (F : Fun K x qual st f fd) (S : FnScope N ps (defScope st)) (len : ∀ zs cs q x, sp zs cs q x → zs.length = ps.length) (t : DW → DS)
    (der : ∀ (cdv : Value) (A : Around) (outer : List Env) (s : Shared) (H : Hp) (E : XK), Room k (A.deeper (envOfC qual (defScope st) s.heap.objs.size f cdv)) → (A.deeper (envOfC qual (defScope st) s.heap.objs.size f cdv)).guards = some [] →
      QX (cxOf (L2N.CX P w) P w K mg base N qual (defScope st) f cdv A outer s H E) (defBody st) t)
    (rd : ∀ zs cs q x, sp zs cs q x → t (outX cs.length x) (endX cs.length q) (startD N zs) cs) : FnDX P w K mg base (k + 1) f fd ps sp := by
  obtain ⟨oc, od, kV, doc, pm, an, cdv, ct, osl, rfl, lk, hcd⟩ := F.ex
  refine ⟨len, fun A outer s H us vs Q E hr hgd e0 hb r hsp => ?_⟩
  obtain ⟨T, as, zs, cs, q, x, rep, vz, hz, pq, px⟩ := hsp
  have hl : vs.length = ps.length := vz.len.trans (len _ _ _ _ hz)
  have KX : K.In s.heap := e0.mod.kin.keeps fun b o e => (e0.bs b o e).1
  have lim : s.heap.NoLimit := e0.mod.nolimit.keeps fun b o e => (e0.bs b o e).1
  refine codeAny_call_function hr.depth (KX _ _ lk) rfl S.co S.gen rfl (PySem.W.codeRec_of KX hcd) (hb _ _ _ _ ?_)
  refine wpAny_newFunctionEnv_cells S.kind (fun ⟨n, v⟩ hy => (S.par n (List.of_mem_zip hy).1).imp (fun h => h) fun h => ⟨h, PySem.W.cellsFrom_some _ _ _ (.inl h)⟩) fun env he s1 x1 => ?_
  subst he
  refine ⟨lim.keeps x1.toInCall.keep, codeAny_func ?_⟩
  obtain ⟨ts, pss, sem⟩ := der cdv A outer s H E (hr.deeper _) hgd (fun cls d _ H => E cls d H) [] (cxOf (L2N.CX P w) P w K mg base N qual (defScope st) f cdv A outer s H E).xe (L2N.takes_of rfl rfl rfl rfl) (passes_of rfl)
  have I : Inv (cxOf (L2N.CX P w) P w K mg base N qual (defScope st) f cdv A outer s H E) [] (L2.start N vs) H s1 := inv_start S hr.hd e0 hl r x1
  have body : ts { nx := fun _ H' => Q .non H', rt := Q } (L2.start N vs) H := by
    refine sem _ (L2.start N vs) H T as (startD N zs) cs _ _ rep (env_start vz) (rd zs cs q x hz) ⟨fun σ' S' H' as' en' cs' e' r' ev' q' => ?_, ?_, fun _ _ _ _ _ _ _ _ _ h => h, fun _ _ _ _ _ _ _ _ _ h => h⟩ fun C fs d σ' S' H' as' en' cs' e' r' ev' xd q' => ?_
    · rw [← rep.len] at q'
      exact pq (.d .non) .non S' H' _ _ e'.take (r'.take as.length) rfl q'
    · rw [← rep.len]
      exact fin_pq pq
    · have q' : x C fs (cs'.take cs.length) := q'
      rw [← rep.len] at q'
      exact px C fs d S' H' _ _ e'.take (r'.take as.length) xd q'
  refine wpAny_mono (pss.run [] s1 (L2.start N vs) H _ I body) (fun fl s' hs => ?_) fun e s' hs => hs
  cases fl with
  | ret u =>
    obtain ⟨v, σ', H', J, rv, q⟩ := hs
    exact ⟨v, H', J.os, J.bare, J.base, J.hok, rv, q⟩
  | next =>
    obtain ⟨σ', H', J, q⟩ := hs
    exact ⟨.non, H', J.os, J.bare, J.base, J.hok, rfl, q⟩
  | brk => exact hs.elim fun _ h => h.elim fun _ h => h.2.elim
  | cont => exact hs.elim fun _ h => h.elim fun _ h => h.2.elim
end
def GotX (P : Program) (w : World) (K : PySem.W.Frag) (mg : Str → Option Value) (base : Heap) (name : Str) (k : Nat) (ps : List Str) (sp : XSpec) : Prop :=
  ∃ (f : Addr) (fd : FuncData), mg name = some (.ref f) ∧ PySem.W.keepIn K (.ref f) = true ∧ L2.Binds K fd ps [] ∧ FnDX P w K mg base k f fd ps sp
section
variable {P : Program} {w : World} {K : PySem.W.Frag} {mg : Str → Option Value} {base : Heap} {name : Str} {k : Nat} {ps : List Str}
theorem GotX.mono {j : Nat} {sp : XSpec} (G : GotX P w K mg base name j ps sp) (h : j ≤ k) : GotX P w K mg base name k ps sp :=
  let ⟨f, fd, a, b, c, d⟩ := G
  ⟨f, fd, a, b, c, d.mono h⟩
theorem GotX.imp {sp sp' : XSpec} (G : GotX P w K mg base name k ps sp) (h : ∀ zs cs q x, sp' zs cs q x → sp zs cs q x) : GotX P w K mg base name k ps sp' :=
  let ⟨f, fd, a, b, c, d⟩ := G
  ⟨f, fd, a, b, c, d.imp h⟩
theorem Got.x {sp : DSpec} (G : Got P w K mg base name k ps sp) : GotX P w K mg base name k ps (fun zs cs q _ => sp zs cs q) :=
  let ⟨f, fd, a, b, c, d⟩ := G
  ⟨f, fd, a, b, c, d.x⟩
theorem GotX.mk {st : Stmt} {N : List Str} {sp : XSpec} (T : DefT K mg name st ps) (S : FnScope N ps (defScope st)) (len : ∀ zs cs q x, sp zs cs q x → zs.length = ps.length) (t : DW → DS)
    (der : ∀ (f : Addr) (cdv : Value) (A : Around) (outer : List Env) (s : Shared) (H : Hp) (E : XK), Room k (A.deeper (envOfC name (defScope st) s.heap.objs.size f cdv)) → (A.deeper (envOfC name (defScope st) s.heap.objs.size f cdv)).guards = some [] →
      QX (cxOf (L2N.CX P w) P w K mg base N name (defScope st) f cdv A outer s H E) (defBody st) t)
    (rd : ∀ zs cs q x, sp zs cs q x → t (outX cs.length x) (endX cs.length q) (startD N zs) cs) : GotX P w K mg base name (k + 1) ps sp := by
  obtain ⟨f, fd, F, g, b⟩ := T
  exact ⟨f, fd, g, F.kp, b, fn_DX F S len t (der f) rd⟩
theorem GotX.or {sp : DSpec} {sp' : XSpec} (G : Got P w K mg base name k ps sp) (G' : GotX P w K mg base name k ps sp') : GotX P w K mg base name k ps (fun zs cs q x => sp zs cs q ∨ sp' zs cs q x) := by
  obtain ⟨f, fd, a, b, c, d⟩ := G
  obtain ⟨f', fd', a', b', c', d'⟩ := G'
  rw [a] at a'
  have e : f = f' := Value.ref.inj (Option.some.inj a')
  subst e
  exact ⟨f, fd, a, b, c, ⟨fun zs cs q x h => h.elim (d.len zs cs q) (d'.len zs cs q x), fun A outer s H us vs Q E hr hg e0 hb hv ⟨S, as, zs, cs, q, x, a1, a2, a3, a4, a5⟩ => a3.elim
    (fun a3 => d.x.run A outer s H us vs Q E hr hg e0 hb hv ⟨S, as, zs, cs, q, x, a1, a2, a3, a4, a5⟩) fun a3 => d'.run A outer s H us vs Q E hr hg e0 (by
    have hl : us.length = ps.length := by rw [← hv.length, a2.len]; exact d'.len zs cs q x a3
    have b2 := c' s us (e0.mod.kin.keeps fun b o e => (e0.bs b o e).1) (by rw [List.append_nil]; exact hl)
    rw [List.append_nil] at b2
    exact b2) hv ⟨S, as, zs, cs, q, x, a1, a2, a3, a4, a5⟩⟩⟩
end
section
variable {X : Cx} {pos p : Pos} {x : Str} {k : Nat} {ps : List Str} {sp : XSpec} {e : Expr} {es : List Expr} {ta : TA} {da : DA}
def dCallX (sp : XSpec) (a : DA) : DW → DE := fun w en cs k => a en cs fun zs cs1 => sp zs cs1 k fun C fs cs2 => w C fs en cs2
end
end DL
set_option maxHeartbeats 2000000
set_option autoImplicit false
namespace DL
open PySem PySem.Spec PyProof PyProof.Rows L2 HotX
section
variable {prog : Program} {w : World} {A : Around} {E : Value → Shared → Prop} {s : Shared}
end
def HotS (X : Cx) : Prop := ∀ (pins : List (Addr × Obj)) (σ : L2.St) (H : Hp) (s : Shared), Inv X pins σ H s → ∃ x1, HotAt X.A x1 s.heap
theorem HotS.of {X : Cx} (c : L2H.HotC X) : HotS X := fun pins σ H s I => c.at I
section
variable {X : Cx} {pos : Pos}
end
end DL
set_option maxHeartbeats 4000000
set_option autoImplicit false
namespace DL
open PySem PySem.Spec PyProof PyProof.Rows L2 HotX
structure TurnS (P : Program) (w : World) (K : PySem.W.Frag) (tg : Expr) (J : It) (fp : List Addr) (it : Addr) (tn : Nat → Heap → Prop) : Prop where
  mem : it ∈ fp
  obj : ∀ i h, tn i h → ∀ b ∈ fp, ∃ o, h.get? b = some o ∧ ∀ v, o.data ≠ .cell v
  keep : ∀ i h h', tn i h → (∀ b ∈ fp, ∀ o, h.get? b = some o → h'.get? b = some o) → tn i h'
  item : ∀ (X : Cx), X.prog = P → X.w = w → X.K = K → HotS X → ∀ (i : Nat) (pins : List (Addr × Obj)) (s : Shared) (σ : L2.St) (H : Hp) (E : Value → Shared → Prop), Inv X pins σ H s → (∀ b ∈ fp, FpOk X pins H b) → tn i s.heap → J.go i H →
    wpAny (model P w) X.A (pyNext (.ref it)) (fun r s1 => ∃ u, r = some u ∧
      wpAny (model P w) X.A (letOwnedTupleGo tg (.ref it) u) (fun _ s2 => ∃ x H', Inv X pins σ H' s2 ∧ RelV x u ∧ J.yld i H x H' ∧ tn (i + 1) s2.heap ∧ ∀ b ∈ fp, H' b = none) E s1) E s
  done : ∀ (X : Cx), X.prog = P → X.w = w → X.K = K → HotS X → ∀ (i : Nat) (pins : List (Addr × Obj)) (s : Shared) (σ : L2.St) (H : Hp) (E : Value → Shared → Prop), Inv X pins σ H s → (∀ b ∈ fp, FpOk X pins H b) → tn i s.heap → J.stop i H →
    wpAny (model P w) X.A (pyNext (.ref it)) (fun r s1 => r = none ∧ Inv X pins σ H s1) E s
  self : ∀ (A : Around) (i : Nat) (s : Shared) (Q : Value → Shared → Prop) (E : Value → Shared → Prop), tn i s.heap → Q (.ref it) s → wpAny (model P w) A (pyIter (.ref it)) Q E s
def PIES (X : Cx) (pins : List (Addr × Obj)) (σ : L2.St) (tg : Expr) (R : It → Hp → Prop) (itv : Value) (s2 : Shared) : Prop :=
  ∃ (it : Addr) (fp : List Addr) (tn : Nat → Heap → Prop) (J : It) (H' : Hp), itv = .ref it ∧ Inv X pins σ H' s2 ∧ TurnS X.prog X.w X.K tg J fp it tn ∧ tn 0 s2.heap ∧ (∀ b ∈ fp, FpOk X pins H' b) ∧ R J H'
structure PIS (X : Cx) (tg iter : Expr) (wi : TI) : Prop where
  run : ∀ (pins : List (Addr × Obj)) (s : Shared) (σ : L2.St) (H : Hp) (R : It → Hp → Prop), Inv X pins σ H s → wi σ H R →
    wpAny (model X.prog X.w) X.A (eval iter X.env) (fun v s1 => wpAny (model X.prog X.w) X.A (pyIter v) (PIES X pins σ tg R) X.xe s1) X.xe s
section
variable {X : Cx}
end
end DL
set_option maxHeartbeats 2000000
set_option autoImplicit false
namespace DL
open PySem PySem.Spec PyProof.Rows L2

section
variable {X : Cx} {pos p p2 : Pos}
structure QIS (X : Cx) (tg iter : Expr) (wi : TI) (it : DI) : Prop where
  pi : PIS X tg iter wi
  sem : ∀ (σ : L2.St) (H S : Hp) (as : List Addr) (en : En) (cs : Cs) (k : List D → (Cs → Prop) → Cs → Prop) (R : It → Hp → Prop), Rep X.K S H as cs → EnvOk X.K S as en σ → it en cs k →
    (∀ (J : It) (S' H' : Hp) (as' : List Addr) (ds : List D) (keep : Cs → Prop) (cs' : Cs), Ext S as S' as' → Rep X.K S' H' as' cs' → Wk X.K J S' as' ds keep → k ds keep cs' → R J H') → wi σ H R
def diLstS (a : DE) : DI := fun en cs k => a en cs fun z cs1 => ∃ ds, z = .d (.lst ds) ∧ k ds yes cs1
structure ErrAt (X : Cx) (a E : Addr) : Prop where
  ex : ∃ oe : Obj, (a, oe) ∈ X.pn ∧ Zc (.ref E) none oe ∧ ∃ vs, oe.data = .fields vs
  cls : ExcC X.K E
def dIsE (a : Addr) (b : Bool) (de : DE) : DE := fun en cs k => de en cs fun z cs1 => z = .d (.obj a) ∧ k (.d (.bl b)) cs1
structure PCs (X : Cx) (es : List Expr) (Cs : List Addr) : Prop where
  pa : ∃ ta, PA X es ta ∧ ∀ σ H Q, Q (Cs.map V.ref) H → ta σ H Q
end

abbrev HSpec := Addr → Addr → DSpec
structure FnDH (P : Program) (w : World) (K : PySem.W.Frag) (mg : Str → Option Value) (base : Heap) (k : Nat) (f : Addr) (fd : FuncData) (ps : List Str) (ok : Addr → Prop) (sp : HSpec) : Prop where
  len : ∀ a C zs cs q, sp a C zs cs q → zs.length = ps.length
  run : ∀ (A : Around) (outer : List Env) (s : Shared) (H : Hp) (us : List Value) (vs : List V) (Q : VK) (p : Addr × Obj) (C : Addr), ok C → L2H.RoomH k A → L2H.Hot1 A p → L2H.PinOk outer H s p → Zc (.ref C) none p.2 → A.guards = some [] → Env0 P w K mg base A outer s H → BindsTo s fd ⟨us, []⟩ (ps.zip us) → Vals vs us → spD K (sp p.1 C) vs H Q →
    codeAny (model P w) A (.call (.ref f) ⟨us, []⟩) (CR CX0 outer P w H s Q E0) s
def GotH (P : Program) (w : World) (K : PySem.W.Frag) (mg : Str → Option Value) (base : Heap) (name : Str) (k : Nat) (ps : List Str) (ok : Addr → Prop) (sp : HSpec) : Prop :=
  ∃ (f : Addr) (fd : FuncData), mg name = some (.ref f) ∧ PySem.W.keepIn K (.ref f) = true ∧ L2.Binds K fd ps [] ∧ FnDH P w K mg base k f fd ps ok sp
section
variable {P : Program} {w : World} {K : PySem.W.Frag} {mg : Str → Option Value} {base : Heap} {name : Str} {k : Nat} {ps : List Str} {ok : Addr → Prop} {sp : HSpec}
theorem GotH.mk {st : Stmt} {N : List Str} (T : DefT K mg name st ps) (Sc : FnScope N ps (defScope st)) (len : ∀ a C zs cs q, sp a C zs cs q → zs.length = ps.length) (t : Addr → Addr → DS)
    (der : ∀ (f : Addr) (cdv : Value) (A : Around) (outer : List Env) (s : Shared) (H : Hp) (p : Addr × Obj) (C : Addr), ok C → L2H.HotC (L2H.cxH CX0 P w K mg base N name (defScope st) f cdv A outer s H E0 p).nox → (ExcC K C → ErrAt (L2H.cxH CX0 P w K mg base N name (defScope st) f cdv A outer s H E0 p).nox p.1 C) → L2H.RoomH k (A.deeper (envOfC name (defScope st) s.heap.objs.size f cdv)) → (A.deeper (envOfC name (defScope st) s.heap.objs.size f cdv)).guards = some [] →
      ∃ ts : TS, QSs (L2H.cxH CX0 P w K mg base N name (defScope st) f cdv A outer s H E0 p).nox (defBody st) ts (t p.1 C))
    (rd : ∀ a C zs cs q, sp a C zs cs q → t a C (endD cs.length q) (startD N zs) cs) : GotH P w K mg base name (k + 1) ps ok sp := by
  obtain ⟨f, fd, F, g, b⟩ := T
  refine ⟨f, fd, g, F.kp, b, len, fun A outer s H us vs Q p C hC hr hot hpin hz hgd e0 hb r hsp => ?_⟩
  obtain ⟨oc, od, kV, doc, pm, an, cdv, ct, osl, rfl, lk, hcd⟩ := F.ex
  obtain ⟨S, as, zs, cs, q, rep, vz, hs, pq⟩ := hsp
  have hl : vs.length = ps.length := vz.len.trans (len _ _ _ _ _ hs)
  have KX : K.In s.heap := e0.mod.kin.keeps fun b o e => (e0.bs b o e).1
  have lim : s.heap.NoLimit := e0.mod.nolimit.keeps fun b o e => (e0.bs b o e).1
  refine codeAny_call_function hr.depth (KX _ _ lk) rfl Sc.co Sc.gen rfl (PySem.W.codeRec_of KX hcd) (hb _ _ _ _ ?_)
  refine wpAny_newFunctionEnv_cells Sc.kind (fun ⟨n, v⟩ hy => (Sc.par n (List.of_mem_zip hy).1).imp (fun h => h) fun h => ⟨h, PySem.W.cellsFrom_some _ _ _ (.inl h)⟩) fun env he s1 x => ?_
  subst he
  refine ⟨lim.keeps x.toInCall.keep, codeAny_func ?_⟩
  have hf : ∃ vs, p.2.data = .fields vs := let ⟨vs, h, _⟩ := hot.2; ⟨vs, h⟩
  obtain ⟨ts, d⟩ := der f cdv A outer s H p C hC ⟨p, hot, List.mem_singleton.mpr rfl⟩ (fun ec => ⟨⟨p.2, List.mem_singleton.mpr rfl, hz, hf⟩, ec⟩) (hr.deeper _) hgd
  have I : Inv (L2H.cxH CX0 P w K mg base N name (defScope st) f cdv A outer s H E0 p) [] (L2.start N vs) H s1 := L2H.inv_startH Sc hpin e0 hl r x
  have body : ts { nx := fun _ H' => Q .non H', rt := Q } (L2.start N vs) H := by
    refine d.sem (L2.start N vs) H S as (startD N zs) cs _ _ rep (env_start vz) (rd _ _ zs cs q hs) ⟨fun σ' S' H' as' en' cs' e' r' ev' q' => ?_, ?_, fun _ _ _ _ _ _ _ _ _ h => h, fun _ _ _ _ _ _ _ _ _ h => h⟩
    · rw [← rep.len] at q'
      exact pq (.d .non) .non S' H' _ _ e'.take (r'.take as.length) rfl q'
    · rw [← rep.len]
      exact fin_pq pq
  refine wpAny_mono (d.pss.nox.run [] s1 (L2.start N vs) H _ I body) (fun fl s' hs => ?_) fun e s' hs => hs
  cases fl with
  | ret u =>
    obtain ⟨v, σ', H', J, rv, q⟩ := hs
    exact ⟨v, H', J.os, J.bare, J.base, J.hok, rv, q⟩
  | next =>
    obtain ⟨σ', H', J, q⟩ := hs
    exact ⟨.non, H', J.os, J.bare, J.base, J.hok, rfl, q⟩
  | brk => exact hs.elim fun _ h => h.elim fun _ h => h.2.elim
  | cont => exact hs.elim fun _ h => h.elim fun _ h => h.2.elim
end

section
variable {X : Cx} {pos pos' np p p2 : Pos} {x n : Str} {i : Nat} {body : List Stmt} {db : DW → DS}
def dSuRet (sp : HSpec) (da : DA) : Addr → Addr → DS := fun a C D en cs => da en cs fun zs cs1 => sp a C zs cs1 D.rt
end
end DL
set_option maxHeartbeats 2000000
set_option autoImplicit false
namespace DL
open PySem PySem.Spec PyProof.Rows L2
end DL
set_option maxHeartbeats 2000000
set_option autoImplicit false
namespace DL
open PySem PySem.Spec PyProof.Rows L2
def getT (kvs : List (List Key × D)) (k : List Key) : Option D := (kvs.find? fun kv => decide (kv.1 = k)).map (·.2)
def setT (kvs : List (List Key × D)) (k : List Key) (d : D) : List (List Key × D) := if (kvs.any fun kv => decide (kv.1 = k)) = true then kvs.map fun kv => if kv.1 = k then (kv.1, d) else kv else kvs ++ [(k, d)]
theorem getT_cons (p : List Key × D) (r : List (List Key × D)) (k : List Key) : getT (p :: r) k = if p.1 = k then some p.2 else getT r k := by
  unfold getT
  rw [List.find?_cons]
  by_cases h : p.1 = k
  · rw [decide_eq_true h, if_pos h]; rfl
  · rw [decide_eq_false h, if_neg h]
section
variable {K : PySem.W.Frag} {S H : Hp}
theorem KTD.len : ∀ {kvs : List (List Key × D)} {l : List (List Key × V)}, KTD K S kvs l → l.length = kvs.length
  | [], _, h => by rw [show _ = [] from h]; rfl
  | _ :: r, _, ⟨v, l', h1, h2, h3⟩ => by rw [h1, List.length_cons, List.length_cons, KTD.len h3]
theorem KTD.get : ∀ {kvs : List (List Key × D)} {l : List (List Key × V)} (k : List Key), KTD K S kvs l → (getT kvs k = none ∧ valV l k = none) ∨ ∃ d v, getT kvs k = some d ∧ valV l k = some v ∧ Is K S d v
  | [], _, k, h => by rw [show _ = [] from h]; exact .inl ⟨rfl, rfl⟩
  | kd :: r, _, k, h => by
    obtain ⟨v, l', rfl, h2, h3⟩ := h
    rw [getT_cons]
    by_cases e : kd.1 = k
    · rw [if_pos e]
      exact .inr ⟨kd.2, v, rfl, valV_pos (p := (kd.1, v)) e, h2⟩
    · rw [if_neg e, valV_neg (p := (kd.1, v)) e]
      exact KTD.get k h3
theorem KTD.snoc {d : D} {v : V} {k : List Key} (hd : Is K S d v) : ∀ {kvs : List (List Key × D)} {l : List (List Key × V)}, KTD K S kvs l → KTD K S (kvs ++ [(k, d)]) (l ++ [(k, v)])
  | [], _, h => by rw [show _ = [] from h]; exact ⟨v, [], rfl, hd, rfl⟩
  | kd :: r, _, h => by
    obtain ⟨v', l', rfl, h2, h3⟩ := h
    exact ⟨v', _, rfl, h2, KTD.snoc hd h3⟩
theorem KTD.mapK {d : D} {v : V} {k : List Key} (hd : Is K S d v) : ∀ {kvs : List (List Key × D)} {l : List (List Key × V)}, KTD K S kvs l → KTD K S (kvs.map fun kv => if kv.1 = k then (kv.1, d) else kv) (l.map fun kv => if kv.1 = k then (kv.1, v) else kv)
  | [], _, h => by rw [show _ = [] from h]; exact rfl
  | kd :: r, _, h => by
    obtain ⟨v', l', rfl, h2, h3⟩ := h
    rw [List.map_cons, List.map_cons]
    by_cases e : kd.1 = k
    · rw [if_pos e, if_pos (show (kd.1, v').1 = k from e)]
      exact ⟨v, _, rfl, hd, KTD.mapK hd h3⟩
    · rw [if_neg e, if_neg (show ¬ (kd.1, v').1 = k from e)]
      exact ⟨v', _, rfl, h2, KTD.mapK hd h3⟩
theorem KTD.any {k : List Key} : ∀ {kvs : List (List Key × D)} {l : List (List Key × V)}, KTD K S kvs l → (l.any fun kv => decide (kv.1 = k)) = (kvs.any fun kv => decide (kv.1 = k))
  | [], _, h => by rw [show _ = [] from h]; rfl
  | kd :: r, _, h => by
    obtain ⟨v', l', rfl, h2, h3⟩ := h
    rw [List.any_cons, List.any_cons, KTD.any h3]
theorem KTD.put {d : D} {v : V} {k : List Key} {kvs : List (List Key × D)} {l : List (List Key × V)} (h : KTD K S kvs l) (hd : Is K S d v) : KTD K S (setT kvs k d) (putK l k v) := by
  unfold setT putK
  rw [h.any]
  split
  · exact h.mapK hd
  · exact h.snoc hd
end
section
variable {X : Cx} {pos : Pos}
end
section
variable {prog : Program} {w : World} {A : Around} {E : Value → Shared → Prop} {s : Shared}
end
section
variable {X : Cx} {pins : List (Addr × Obj)} {σ : L2.St} {H : Hp} {s : Shared}
end
section
variable {X : Cx} {e : Expr} {es : List Expr} {te : L2.St → Hp → (Int → Int → Hp → Prop) → Prop} {t : TA} {p : Pos}
end
section
variable {X : Cx} {a b : Expr} {es : List Expr} {ta tb : TE} {da db : DE} {t : TA} {dr : DA} {p p2 q : Pos}
end
end DL
set_option maxHeartbeats 2000000
set_option autoImplicit false
namespace DL
open PySem PySem.Spec PyProof.Rows L2
theorem isL_strs {K : PySem.W.Frag} {S : Hp} : ∀ (ys : List Str), IsL K S (ys.map D.str) (ys.map V.str)
  | [] => rfl
  | n :: ns => ⟨.str n, _, rfl, rfl, isL_strs ns⟩
section
variable {X : Cx} {pos p : Pos} {o e a b : Expr} {to te ta tb : TE} {do_ de da db : DE}
def dSplit (a b : DE) : DE := fun en cs k => a en cs fun x cs1 => ∃ s, x = .d (.str s) ∧ b en cs1 fun y cs2 => ∃ t, y = .d (.str t) ∧ ((t.length == 0) = false ∧ s.length + 2 ≤ sizeLine) ∧ k (.d (.lst ((Txt.split s t).map D.str))) cs2
theorem q_split {apos : Pos} (ho : QE X o to do_) (he : QE X e te de) (hs : starEach [e] X.env = [(false, eval e X.env)] := by rfl) (hbase : attributeBase o "split" X.env (eval o X.env) = eval o X.env := by rfl) (hline : (apos.endLine == pos.line) = true := by rfl) :
    QE X (.Call (.Attribute o "split" apos) [e] [] pos) (tM1 (fun x xs H Q => ∃ a b, x = .str a ∧ xs = [.str b] ∧ (b.length == 0) = false ∧ a.length + 2 ≤ sizeLine ∧ rNewStrs (Txt.split a b) H Q) to te) (dSplit do_ de) := by
  refine ⟨pe_split ho.pe he.pe hs hbase hline, ?_⟩
  intro σ H S as en cs k Q rp ev q p
  refine ho.sem.use rp ev q fun z v S1 H1 as1 cs1 e1 r1 v1 q1 => ?_
  obtain ⟨s, rfl, q1⟩ := q1
  refine ⟨⟨s, v1⟩, ?_⟩
  refine he.sem.use r1 (ev.mono e1) q1 fun z2 v2 S2 H2 as2 cs2 e2 r2 w2 q2 => ?_
  obtain ⟨t, rfl, ⟨h1, h2⟩, q2⟩ := q2
  refine ⟨s, t, v1, congrArg (fun z => [z]) w2, h1, h2, fun p' hp => ?_⟩
  have hn := Sub.new (o := .lst ((Txt.split s t).map V.str)) (r2.sub.free hp)
  exact p (.d (.lst _)) _ _ _ as2 cs2 ((e1.trans e2).trans (Ext.of hn)) (r2.lay hp _) ⟨p', _, rfl, upd_same, isL_strs _⟩ q2
end
structure KTab (K : PySem.W.Frag) (w : World) (d : Addr) (T : List (Str × Str)) : Prop where
  ex : ∃ es n, KDict K w d es n ∧ (∀ z : Str, PySem.W.nsIn K d z = some none ↔ T.lookup z = none) ∧ ∀ z v, T.lookup z = some v → ∃ t, PySem.W.nsIn K d z = some (some (.str v t))
end DL
set_option maxHeartbeats 2000000
set_option autoImplicit false
namespace DL
open PySem PySem.Spec PyProof.Rows L2
section
variable {K : PySem.W.Frag} {S H : Hp} {as : List Addr} {cs : Cs}
end
section
variable {X : Cx} {pos : Pos}
end
section
variable {X : Cx} {k : Nat} {f C : Addr} {fd : FuncData} {ps : List Str} {sp : DSpec} {x m : Str} {p pos apos : Pos} {o e : Expr} {es : List Expr} {to : TE} {od : DE} {ta : TA} {da : DA}
end
end DL
set_option maxHeartbeats 2000000
set_option autoImplicit false
namespace DL
open PySem PySem.Spec PyProof.Rows L2
section
variable {P : Program} {w : World} {K : PySem.W.Frag} {mg : Str → Option Value} {base : Heap}
end
section
variable {P : Program} {w : World} {K : PySem.W.Frag} {mg : Str → Option Value} {base : Heap} {C : Addr} {m qual x name : Str} {k : Nat} {ps : List Str} {sp : DSpec} {st : Stmt} {N : List Str}
end
section
variable {X : Cx} {pos p apos : Pos} {x m : Str} {k : Nat} {C : Addr} {ps : List Str} {sp : DSpec} {o e : Expr} {es : List Expr} {to : TE} {od : DE} {ta : TA} {da : DA}
end
inductive TabOf : List DictEntry → List (Str × Str) → Prop where
  | nil : TabOf [] []
  | cons {e : DictEntry} {es : List DictEntry} {x y : Str} {t u : Tok} {T : List (Str × Str)} (hk : e.key = .str x t) (hv : e.val = .str y u) (r : TabOf es T) : TabOf (e :: es) ((x, y) :: T)
structure KTb (K : PySem.W.Frag) (w : World) (mg : Str → Option Value) (name : Str) (T : List (Str × Str)) : Prop where
  ex : ∃ d es n, mg name = some (.ref d) ∧ KDict K w d es n ∧ TabOf es.toList T
theorem TabOf.look : ∀ {es : List DictEntry} {T : List (Str × Str)}, TabOf es T → ∀ z : Str, (T.lookup z = none → (es.find? (·.key.isStr z)) = none) ∧ (∀ v, T.lookup z = some v → ∃ e t, es.find? (·.key.isStr z) = some e ∧ e.val = .str v t) ∧ es.any (·.refKey) = false
  | _, _, .nil, z => ⟨fun _ => rfl, fun _ h => (by cases h), rfl⟩
  | _, _, .cons (e := e) (x := x) (y := y) (u := u) hk hv r, z => by
    obtain ⟨h1, h2, h3⟩ := r.look z
    have ks : e.key.isStr z = (x == z) := by rw [hk]; rfl
    have rk : e.refKey = false := by unfold DictEntry.refKey; rw [hk]
    rw [List.lookup_cons, List.find?_cons, ks, List.any_cons, rk, Bool.false_or]
    refine ⟨fun h => ?_, fun v h => ?_, h3⟩
    · cases q : z == x with
      | true => rw [q] at h; cases h
      | false =>
        rw [q] at h
        have : (x == z) = false := beq_eq_false_iff_ne.mpr fun e => beq_eq_false_iff_ne.mp q e.symm
        rw [this]
        exact h1 h
    · cases q : z == x with
      | true =>
        rw [q] at h
        cases h
        have : (x == z) = true := beq_iff_eq.mpr (beq_iff_eq.mp q).symm
        rw [this]
        exact ⟨e, u, rfl, hv⟩
      | false =>
        rw [q] at h
        have : (x == z) = false := beq_eq_false_iff_ne.mpr fun e => beq_eq_false_iff_ne.mp q e.symm
        rw [this]
        exact h2 v h
section
variable {X : Cx} {pos p : Pos} {a : Expr} {ta : TE} {da : DE} {name : Str} {T : List (Str × Str)}
end
end DL
set_option maxHeartbeats 2000000
set_option autoImplicit false
namespace DL
open PySem PySem.Spec PyProof.Rows L2
end DL
set_option maxHeartbeats 2000000
set_option autoImplicit false
namespace DL
open PySem L2
section
variable {k : D → Prop} {kz : Z → Cs → Prop} {en : En} {cs : Cs} {a b : DE}
theorem u_dSplit : dSplit a b en cs kz = (a en cs fun x cs1 => ∃ s, x = .d (.str s) ∧ b en cs1 fun y cs2 => ∃ t, y = .d (.str t) ∧ ((t.length == 0) = false ∧ s.length + 2 ≤ sizeLine) ∧ kz (.d (.lst ((Txt.split s t).map D.str))) cs2) := nd rfl
end
end DL
set_option maxHeartbeats 2000000
set_option autoImplicit false
namespace DL
open PySem PySem.Spec PyProof.Rows L2
theorem Got.no {P : Program} {w : World} {K : PySem.W.Frag} {mg : Str → Option Value} {base : Heap} {name : Str} {ps : List Str} {st : Stmt} (T : DefT K mg name st ps) : Got P w K mg base name 0 ps (fun _ _ _ => False) := by
  obtain ⟨f, fd, F, g, b⟩ := T
  refine ⟨f, fd, g, F.kp, b, ⟨fun _ _ _ h => h.elim, fun A outer s H args us vs Q hr hgd e0 hb r hsp => ?_⟩⟩
  obtain ⟨S, as, zs, cs, q, rep, vz, hz, pq⟩ := hsp
  exact hz.elim
end DL
set_option maxHeartbeats 2000000
set_option autoImplicit false
namespace DL
open PySem PySem.Spec PyProof.Rows L2
end DL
open PySem PySem.Spec PyProof.Rows L2 in
theorem L2H.RoomH.units {k : Nat} {A : Around} (r : L2H.RoomH k A) : A.units + 64 < PySem.cLine := by have := r.un; omega
namespace DL
open PySem PySem.Spec PyProof.Rows L2
structure XR (K : PySem.W.Frag) (C : Addr) : Prop where
  ex : PySem.W.excIn K C [.type "ValueError", .type "Exception", .type "BaseException", .type "object"] "ValueError.__new__" = true
  kp : PySem.W.keepIn K (.ref C) = true
  sub : PySem.W.subIn K (.ref C) (.type "BaseException") = some true
  ty : PySem.W.typeIn K (.ref C) = some (.type "type")
theorem Hk.xr_ok {x : Str} {K : Hk.FrK} (c : (He.Fa.exc x).ok K = true) : XR K (He.ga K x) := let ⟨a, b, d, e⟩ := He.exc_ok c; ⟨a, b, d, e⟩
def okC (cA : Str → Addr) (R : List Str) : Addr → Prop := fun C => ∃ E ∈ R, C = cA E
section
variable {K : PySem.W.Frag} {cA : Str → Addr} {R ys : List Str} {g C : Addr}
theorem XAll.cls (h : XAll K (R.map fun x => (x, cA x)) (ys.map fun x => (x, cA x)) g) (hC : okC cA R C) : ExcC K C := by
  obtain ⟨E, hE, rfl⟩ := hC
  exact (h _ (List.mem_map.mpr ⟨E, hE, rfl⟩)).1.1
theorem XAll.ve (h : XAll K (R.map fun x => (x, cA x)) (ys.map fun x => (x, cA x)) g) (hC : okC cA R C) : PySem.W.kitOne K (.ref C) (.type "ValueError") = some true := by
  obtain ⟨E, hE, rfl⟩ := hC
  exact (h _ (List.mem_map.mpr ⟨E, hE, rfl⟩)).1.2.1
theorem XAll.own {y : Str} (h : XAll K (R.map fun x => (x, cA x)) (ys.map fun x => (x, cA x)) g) (hC : okC cA R C) (hy : y ∈ ys) : PySem.W.kitOne K (.ref C) (.ref (cA y)) = some (decide (C = cA y)) := by
  obtain ⟨E, hE, rfl⟩ := hC
  exact ((h _ (List.mem_map.mpr ⟨E, hE, rfl⟩)).2 _ (List.mem_map.mpr ⟨y, hy, rfl⟩)).1
theorem XAll.dst {E y : Str} (h : XAll K (R.map fun x => (x, cA x)) (ys.map fun x => (x, cA x)) g) (hE : E ∈ R) (hy : y ∈ ys) : decide (cA E = cA y) = decide (E = y) :=
  ((h _ (List.mem_map.mpr ⟨E, hE, rfl⟩)).2 _ (List.mem_map.mpr ⟨y, hy, rfl⟩)).2
theorem XAll.any (h : XAll K (R.map fun x => (x, cA x)) (ys.map fun x => (x, cA x)) g) (hC : okC cA R C) : ∀ (zs : List Str), (∀ y ∈ zs, y ∈ ys) → PySem.W.kitAny K (.ref C) ((zs.map cA).map Value.ref) = some (zs.any fun y => decide (C = cA y))
  | [], _ => rfl
  | z :: r, hz => by
    simp only [List.map_cons, List.any_cons]
    unfold PySem.W.kitAny
    rw [h.own hC (hz z List.mem_cons_self)]
    by_cases e : C = cA z
    · simp [e]
    · simp only [e, decide_false, Bool.false_or]
      exact h.any hC r fun y hy => hz y (List.mem_cons_of_mem _ hy)
end
section
variable {X : Cx} {pos p p2 : Pos} {cA : Str → Addr} {R ys : List Str} {g C a : Addr}
end
section
variable {X : Cx}
end
section
variable {D0 : DEnds} {en : En} {cs : Cs} {k : Z → Cs → Prop} {w : DW}
theorem u_dIsE {a : Addr} {b : Bool} {de : DE} : dIsE a b de en cs k = de en cs fun z cs1 => z = .d (.obj a) ∧ k (.d (.bl b)) cs1 := nd rfl
theorem u_dDropX {de : DW → DE} : dDropX de w D0 en cs = de w en cs fun _ cs1 => D0.nx en cs1 := nd rfl
theorem u_dAsgX {de : DW → DE} {g : DG} : dAsgX de g w D0 en cs = de w en cs fun z cs1 => g z en cs1 D0.nx := nd rfl
theorem u_dRetX {de : DW → DE} : dRetX de w D0 en cs = de w en cs D0.rt := nd rfl
theorem u_dRaise {C : Addr} : dRaise C w D0 en cs = w C [] en cs := nd rfl
theorem u_dCallX {sp : XSpec} {da : DA} : dCallX sp da w en cs k = da en cs fun zs cs1 => sp zs cs1 k fun C fs cs2 => w C fs en cs2 := nd rfl
theorem u_dSuRet {sp : HSpec} {da : DA} {a C : Addr} : dSuRet sp da a C D0 en cs = da en cs fun zs cs1 => sp a C zs cs1 D0.rt := nd rfl
theorem u_diLstS {d : DE} {k : List D → (Cs → Prop) → Cs → Prop} : diLstS d en cs k = d en cs fun z cs1 => ∃ ds, z = .d (.lst ds) ∧ k ds yes cs1 := nd rfl
end
end DL
set_option maxHeartbeats 2000000
set_option autoImplicit false
namespace DL
open PySem PySem.Spec PyProof.Rows L2
section
variable {X : Cx} {pos : Pos}
def dDicD : DE := fun _ cs k => k (.d (.dic [])) cs
theorem u_dDicD {en : En} {cs : Cs} {k : Z → Cs → Prop} : dDicD en cs k = k (.d (.dic [])) cs := nd rfl
end
end DL
set_option maxHeartbeats 2000000
set_option autoImplicit false
namespace PySem.W
open Lean Elab Tactic Meta PySem PySem.Calls PyProof.Rows
section
variable {prog : Program} {w : World} {A : Around} {E : Value → Shared → Prop} {s : Shared} {K : Frag} {x C L f : Addr} {h₀ : Heap} {m : Str → Option Value} {ox : Obj} {od : Option Obj} {tb : Value}
end
end PySem.W
namespace DL
open PySem PySem.Spec PyProof.Rows L2
def GotMX (P : Program) (w : World) (K : PySem.W.Frag) (mg : Str → Option Value) (base : Heap) (C : Addr) (m : Str) (k : Nat) (ps : List Str) (sp : XSpec) : Prop :=
  ∃ (f : Addr) (fd : FuncData), Meth K C m f ∧ PySem.W.fnIn K f = true ∧ L2.Binds K fd ps [] ∧ FnDX P w K mg base k f fd ps sp
def GotIX (P : Program) (w : World) (K : PySem.W.Frag) (mg : Str → Option Value) (base : Heap) (C : Addr) (x : Str) (k : Nat) (ps : List Str) (sp : XSpec) : Prop :=
  ∃ (f : Addr) (fd : FuncData), mg x = some (.ref C) ∧ Mk K C f ∧ L2.Binds K fd ps [] ∧ FnDX P w K mg base k f fd ps sp
section
variable {P : Program} {w : World} {K : PySem.W.Frag} {mg : Str → Option Value} {base : Heap} {C : Addr} {m qual x : Str} {k : Nat} {ps : List Str} {st : Stmt} {N : List Str}
theorem FnD.or2 {f : Addr} {fd fd' : FuncData} {sp : DSpec} {sp' : XSpec} (d : FnD P w K mg base k f fd ps sp) (c' : L2.Binds K fd' ps []) (d' : FnDX P w K mg base k f fd' ps sp') : FnDX P w K mg base k f fd ps (fun zs cs q x => sp zs cs q ∨ sp' zs cs q x) :=
  ⟨fun zs cs q x h => h.elim (d.len zs cs q) (d'.len zs cs q x), fun A outer s H us vs Q E hr hg e0 hb hv ⟨S, as, zs, cs, q, x, a1, a2, a3, a4, a5⟩ => a3.elim
    (fun a3 => d.x.run A outer s H us vs Q E hr hg e0 hb hv ⟨S, as, zs, cs, q, x, a1, a2, a3, a4, a5⟩) fun a3 => d'.run A outer s H us vs Q E hr hg e0 (by
    have hl : us.length = ps.length := by rw [← hv.length, a2.len]; exact d'.len zs cs q x a3
    have b2 := c' s us (e0.mod.kin.keeps fun b o e => (e0.bs b o e).1) (by rw [List.append_nil]; exact hl)
    rw [List.append_nil] at b2
    exact b2) hv ⟨S, as, zs, cs, q, x, a1, a2, a3, a4, a5⟩⟩
theorem GotMX.or {sp : DSpec} {sp' : XSpec} (G : GotM P w K mg base C m k ps sp) (G' : GotMX P w K mg base C m k ps sp') : GotMX P w K mg base C m k ps (fun zs cs q x => sp zs cs q ∨ sp' zs cs q x) := by
  obtain ⟨f, fd, M, a, b, d⟩ := G
  obtain ⟨f', fd', M', a', b', d'⟩ := G'
  have e := M.at_.symm.trans M'.at_
  have e : f = f' := Value.ref.inj (Option.some.inj (Option.some.inj e))
  subst e
  exact ⟨f, fd, M, a, b, d.or2 b' d'⟩
theorem GotIX.or {sp : DSpec} {sp' : XSpec} (G : GotI P w K mg base C x k ps sp) (G' : GotIX P w K mg base C x k ps sp') : GotIX P w K mg base C x k ps (fun zs cs q x => sp zs cs q ∨ sp' zs cs q x) := by
  obtain ⟨f, fd, a, M, b, d⟩ := G
  obtain ⟨f', fd', a', M', b', d'⟩ := G'
  have e := M.init.symm.trans M'.init
  have e : f = f' := Value.ref.inj (Option.some.inj (Option.some.inj e))
  subst e
  exact ⟨f, fd, a, M, b, d.or2 b' d'⟩
theorem GotMX.mk {sp : XSpec} (T : MethT K C m qual st ps) (S : FnScope N ps (defScope st)) (len : ∀ zs cs q x, sp zs cs q x → zs.length = ps.length) (t : DW → DS)
    (der : ∀ (f : Addr) (cdv : Value) (A : Around) (outer : List Env) (s : Shared) (H : Hp) (E : XK), Room k (A.deeper (envOfC qual (defScope st) s.heap.objs.size f cdv)) → (A.deeper (envOfC qual (defScope st) s.heap.objs.size f cdv)).guards = some [] →
      QX (cxOf (L2N.CX P w) P w K mg base N qual (defScope st) f cdv A outer s H E) (defBody st) t)
    (rd : ∀ zs cs q x, sp zs cs q x → t (outX cs.length x) (endX cs.length q) (startD N zs) cs) : GotMX P w K mg base C m (k + 1) ps sp := by
  obtain ⟨f, fd, F, M, fi, b⟩ := T
  exact ⟨f, fd, M, fi, b, fn_DX F S len t (der f) rd⟩
theorem GotIX.mk {sp : XSpec} (T : InitT K mg C x qual st ps) (S : FnScope N ps (defScope st)) (len : ∀ zs cs q x, sp zs cs q x → zs.length = ps.length) (t : DW → DS)
    (der : ∀ (f : Addr) (cdv : Value) (A : Around) (outer : List Env) (s : Shared) (H : Hp) (E : XK), Room k (A.deeper (envOfC qual (defScope st) s.heap.objs.size f cdv)) → (A.deeper (envOfC qual (defScope st) s.heap.objs.size f cdv)).guards = some [] →
      QX (cxOf (L2N.CX P w) P w K mg base N qual (defScope st) f cdv A outer s H E) (defBody st) t)
    (rd : ∀ zs cs q x, sp zs cs q x → t (outX cs.length x) (endX cs.length q) (startD N zs) cs) : GotIX P w K mg base C x (k + 1) ps sp := by
  obtain ⟨f, fd, F, mgC, M, b⟩ := T
  exact ⟨f, fd, mgC, M, b, fn_DX F S len t (der f) rd⟩
end
section
variable {X : Cx} {pos p : Pos} {x m : Str} {k : Nat} {C f : Addr} {fd : FuncData} {ps : List Str} {sp : XSpec} {a b e fe : Expr} {es : List Expr} {ta tb tf : TE} {da db df : DE} {tl : TA} {dl : DA} {pn : List (Addr × Obj)} {xe : Value → Shared → Prop}
def dCallIX (C : Addr) (sp : XSpec) (o : DE) (a : DA) : DW → DE := fun w en cs k => o en cs fun z cs1 => withD cs1 z fun d => isC C d ∧ a en cs1 fun zs cs2 => withD cs2 z fun d => isC C d ∧ sp (z :: zs) cs2 k fun C fs cs3 => w C fs en cs3
structure OpX (K : PySem.W.Frag) (C : Addr) (Cs : List Addr) (op : Operator) : Prop where
  rr : PySem.W.findIn K (.ref C) (dunderR op.info.2) = some none
  bt : ∀ T ∈ tyNames, ∃ fo ro, PySem.W.findIn K (.type T) (PySem.dunder op.info.2) = some fo ∧ PySem.W.findIn K (.type T) (dunderR op.info.2) = some ro
  own : ∀ C' ∈ Cs, Oth K C C' ∧ (∃ f, PySem.W.findIn K (.ref C') (PySem.dunder op.info.2) = some (some (.ref f))) ∧ PySem.W.findIn K (.ref C') (dunderR op.info.2) = some none
def rgX (C : Addr) (Cs : List Addr) (d : D) : Prop := match d with
  | .ob C' _ _ => C' = C ∨ C' ∈ Cs
  | d => isBt d = true
def dOwnX (C : Addr) (Cs : List Addr) (sp : XSpec) (a b : DE) : DW → DE := fun w en cs k => a en cs fun x cs1 => b en cs1 fun y cs2 => withD cs2 x fun dx => withD cs2 y fun dy => isC C dx ∧ rgX C Cs dy ∧ sp [x, y] cs2 k fun C fs cs3 => w C fs en cs3
def dMakeX (C : Addr) (sp : XSpec) (a : DA) : DW → DE := fun w en cs k => a en cs fun zs cs1 => sp (.c cs1.length :: zs) (cs1 ++ [.ob C [] []]) (fun z cs2 => z = .d .non ∧ ∃ ns ds, cs2[cs1.length]? = some (.ob C ns ds) ∧ (k (.d (.ob C ns ds)) (cs2.take cs1.length) ∨ k (.c cs1.length) cs2)) fun C fs cs2 => w C fs en (cs2.take cs1.length)
end
def dFalse : DE := fun _ _ _ => False
section
variable {w : DW} {en : En} {cs : Cs} {k : Z → Cs → Prop} {C : Addr} {sp : XSpec}
theorem u_dCallIX {o : DE} {a : DA} : dCallIX C sp o a w en cs k = o en cs fun z cs1 => withD cs1 z fun d => isC C d ∧ a en cs1 fun zs cs2 => withD cs2 z fun d => isC C d ∧ sp (z :: zs) cs2 k fun C fs cs3 => w C fs en cs3 := nd rfl
theorem u_dOwnX {Cs : List Addr} {a b : DE} : dOwnX C Cs sp a b w en cs k = a en cs fun x cs1 => b en cs1 fun y cs2 => withD cs2 x fun dx => withD cs2 y fun dy => isC C dx ∧ rgX C Cs dy ∧ sp [x, y] cs2 k fun C fs cs3 => w C fs en cs3 := nd rfl
theorem u_dMakeX {a : DA} : dMakeX C sp a w en cs k = a en cs fun zs cs1 => sp (.c cs1.length :: zs) (cs1 ++ [.ob C [] []]) (fun z cs2 => z = .d .non ∧ ∃ ns ds, cs2[cs1.length]? = some (.ob C ns ds) ∧ (k (.d (.ob C ns ds)) (cs2.take cs1.length) ∨ k (.c cs1.length) cs2)) fun C fs cs2 => w C fs en (cs2.take cs1.length) := nd rfl
theorem u_dFalse : dFalse en cs k = False := nd rfl
end
end DL
set_option maxHeartbeats 2000000
set_option autoImplicit false
namespace DL
open PySem PySem.Spec PyProof.Rows L2
end DL
set_option maxHeartbeats 2000000
set_option autoImplicit false
namespace DL
open PySem PySem.Spec PyProof.Rows L2
theorem exO2_ok {P : Program} {w : World} {H : Hp} {h : Heap} {a : Addr} {cls : Value} {d : Option Addr} {oe : Obj} {vs : Array Value} (e : h.get? a = some oe) (z : Zc cls d oe) (dt : oe.data = .fields vs) (h1 : vs[1]? = some .none) : ObjOk P w H h a (ExO2 cls d a) :=
  ⟨⟨oe, vs, e, z, dt, h1⟩, ⟨oe, e⟩, fun _ _ ⟨o, v, q, r⟩ k => ⟨o, v, k o q, r⟩⟩
theorem pe_of_mk {X : Cx} {e : Expr} {t : L2.St → Hp → XK → Prop} (h : L2.PMk X e t) : PE X e (fun σ H Q => t σ H fun cls d H' => ∀ a, H' a = none → Q (.ref a) (upd H' a (ExO2 cls d a))) := by
  refine ⟨fun pins s σ H Q I hh => wpAny_mono (h pins s σ H _ I hh) (fun u s' hu => ?_) fun _ _ x => x⟩
  obtain ⟨a, oe, vs, sI, H', cls, d, rfl, J, k, hne, ha, hz, hd, h1, na, os, ag, r, q⟩ := hu
  have K := J.laidN (h' := s'.heap) (t' := s'.toks) k hne na (exO2_ok ha hz hd h1)
  refine ⟨.ref a, upd H' a (ExO2 cls d a), ?_, rfl, q a na⟩
  exact ⟨K.ok, os.trans K.os, ag, K.base, K.loc, K.cell, K.free, K.freeC, K.pin, K.hok, K.len⟩
end DL
set_option maxHeartbeats 2000000
set_option autoImplicit false
namespace DL
open PySem PySem.Spec PyProof.Rows L2
section
variable {X : Cx} {pos p p2 : Pos} {x m : Str} {j : Nat} {C : Addr}
def dErr0 (C : Addr) : DE := fun _ cs k => ∀ a, k (.d (.cel a (.obj C))) cs
theorem q_err0 (F : XR X.K C) (gC : X.mg x = some (.ref C)) (hg : Gl X x := by rfl) (hdb : (x == ("__debug__" : Str)) = false := by decide) :
    QE X (.Call (.Name x p) [.Constant (.str m) j p2] [] pos) (fun _ H Q => ∀ a, H a = none → Q (.ref a) (upd H a (ExO2 (.ref C) none a))) (dErr0 C) := by
  refine ⟨pe_of_mk (L2.pmk_own PySem.F.excBase_ValueError F.ex gC F.kp (raises_own F.sub F.ty) hg hdb), ?_⟩
  intro σ H S as en cs k Q r e q pq
  intro a na
  exact pq (.d (.cel a (.obj C))) (.ref a) (upd S a (ExO2 (.ref C) none a)) _ as cs (r.ext na _) (r.lay na _) ⟨rfl, upd_same⟩ (q a)
theorem u_dErr0 {en : En} {cs : Cs} {k : Z → Cs → Prop} : dErr0 C en cs k = ∀ a, k (.d (.cel a (.obj C))) cs := nd rfl
end
end DL
set_option maxHeartbeats 2000000
set_option autoImplicit false
namespace DL
open PySem PySem.Spec PyProof.Rows L2
section
variable {X : Cx} {pos p p2 : Pos}
def ErV (H : Hp) (a E : Addr) : Prop := ∃ d : Option Addr, H a = some (ExO2 (.ref E) d a) ∧ ∀ dx, d = some dx → ∃ fs, H dx = some (.xd fs)
theorem erV_inst {pins : List (Addr × Obj)} {σ : L2.St} {H : Hp} {s : Shared} {a E : Addr} (I : Inv X pins σ H s) (h : ErV H a E) : ∃ oe od, PySem.W.InstAt s.heap a oe E od := by
  obtain ⟨d, h1, h2⟩ := h
  obtain ⟨⟨oe, vs, e, z, dt, _⟩, _, _⟩ := I.hok a _ h1
  cases d with
  | none => exact ⟨oe, none, e, z.1, by unfold PySem.W.notCls; rw [dt] <;> rfl, by rw [z.2]; trivial⟩
  | some dx =>
    obtain ⟨fs, hx⟩ := h2 dx rfl
    obtain ⟨mA, hns, hr⟩ := (show ObjOk X.prog X.w H s.heap dx (.xd fs) from I.hok dx _ hx)
    obtain ⟨od, ho, hl⟩ := lookIn_ns hns
    exact ⟨oe, some od, e, z.1, by unfold PySem.W.notCls; rw [dt] <;> rfl, by rw [z.2]; exact ho⟩
def rIsV (K : PySem.W.Frag) : List V → Hp → VK → Prop := fun xs H Q => ∃ (a E : Addr) (c : V) (cv : Value) (b : Bool), xs = [.ref a, c] ∧ ErV H a E ∧ ExcC K E ∧ (∀ u, RelV c u → u = cv) ∧ PySem.W.kitOne K (.ref E) cv = some b ∧ Q (.bl b) H
theorem call_isV : CallR X (.builtin "isinstance") (rIsV X.K) := by
  intro pins s σ H xs us Q I r h
  obtain ⟨a, E, c, cv, b, rfl, hv, C, hcv, e, q⟩ := h
  cases r with
  | cons rx rr =>
    cases rr with
    | cons rt rr =>
      cases rr
      cases rx
      have ec := hcv _ rt
      subst ec
      obtain ⟨oe, od, J⟩ := erV_inst I hv
      exact PySem.W.kia_one (PySem.W.kitx_exc (by obtain ⟨cd, hc, _⟩ := PySem.W.any_some C.hd; rw [hc]; rfl) C.hg C.hk C.hs C.ha C.hn C.ht C.hm) I.kIn J e (fun z => nomatch z) fun tk => ⟨.bl b, H, I.kept (t' := tk) fun _ _ z => z, rfl, q⟩
def isErr (E : Addr) (z : D) : Prop := ∃ a, z = .cel a (.obj E) ∨ ∃ b ns ds, z = .cel a (.cel E (.ob b ns ds))
theorem isErr_at {K : PySem.W.Frag} {S H : Hp} {E : Addr} {z : D} {v : V} (e : Sub S H) (h : isErr E z) (i : Is K S z v) : ∃ a, v = .ref a ∧ ErV H a E := by
  obtain ⟨a, rfl | ⟨b, ns, ds, rfl⟩⟩ := h
  · exact ⟨a, i.1, none, e _ _ i.2, fun dx z => nomatch z⟩
  · obtain ⟨rfl, dx, vs, h1, h2, _⟩ := i
    exact ⟨a, rfl, some dx, e _ _ h1, fun dx' z => by cases z; exact ⟨_, e _ _ h2⟩⟩
def dIsV (ok : Addr → Prop) (bl : Addr → Bool) (de : DE) : DE := fun en cs k => de en cs fun z cs1 => ∃ x E, z = .d x ∧ isErr E x ∧ ok E ∧ k (.d (.bl (bl E))) cs1
theorem q_isV {ok : Addr → Prop} {C : Addr} {y : Str} {e : Expr} {te : TE} {de : DE} (hx : ∀ E, ok E → ExcC X.K E) (hk : ∀ E, ok E → PySem.W.kitOne X.K (.ref E) (.ref C) = some (decide (E = C))) (hm : X.mg "isinstance" = none) (hC : X.mg y = some (.ref C)) (he : QE X e te de) (hg : Gl X "isinstance" := by rfl) (hg2 : Gl X y := by rfl) (hdb2 : (y == ("__debug__" : Str)) = false := by decide)
    (hs : starEach [e, .Name y p2] X.env = (false, eval e X.env) :: starEach [.Name y p2] X.env := by rfl) (hs2 : starEach [.Name y p2] X.env = (false, eval (.Name y p2) X.env) :: starEach [] X.env := by rfl)
    (hpl : (backTo pos (starEach [.Name y p2] X.env)).any (·.1) = false := by rfl) :
    QE X (.Call (.Name "isinstance" p) [e, .Name y p2] [] pos) (tCB (rIsV X.K) (tCons te (tCons (tC (.ref C)) tNil))) (dIsV ok (fun E => decide (E = C)) de) := by
  have hn : PE X (.Name y p2) (tC (.ref C)) := ⟨fun pins s σ H Q I h => ld_glob I hg2 hC ⟨.ref C, H, I, rfl, h⟩ hdb2⟩
  refine ⟨pe_callB (p := p) (pos := pos) call_isV hg hm PyProof.Rows.boot_isinstance (pa_cons he.pe (pa_cons hn pa_nil hs2) hs) (by decide) (by decide) hs hpl, ?_⟩
  intro σ H S as en cs k Q r ev q pq
  refine he.sem.use r ev q fun z v S1 H1 as1 cs1 e1 r1 v1 q1 => ?_
  obtain ⟨x, E, rfl, hx1, ho, q1⟩ := q1
  obtain ⟨a, rfl, hv⟩ := isErr_at r1.sub hx1 v1
  exact ⟨a, E, .ref C, .ref C, _, rfl, hv, hx E ho, fun u hu => hu, hk E ho, pq (.d (.bl _)) (.bl _) S1 H1 as1 cs1 e1 r1 rfl q1⟩
theorem q_isVt {ok : Addr → Prop} {y : Str} {n : String} {e : Expr} {te : TE} {de : DE} (hx : ∀ E, ok E → ExcC X.K E) (hk : ∀ E, ok E → PySem.W.kitOne X.K (.ref E) (.type n) = some true) (hm : X.mg "isinstance" = none) (hC : X.mg y = none) (hv : bootBuiltins y = some (.type n)) (he : QE X e te de) (hg : Gl X "isinstance" := by rfl) (hg2 : Gl X y := by rfl) (hdb2 : (y == ("__debug__" : Str)) = false := by decide) (hnn : y ≠ "__name__" := by decide)
    (hs : starEach [e, .Name y p2] X.env = (false, eval e X.env) :: starEach [.Name y p2] X.env := by rfl) (hs2 : starEach [.Name y p2] X.env = (false, eval (.Name y p2) X.env) :: starEach [] X.env := by rfl)
    (hpl : (backTo pos (starEach [.Name y p2] X.env)).any (·.1) = false := by rfl) :
    QE X (.Call (.Name "isinstance" p) [e, .Name y p2] [] pos) (tCB (rIsV X.K) (tCons te (tCons (tC (.ty n)) tNil))) (dIsV ok (fun _ => true) de) := by
  refine ⟨pe_callB (p := p) (pos := pos) call_isV hg hm PyProof.Rows.boot_isinstance (pa_cons he.pe (pa_cons (pe_bltn hg2 hC hv rfl hnn hdb2) pa_nil hs2) hs) (by decide) (by decide) hs hpl, ?_⟩
  intro σ H S as en cs k Q r ev q pq
  refine he.sem.use r ev q fun z v S1 H1 as1 cs1 e1 r1 v1 q1 => ?_
  obtain ⟨x, E, rfl, hx1, ho, q1⟩ := q1
  obtain ⟨a, rfl, hv⟩ := isErr_at r1.sub hx1 v1
  exact ⟨a, E, .ty n, .type n, _, rfl, hv, hx E ho, fun u hu => hu, hk E ho, pq (.d (.bl _)) (.bl _) S1 H1 as1 cs1 e1 r1 rfl q1⟩
def dErF (ok : Addr → Prop) (f : Str) (de : DE) : DE := fun en cs k => de en cs fun z cs1 => ∃ a E b ns ds d, z = .d (.cel a (.cel E (.ob b ns ds))) ∧ ok E ∧ (ns.zip ds).lookup f = some d ∧ k (.d d) cs1
def tErF (K : PySem.W.Frag) (f : Str) (te : TE) : TE := fun σ H Q => te σ H fun x H1 => ∃ (a E dx : Addr) (fs : List (Str × V)) (v : V), x = .ref a ∧ H1 a = some (ExO2 (.ref E) (some dx) a) ∧ H1 dx = some (.xd fs) ∧ XfC K E ∧ PySem.W.findIn K (.ref E) f = some none ∧ fs.lookup f = some v ∧ Q v H1
theorem pe_erF {f : Str} {e : Expr} {te : TE} (he : PE X e te) (hb : attributeBase e f X.env (eval e X.env) = eval e X.env := by rfl) : PE X (.Attribute e f pos) (tErF X.K f te) := by
  refine ⟨fun pins s σ H Q I h => ?_⟩
  refine attr_of hb (thn (he.run pins s σ H _ I h) fun u s1 hh => ?_)
  obtain ⟨x, H1, I1, rx, a, E, dd, fs, v, ex, h1, ea, T, hno, l, q⟩ := hh
  subst ex
  obtain rfl : u = Value.ref a := rx
  obtain ⟨⟨oe, vs, ho1, z, dt, _⟩, _, _⟩ := I1.hok a _ h1
  obtain ⟨mA, hns, hr⟩ := (show ObjOk X.prog X.w H1 s1.heap dd (.xd fs) from I1.hok dd _ ea)
  obtain ⟨od, ho, hl⟩ := lookIn_ns hns
  obtain ⟨u, hu, ru⟩ := RelO.some_of (v := v) (o := mA f) (by rw [← l]; exact hr f)
  have J : PySem.W.InstAt s1.heap a oe E (some od) := ⟨ho1, z.1, by unfold PySem.W.notCls; rw [dt] <;> rfl, by rw [z.2]; exact ho⟩
  exact HandSPX.exc_get I1.kIn J T.ga T.gg T.exC (PySem.W.findObj_own T.hdC hno rfl (by rw [hl, hu])) (handed_of ru) ⟨v, H1, I1.tok _, ru, q⟩
theorem is_lookup {K : PySem.W.Frag} {S : Hp} {f : Str} : ∀ {ns : List Str} {ds : List D} {vs : List V} {d : D}, IsL K S ds vs → ns.length = ds.length → (ns.zip ds).lookup f = some d → ∃ v, (ns.zip vs).lookup f = some v ∧ Is K S d v
  | [], _, _, _, _, _, h => by simp at h
  | n :: ns, [], _, _, _, h, _ => by simp at h
  | n :: ns, d0 :: ds, vs, d, i, hl, h => by
    obtain ⟨v, r, rfl, i1, i2⟩ := i
    simp only [List.zip_cons_cons, List.lookup_cons] at h ⊢
    cases q : (f == n) with
    | true =>
      rw [q] at h
      cases h
      exact ⟨v, rfl, i1⟩
    | false =>
      rw [q] at h
      exact is_lookup i2 (by simpa using hl) h
theorem q_erF {ok : Addr → Prop} {f : Str} {e : Expr} {te : TE} {de : DE} (hx : ∀ E, ok E → XfC X.K E) (no : ∀ E, ok E → PySem.W.findIn X.K (.ref E) f = some none) (he : QE X e te de) (hb : attributeBase e f X.env (eval e X.env) = eval e X.env := by rfl) : QE X (.Attribute e f pos) (tErF X.K f te) (dErF ok f de) := by
  refine ⟨pe_erF he.pe hb, ?_⟩
  intro σ H S as en cs k Q r ev q pq
  refine he.sem.use r ev q fun z v S1 H1 as1 cs1 e1 r1 v1 q1 => ?_
  obtain ⟨a, E, b, ns, ds, d, rfl, ho, hl, q1⟩ := q1
  obtain ⟨rfl, dx, vs, h1, h2, h3, h4⟩ := v1
  obtain ⟨v, lv, iv⟩ := is_lookup h4 h3 hl
  exact ⟨a, E, dx, _, v, rfl, r1.sub _ _ h1, r1.sub _ _ h2, hx E ho, no E ho, lv, pq (.d d) v S1 H1 as1 cs1 e1 r1 iv q1⟩
end
end DL
set_option maxHeartbeats 2000000
set_option autoImplicit false
namespace DL
open PySem PySem.Spec PyProof.Rows L2
def spE1 (K : PySem.W.Frag) (f : Str) : Sp := fun vs H Q _ => ∃ (a C : Addr) (v : V), vs = [.ref a, v] ∧ OexC K C ∧ PySem.W.findIn K (.ref C) f = some none ∧ H a = some (exo a C none) ∧ ∀ dx, H dx = none → dx ≠ a → Q .non (upd (upd H dx (exd dx [(f, v)])) a (exo a C (some dx)))
section
variable {P : Program} {w : World} {K : PySem.W.Frag} {mg : Str → Option Value} {base : Heap}
theorem init_one {f qual p : Str} {st : Stmt} {fI : Addr} {fd : FuncData} {k : Nat} {N : List Str} (F : Fun K "__init__" qual st fI fd) (S : FnScope N (["self", p] : List Str) (defScope st)) (hN : N = (["self", p] : List Str))
    (der : ∀ (cdv : Value) (A : Around) (outer : List Env) (s : Shared) (H : Hp) (E : XK), PSs (cxOf CX0 P w K mg base N qual (defScope st) fI cdv A outer s H E).nox (defBody st) (tOst K f (tVar 0) (tVar 1))) : FnOk P w K mg base CX0 (k + 1) fI fd (["self", p] : List Str) (spE1 K f) := by
  obtain ⟨oc, od, kV, doc, pm, an, cdv, ct, osl, rfl, lk, hcd⟩ := F.ex
  refine fn_of lk hcd S (fun vs H Q E ⟨a, C, v, h, _⟩ => by rw [h]; rfl) fun A outer s H vs Q E hr hsp => ?_
  refine ⟨_, (der cdv A outer s H E).nox, ?_⟩
  obtain ⟨a, C, v, rfl, T, hno, he, q⟩ := hsp
  have st0 : L2.start N [.ref a, v] = [some (.ref a), some v] := by rw [hN]; rfl
  rw [st0]
  exact ⟨v, rfl, .ref a, rfl, a, C, rfl, T, hno, .inl ⟨he, q⟩⟩
def spE2 (K : PySem.W.Frag) (f g : Str) : Sp := fun vs H Q _ => ∃ (a C : Addr) (v u : V), vs = [.ref a, v, u] ∧ OexC K C ∧ PySem.W.findIn K (.ref C) f = some none ∧ PySem.W.findIn K (.ref C) g = some none ∧ H a = some (exo a C none) ∧ ∀ dx, H dx = none → dx ≠ a → Q .non (upd (upd (upd H dx (exd dx [(f, v)])) a (exo a C (some dx))) dx (exd dx [(g, u), (f, v)]))
theorem init_two {f g qual p p' : Str} {st : Stmt} {fI : Addr} {fd : FuncData} {k : Nat} {N : List Str} (F : Fun K "__init__" qual st fI fd) (S : FnScope N (["self", p, p'] : List Str) (defScope st)) (hN : N = (["self", p, p'] : List Str))
    (der : ∀ (cdv : Value) (A : Around) (outer : List Env) (s : Shared) (H : Hp) (E : XK), PSs (cxOf CX0 P w K mg base N qual (defScope st) fI cdv A outer s H E).nox (defBody st) (tSeq (tOst K f (tVar 0) (tVar 1)) (tOst K g (tVar 0) (tVar 2)))) : FnOk P w K mg base CX0 (k + 1) fI fd (["self", p, p'] : List Str) (spE2 K f g) := by
  obtain ⟨oc, od, kV, doc, pm, an, cdv, ct, osl, rfl, lk, hcd⟩ := F.ex
  refine fn_of lk hcd S (fun vs H Q E ⟨a, C, v, u, h, _⟩ => by rw [h]; rfl) fun A outer s H vs Q E hr hsp => ?_
  refine ⟨_, (der cdv A outer s H E).nox, ?_⟩
  obtain ⟨a, C, v, u, rfl, T, hno, hno2, he, q⟩ := hsp
  have st0 : L2.start N [.ref a, v, u] = [some (.ref a), some v, some u] := by rw [hN]; rfl
  rw [st0]
  refine ⟨v, rfl, .ref a, rfl, a, C, rfl, T, hno, .inl ⟨he, fun dx hd ne => ?_⟩⟩
  refine ⟨u, rfl, .ref a, rfl, a, C, rfl, T, hno2, .inr ⟨dx, [(f, v)], upd_same, ?_, by simp, q dx hd ne⟩⟩
  rw [upd_ne ne, upd_same]
end
section
variable {X : Cx} {pos p : Pos} {x f : Str} {C fI : Addr} {fd : FuncData} {k : Nat} {ps : List Str} {e : Expr} {es : List Expr} {ta : TA} {da : DA}
def dErr1 (C : Addr) (f : Str) (a : DA) : DE := fun en cs k => a en cs fun zs cs1 => ∃ d, zs = [.d d] ∧ ∀ q, k (.d (.cel q (.cel C (.ob 0 [f] [d])))) cs1
theorem q_err1 (T : OexC X.K C) (hno : PySem.W.findIn X.K (.ref C) f = some none) (iC : PySem.W.findIn X.K (.ref C) "__init__" = some (some (.ref fI))) (tI : PySem.W.typeIn X.K (.ref fI) = some (.type "function"))
    (F1 : FnOk X.prog X.w X.K X.mg X.base CX0 k fI fd ps (spE1 X.K f)) (hr : Room (k + 1) X.A) (hb : L2.Binds X.K fd ps []) (hm : X.mg x = some (.ref C)) (ha : QA X (e :: es) ta da) (hg : Gl X x := by rfl)
    (hdb : (x == ("__debug__" : Str)) = false := by decide) (he : starEach (e :: es) X.env = (false, eval e X.env) :: starEach es X.env := by rfl) (hpl : (backTo pos (starEach es X.env)).any (·.1) = false := by rfl) :
    ∃ te : TE, QE X (.Call (.Name x p) (e :: es) [] pos) te (dErr1 C f da) := by
  refine ⟨_, pe_of_mk (L2.pmk_oex (p := p) (pos := pos) T iC tI F1 hr hb .nil pass0 hg hm ha.pa hdb he hpl), ?_⟩
  intro σ H S as en cs kk Q rp ev q pq
  refine ha.sem σ H S as en cs _ _ rp ev q fun zs vs S1 H1 as1 cs1 e1 r1 v1 q1 => ?_
  obtain ⟨d, rfl, q1⟩ := q1
  obtain ⟨v, r, rfl, i1, i2⟩ := v1
  have i2 : r = [] := i2
  subst i2
  refine ⟨by simp, fun a na => ?_⟩
  refine ⟨a, C, v, rfl, T, hno, upd_same, fun dx hd ne => ⟨rfl, dx, [(f, v)], upd_same, ?_, ?_, ?_⟩⟩
  · rw [upd_ne ne, upd_same]
  · rw [upd_ne ne] at hd
    exact hd
  · rw [upd_ne ne] at hd
    have eH : upd (L2.del (upd (upd (upd H1 a (exo a C none)) dx (exd dx [(f, v)])) a (exo a C (some dx))) a) dx (.xd [(f, v)]) = upd H1 dx (.xd [(f, v)]) := by
      funext b
      by_cases hb2 : b = dx
      · subst hb2
        rw [upd_same, upd_same]
      · rw [upd_ne hb2, upd_ne hb2]
        by_cases hba : b = a
        · subst hba
          rw [L2.del_same, na]
        · rw [L2.del_ne hba, upd_ne hba, upd_ne hb2, upd_ne hba]
    rw [eH]
    intro a' na'
    have rl := r1.lay hd (.xd [(f, v)])
    have ex1 := r1.ext hd (.xd [(f, v)])
    have ne2 : a' ≠ dx := fun z => by
      rw [z, upd_same] at na'
      cases na'
    refine pq (.d (.cel a' (.cel C (.ob 0 [f] [d])))) (.ref a') _ _ as1 cs1 ((e1.trans ex1).trans (rl.ext na' (ExO2 (.ref C) (some dx) a'))) (rl.lay na' _) ⟨rfl, dx, [v], upd_same, ?_, rfl, v, [], rfl, ?_, rfl⟩ (q1 a')
    · rw [upd_ne (Ne.symm ne2), upd_same]
      rfl
    · exact Is.mono (Sub.trans ex1.sub (rl.ext na' (ExO2 (.ref C) (some dx) a')).sub) d v i1
def dErr2 (C : Addr) (f g : Str) (a : DA) : DE := fun en cs k => a en cs fun zs cs1 => ∃ d e, zs = [.d d, .d e] ∧ ∀ q, k (.d (.cel q (.cel C (.ob 0 [g, f] [e, d])))) cs1
theorem q_err2 {g : Str} (T : OexC X.K C) (hno : PySem.W.findIn X.K (.ref C) f = some none) (hno2 : PySem.W.findIn X.K (.ref C) g = some none) (iC : PySem.W.findIn X.K (.ref C) "__init__" = some (some (.ref fI))) (tI : PySem.W.typeIn X.K (.ref fI) = some (.type "function"))
    (F1 : FnOk X.prog X.w X.K X.mg X.base CX0 k fI fd ps (spE2 X.K f g)) (hr : Room (k + 1) X.A) (hb : L2.Binds X.K fd ps []) (hm : X.mg x = some (.ref C)) (ha : QA X (e :: es) ta da) (hg : Gl X x := by rfl)
    (hdb : (x == ("__debug__" : Str)) = false := by decide) (he : starEach (e :: es) X.env = (false, eval e X.env) :: starEach es X.env := by rfl) (hpl : (backTo pos (starEach es X.env)).any (·.1) = false := by rfl) :
    ∃ te : TE, QE X (.Call (.Name x p) (e :: es) [] pos) te (dErr2 C f g da) := by
  refine ⟨_, pe_of_mk (L2.pmk_oex (p := p) (pos := pos) T iC tI F1 hr hb .nil pass0 hg hm ha.pa hdb he hpl), ?_⟩
  intro σ H S as en cs kk Q rp ev q pq
  refine ha.sem σ H S as en cs _ _ rp ev q fun zs vs S1 H1 as1 cs1 e1 r1 v1 q1 => ?_
  obtain ⟨d, d2, rfl, q1⟩ := q1
  obtain ⟨v, r, rfl, i1, v2⟩ := v1
  obtain ⟨u, r2, rfl, i3, i2⟩ := v2
  have i2 : r2 = [] := i2
  subst i2
  refine ⟨by simp, fun a na => ?_⟩
  refine ⟨a, C, v, u, rfl, T, hno, hno2, upd_same, fun dx hd ne => ⟨rfl, dx, [(g, u), (f, v)], ?_, upd_same, ?_, ?_⟩⟩
  · rw [upd_ne (Ne.symm ne), upd_same]
  · rw [upd_ne ne] at hd
    exact hd
  · rw [upd_ne ne] at hd
    have eH : upd (L2.del (upd (upd (upd (upd H1 a (exo a C none)) dx (exd dx [(f, v)])) a (exo a C (some dx))) dx (exd dx [(g, u), (f, v)])) a) dx (.xd [(g, u), (f, v)]) = upd H1 dx (.xd [(g, u), (f, v)]) := by
      funext b
      by_cases hb2 : b = dx
      · subst hb2
        rw [upd_same, upd_same]
      · rw [upd_ne hb2, upd_ne hb2]
        by_cases hba : b = a
        · subst hba
          rw [L2.del_same, na]
        · rw [L2.del_ne hba, upd_ne hb2, upd_ne hba, upd_ne hb2, upd_ne hba]
    rw [eH]
    intro a' na'
    have rl := r1.lay hd (.xd [(g, u), (f, v)])
    have ex1 := r1.ext hd (.xd [(g, u), (f, v)])
    have ne2 : a' ≠ dx := fun z => by
      rw [z, upd_same] at na'
      cases na'
    have sb := Sub.trans ex1.sub (rl.ext na' (ExO2 (.ref C) (some dx) a')).sub
    refine pq (.d (.cel a' (.cel C (.ob 0 [g, f] [d2, d])))) (.ref a') _ _ as1 cs1 ((e1.trans ex1).trans (rl.ext na' (ExO2 (.ref C) (some dx) a'))) (rl.lay na' _) ⟨rfl, dx, [u, v], upd_same, ?_, rfl, u, [v], rfl, Is.mono sb d2 u i3, v, [], rfl, Is.mono sb d v i1, rfl⟩ (q1 a')
    rw [upd_ne (Ne.symm ne2), upd_same]
    rfl
theorem u_dErr1 {en : En} {cs : Cs} {kk : Z → Cs → Prop} : dErr1 C f da en cs kk = da en cs fun zs cs1 => ∃ d, zs = [.d d] ∧ ∀ q, kk (.d (.cel q (.cel C (.ob 0 [f] [d])))) cs1 := nd rfl
theorem u_dErr2 {g : Str} {en : En} {cs : Cs} {kk : Z → Cs → Prop} : dErr2 C f g da en cs kk = da en cs fun zs cs1 => ∃ d e, zs = [.d d, .d e] ∧ ∀ q, kk (.d (.cel q (.cel C (.ob 0 [g, f] [e, d])))) cs1 := nd rfl
end
end DL
set_option maxHeartbeats 2000000
set_option autoImplicit false
namespace DL
open PySem PySem.Spec PyProof.Rows L2
section
variable {X : Cx} {pos p : Pos} {e : Expr} {es : List Expr} {ta : TA}
end
section
variable {K : PySem.W.Frag}
def oexB (K : PySem.W.Frag) (C : Addr) : Bool := match K.lookup C with
  | some ⟨.type "type", _, .cls cd, sl⟩ => (match cd.mro, sl.toList with
    | .ref C' :: bm, [_, _, _, _, some (.builtin n), _] => C' == C && n == "ValueError.__new__" && !cd.hasDel && cd.hasDict && PySem.HandSPX.refsVE bm
    | _, _ => false)
  | _ => false
theorem oexB_ok {C : Addr} (q : oexB K C = true) (h1 : PySem.W.findIn K (.ref C) "__setattr__" = some (some (.builtin "object.__setattr__"))) (h2 : PySem.W.subIn K (.ref C) (.type "BaseException") = some true) (h3 : PySem.W.typeIn K (.ref C) = some (.type "type")) (h4 : PySem.W.keepIn K (.ref C) = true) : OexC K C := by
  unfold oexB at q
  refine ⟨?_, h1, h2, h3, h4⟩
  split at q
  · rename_i dd cd sl ho
    split at q
    · rename_i C' bm k0 k1 k2 k3 n k5 hm hs
      simp only [Bool.and_eq_true, beq_iff_eq, Bool.not_eq_true'] at q
      obtain ⟨⟨⟨⟨rfl, rfl⟩, hdel⟩, hdi⟩, ht⟩ := q
      obtain ⟨nm, bs, mro, ns, qn, hd, sn, sub, ab, col, del⟩ := cd
      dsimp only at hm hdel hdi
      subst hm hdel hdi
      have hsl : sl = #[k0, k1, k2, k3, some (.builtin "ValueError.__new__"), k5] := by
        obtain ⟨l⟩ := sl
        simp only at hs
        rw [hs]
      subst hsl
      exact ⟨nm, qn, ns, bs, bm, sn, sub, ab, col, dd, k0, k1, k2, k3, k5, ho, ht⟩
    · cases q
  · cases q
structure Er1 (P : Program) (w : World) (K : PySem.W.Frag) (mg : Str → Option Value) (base : Heap) (C : Addr) (f : Str) (k : Nat) : Prop where
  T : OexC K C
  no : PySem.W.findIn K (.ref C) f = some none
  ini : ∃ (fI : Addr) (fd : FuncData) (p : Str), PySem.W.findIn K (.ref C) "__init__" = some (some (.ref fI)) ∧ PySem.W.typeIn K (.ref fI) = some (.type "function") ∧ FnOk P w K mg base CX0 k fI fd (["self", p] : List Str) (spE1 K f) ∧ L2.Binds K fd (["self", p] : List Str) []
end
section
variable {X : Cx} {pos p : Pos} {x f : Str} {C : Addr} {k : Nat} {e : Expr} {es : List Expr} {ta : TA} {da : DA}
def dRaise1 (C : Addr) (f : Str) (a : DA) : DW → DS := fun w _ en cs => a en cs fun zs cs1 => ∃ d, zs = [.d d] ∧ w C [(f, d)] en cs1
end
def HzD (a : Addr) (d : Option Addr) (z : D) : Prop := match d with
  | none => z = .obj a
  | some dx => ∃ C ns ds, z = .cel a (.cel dx (.cel C (.ob 0 ns ds)))
structure ErrAtF (X : Cx) (a E : Addr) (z : D) : Prop where
  ex : ∃ (oe : Obj) (d : Option Addr), (a, oe) ∈ X.pn ∧ Zc (.ref E) d oe ∧ (∃ vs, oe.data = .fields vs) ∧ HzD a d z
  cls : ExcC X.K E
section
variable {X : Cx} {pos p p2 : Pos} {a E : Addr} {z : D}
end
end DL
set_option maxHeartbeats 2000000
set_option autoImplicit false
namespace DL
open PySem PySem.Spec PyProof.Rows L2
section
variable {X : Cx} {pos p p2 : Pos} {a E : Addr} {z : D}
def dIsEF (z : D) (b : Bool) (de : DE) : DE := fun en cs k => de en cs fun y cs1 => y = .d z ∧ k (.d (.bl b)) cs1
def dErHF (z : D) (f : Str) (de : DE) : DE := fun en cs k => de en cs fun y cs1 => y = .d z ∧ ∃ (a dx C : Addr) (ns : List Str) (ds : List D) (d : D), z = .cel a (.cel dx (.cel C (.ob 0 ns ds))) ∧ (ns.zip ds).lookup f = some d ∧ k (.d d) cs1
end
abbrev HSpecF := Addr → Addr → D → DSpec
structure FnDHF (P : Program) (w : World) (K : PySem.W.Frag) (mg : Str → Option Value) (base : Heap) (k : Nat) (f : Addr) (fd : FuncData) (ps : List Str) (ok : Addr → Prop) (sp : HSpecF) : Prop where
  len : ∀ a C z zs cs q, sp a C z zs cs q → zs.length = ps.length
  run : ∀ (A : Around) (outer : List Env) (s : Shared) (H : Hp) (us : List Value) (vs : List V) (Q : VK) (p : Addr × Obj) (C : Addr) (d : Option Addr) (z : D), ok C → L2H.RoomH k A → L2H.Hot1 A p → L2H.PinOk outer H s p → Zc (.ref C) d p.2 → HzD p.1 d z → A.guards = some [] → Env0 P w K mg base A outer s H → BindsTo s fd ⟨us, []⟩ (ps.zip us) → Vals vs us → spD K (sp p.1 C z) vs H Q →
    codeAny (model P w) A (.call (.ref f) ⟨us, []⟩) (CR CX0 outer P w H s Q E0) s
def GotHF (P : Program) (w : World) (K : PySem.W.Frag) (mg : Str → Option Value) (base : Heap) (name : Str) (k : Nat) (ps : List Str) (ok : Addr → Prop) (sp : HSpecF) : Prop :=
  ∃ (f : Addr) (fd : FuncData), mg name = some (.ref f) ∧ PySem.W.keepIn K (.ref f) = true ∧ L2.Binds K fd ps [] ∧ FnDHF P w K mg base k f fd ps ok sp
section
variable {P : Program} {w : World} {K : PySem.W.Frag} {mg : Str → Option Value} {base : Heap} {name : Str} {k : Nat} {ps : List Str} {ok : Addr → Prop} {sp : HSpecF}
theorem GotHF.mk {st : Stmt} {N : List Str} (T : DefT K mg name st ps) (Sc : FnScope N ps (defScope st)) (len : ∀ a C z zs cs q, sp a C z zs cs q → zs.length = ps.length) (t : Addr → Addr → D → DS)
    (der : ∀ (f : Addr) (cdv : Value) (A : Around) (outer : List Env) (s : Shared) (H : Hp) (p : Addr × Obj) (C : Addr) (z : D), ok C → L2H.HotC (L2H.cxH CX0 P w K mg base N name (defScope st) f cdv A outer s H E0 p).nox → (ExcC K C → ErrAtF (L2H.cxH CX0 P w K mg base N name (defScope st) f cdv A outer s H E0 p).nox p.1 C z) → L2H.RoomH k (A.deeper (envOfC name (defScope st) s.heap.objs.size f cdv)) → (A.deeper (envOfC name (defScope st) s.heap.objs.size f cdv)).guards = some [] →
      ∃ ts : TS, QSs (L2H.cxH CX0 P w K mg base N name (defScope st) f cdv A outer s H E0 p).nox (defBody st) ts (t p.1 C z))
    (rd : ∀ a C z zs cs q, sp a C z zs cs q → t a C z (endD cs.length q) (startD N zs) cs) : GotHF P w K mg base name (k + 1) ps ok sp := by
  obtain ⟨f, fd, F, g, b⟩ := T
  refine ⟨f, fd, g, F.kp, b, len, fun A outer s H us vs Q p C d z hC hr hot hpin hz hh hgd e0 hb r hsp => ?_⟩
  obtain ⟨oc, od, kV, doc, pm, an, cdv, ct, osl, rfl, lk, hcd⟩ := F.ex
  obtain ⟨S, as, zs, cs, q, rep, vz, hs, pq⟩ := hsp
  have hl : vs.length = ps.length := vz.len.trans (len _ _ _ _ _ _ hs)
  have KX : K.In s.heap := e0.mod.kin.keeps fun b o e => (e0.bs b o e).1
  have lim : s.heap.NoLimit := e0.mod.nolimit.keeps fun b o e => (e0.bs b o e).1
  refine codeAny_call_function hr.depth (KX _ _ lk) rfl Sc.co Sc.gen rfl (PySem.W.codeRec_of KX hcd) (hb _ _ _ _ ?_)
  refine wpAny_newFunctionEnv_cells Sc.kind (fun ⟨n, v⟩ hy => (Sc.par n (List.of_mem_zip hy).1).imp (fun h => h) fun h => ⟨h, PySem.W.cellsFrom_some _ _ _ (.inl h)⟩) fun env he s1 x => ?_
  subst he
  refine ⟨lim.keeps x.toInCall.keep, codeAny_func ?_⟩
  have hf : ∃ vs, p.2.data = .fields vs := let ⟨vs, h, _⟩ := hot.2; ⟨vs, h⟩
  obtain ⟨ts, dd⟩ := der f cdv A outer s H p C z hC ⟨p, hot, List.mem_singleton.mpr rfl⟩ (fun ec => ⟨⟨p.2, d, List.mem_singleton.mpr rfl, hz, hf, hh⟩, ec⟩) (hr.deeper _) hgd
  have I : Inv (L2H.cxH CX0 P w K mg base N name (defScope st) f cdv A outer s H E0 p) [] (L2.start N vs) H s1 := L2H.inv_startH Sc hpin e0 hl r x
  have body : ts { nx := fun _ H' => Q .non H', rt := Q } (L2.start N vs) H := by
    refine dd.sem (L2.start N vs) H S as (startD N zs) cs _ _ rep (env_start vz) (rd _ _ _ zs cs q hs) ⟨fun σ' S' H' as' en' cs' e' r' ev' q' => ?_, ?_, fun _ _ _ _ _ _ _ _ _ h => h, fun _ _ _ _ _ _ _ _ _ h => h⟩
    · rw [← rep.len] at q'
      exact pq (.d .non) .non S' H' _ _ e'.take (r'.take as.length) rfl q'
    · rw [← rep.len]
      exact fin_pq pq
  refine wpAny_mono (dd.pss.nox.run [] s1 (L2.start N vs) H _ I body) (fun fl s' hs => ?_) fun e s' hs => hs
  cases fl with
  | ret u =>
    obtain ⟨v, σ', H', J, rv, q⟩ := hs
    exact ⟨v, H', J.os, J.bare, J.base, J.hok, rv, q⟩
  | next =>
    obtain ⟨σ', H', J, q⟩ := hs
    exact ⟨.non, H', J.os, J.bare, J.base, J.hok, rfl, q⟩
  | brk => exact hs.elim fun _ h => h.elim fun _ h => h.2.elim
  | cont => exact hs.elim fun _ h => h.elim fun _ h => h.2.elim
end
section
variable {X : Cx} {pos pos' np p p2 : Pos} {x n : Str} {i : Nat} {body : List Stmt} {db : DW → DS}
def dSuRetF (sp : HSpecF) (da : DA) : Addr → Addr → D → DS := fun a C z D en cs => da en cs fun zs cs1 => sp a C z zs cs1 D.rt
end
section
variable {X : Cx} {pos p p2 : Pos} {cA : Str → Addr} {R ys : List Str} {g C a : Addr} {z : D}
end
section
variable {D0 : DEnds} {en : En} {cs : Cs} {k : Z → Cs → Prop} {w : DW}
theorem u_dIsEF {z : D} {b : Bool} {de : DE} : dIsEF z b de en cs k = de en cs fun y cs1 => y = .d z ∧ k (.d (.bl b)) cs1 := nd rfl
theorem u_dErHF {z : D} {f : Str} {de : DE} : dErHF z f de en cs k = de en cs fun y cs1 => y = .d z ∧ ∃ (a dx C : Addr) (ns : List Str) (ds : List D) (d : D), z = .cel a (.cel dx (.cel C (.ob 0 ns ds))) ∧ (ns.zip ds).lookup f = some d ∧ k (.d d) cs1 := nd rfl
theorem u_dRaise1 {C : Addr} {f : Str} {da : DA} : dRaise1 C f da w D0 en cs = da en cs fun zs cs1 => ∃ d, zs = [.d d] ∧ w C [(f, d)] en cs1 := nd rfl
theorem u_dSuRetF {sp : HSpecF} {da : DA} {a C : Addr} {z : D} : dSuRetF sp da a C z D0 en cs = da en cs fun zs cs1 => sp a C z zs cs1 D0.rt := nd rfl
end
end DL
set_option maxHeartbeats 2000000
set_option autoImplicit false
namespace DL
open PySem PySem.Spec PyProof.Rows L2
structure Oe1 (K : PySem.W.Frag) (C : Addr) (f : Str) : Prop where
  T : OexC K C
  no : PySem.W.findIn K (.ref C) f = some none
def XfAll (K : PySem.W.Frag) (R : List Addr) (f : Str) : Prop := ∀ C ∈ R, XfC K C ∧ PySem.W.findIn K (.ref C) f = some none
theorem XfAll.at {K : PySem.W.Frag} {cA : Str → Addr} {R : List Str} {f : Str} {C : Addr} (h : XfAll K (R.map cA) f) (hC : okC cA R C) : XfC K C ∧ PySem.W.findIn K (.ref C) f = some none := by
  obtain ⟨E, hE, rfl⟩ := hC
  exact h _ (List.mem_map.mpr ⟨E, hE, rfl⟩)
namespace Hk
def oe1C (x f : Str) (K : FrK) : Bool := oexB K (He.ga K x) && (He.eqO (PySem.W.findIn K (.ref (He.ga K x)) "__setattr__") (some (some (.builtin "object.__setattr__"))) && (decide (PySem.W.subIn K (.ref (He.ga K x)) (.type "BaseException") = some true) && (decide (PySem.W.typeIn K (.ref (He.ga K x)) = some (.type "type")) && (PySem.W.keepIn K (.ref (He.ga K x)) && He.eqO (PySem.W.findIn K (.ref (He.ga K x)) f) (some none)))))
theorem oe1C_ok {x f : Str} {K : FrK} (h : oe1C x f K = true) : Oe1 K (He.ga K x) f := by
  unfold oe1C at h
  simp only [Bool.and_eq_true] at h
  obtain ⟨h1, h2, h3, h4, h5, h6⟩ := h
  exact ⟨oexB_ok h1 (He.eqO_ok h2) (of_decide_eq_true h3) (of_decide_eq_true h4) h5, He.eqO_ok h6⟩
def xfC (R : List Str) (f : Str) (K : FrK) : Bool := R.all fun E => He.eqO (PySem.W.findIn K (.ref (He.ga K E)) "__getattribute__") (some (some (.builtin "BaseException.__getattribute__"))) && (He.eqO (PySem.W.findIn K (.ref (He.ga K E)) "__getattr__") (some none) && (decide (PySem.W.subIn K (.ref (He.ga K E)) (.type "BaseException") = some true) && (PySem.W.hasDictIn K (He.ga K E) && He.eqO (PySem.W.findIn K (.ref (He.ga K E)) f) (some none))))
theorem xfC_ok {R : List Str} {f : Str} {K : FrK} (h : xfC R f K = true) : XfAll K (R.map (He.ga K)) f := fun C hC => by
  obtain ⟨E, hE, rfl⟩ := List.mem_map.mp hC
  have h1 := List.all_eq_true.mp h E hE
  simp only [Bool.and_eq_true] at h1
  obtain ⟨a, b, c, d, e⟩ := h1
  exact ⟨⟨He.eqO_ok a, He.eqO_ok b, of_decide_eq_true c, d⟩, He.eqO_ok e⟩
end Hk
section
variable {P : Program} {w : World} {K : PySem.W.Frag} {mg : Str → Option Value} {base : Heap} {C : Addr} {f p qual : Str} {st : Stmt} {N : List Str}
theorem er1_of (T : MethT K C "__init__" qual st (["self", p] : List Str)) (o : Oe1 K C f) (S : FnScope N (["self", p] : List Str) (defScope st)) (hN : N = (["self", p] : List Str))
    (der : ∀ (fI : Addr) (cdv : Value) (A : Around) (outer : List Env) (s : Shared) (H : Hp) (E : XK), PSs (cxOf CX0 P w K mg base N qual (defScope st) fI cdv A outer s H E).nox (defBody st) (tOst K f (tVar 0) (tVar 1))) : Er1 P w K mg base C f 1 := by
  obtain ⟨fI, fd, F, M, fn, b⟩ := T
  exact ⟨o.T, o.no, fI, fd, p, M.at_, by simpa [PySem.W.isFn] using M.fn, init_one F S hN (der fI), b⟩
end
end DL
set_option maxHeartbeats 4000000
set_option autoImplicit false
namespace DL
open PySem PySem.Spec PyProof.Rows L2
section
variable {P : Program} {w : World} {A : Around} {z TI TO i1 i2 l1 l2 S : Addr} {xs ys : Array Value}
structure ZAt (z TI TO i1 i2 l1 l2 S : Addr) (xs ys : Array Value) (i : Nat) (h : Heap) : Prop where
  pr : PySem.IsPair h TI (.ref i1) (.ref i2)
  a1 : h.IsListIter i1 l1 i
  a2 : h.IsListIter i2 l2 i
  e1 : h.IsList l1 xs
  e2 : h.IsList l2 ys
  zz : (IsZip h z TI TO .none ∧ ∃ a b, PySem.IsPair h TO a b) ∨ ∃ T f oT, PySem.IsZipHeld h z TI TO T f ∧ h.get? T = some oT ∧ T ≠ z ∧ T ≠ i1 ∧ T ≠ i2 ∧ T ≠ S
structure ZSep (z TI TO i1 i2 l1 l2 S : Addr) : Prop where
  s1 : S ≠ z
  s2 : S ≠ TI
  s3 : S ≠ TO
  s4 : S ≠ i1
  s5 : S ≠ i2
  s6 : S ≠ l1
  s7 : S ≠ l2
theorem ZAt.keep {i : Nat} {h h' : Heap} (st : ZAt z TI TO i1 i2 l1 l2 S xs ys i h) (q : ZSep z TI TO i1 i2 l1 l2 S) (k : ∀ b o, b ≠ S → h.get? b = some o → h'.get? b = some o) : ZAt z TI TO i1 i2 l1 l2 S xs ys i h' := by
  refine ⟨k _ _ q.s2.symm st.pr, st.a1.at fun o e => k _ o q.s4.symm e, st.a2.at fun o e => k _ o q.s5.symm e, st.e1.at fun o e => k _ o q.s6.symm e, st.e2.at fun o e => k _ o q.s7.symm e, ?_⟩
  rcases st.zz with ⟨u, a, b, v⟩ | ⟨T, f, oT, u, v, r1, r2, r3, r4⟩
  · exact .inl ⟨k _ _ q.s1.symm u, a, b, k _ _ q.s3.symm v⟩
  · exact .inr ⟨T, f, oT, k _ _ q.s1.symm u, k _ _ r4 v, r1, r2, r3, r4⟩
theorem ZAt.item {E : Value → Shared → Prop} {s : Shared} {i : Nat} {x y : Value} {Q : Option Value → Shared → Prop} (D : ZipApart z TI TO i1 i2 l1 l2) (lS : S < s.heap.objs.size) (st : ZAt z TI TO i1 i2 l1 l2 S xs ys i s.heap) (hx : xs[i]? = some x) (hy : ys[i]? = some y)
    (hQ : ∀ h', ZAt z TI TO i1 i2 l1 l2 S xs ys (i + 1) h' → PySem.IsPair h' s.heap.objs.size x y → h'.objs.size = s.heap.objs.size + 1 → (∀ c o, c ≠ z → c ≠ TO → c ≠ i1 → c ≠ i2 → s.heap.get? c = some o → h'.get? c = some o) → Q (some (.ref s.heap.objs.size)) { s with heap := h' }) :
    wpAny (model P w) A (pyNext (.ref z)) Q E s := by
  have far : ∀ {c o}, s.heap.get? c = some o → s.heap.objs.size ≠ c := fun e => Nat.ne_of_gt (Heap.lt_size e)
  obtain ⟨pr, a1, a2, e1, e2, zz⟩ := st
  have n1 : s.heap.objs.size ≠ i1 := let ⟨_, e, _⟩ := a1; far e
  have n2 : s.heap.objs.size ≠ i2 := let ⟨_, e, _⟩ := a2; far e
  rcases zz with ⟨u, a, b, v⟩ | ⟨T, f, oT, u, v, r1, r2, r3, r4⟩
  · refine wpAny_pyNext_zip_item D u pr v a1 a2 e1 e2 hx hy fun h' b1 b2 b3 b4 b5 b6 hk => ?_
    exact hQ h' ⟨hk _ _ D.TIz D.TITO D.TIi1 D.TIi2 pr, b3, b4, e1.at fun o e => hk _ o D.l1z D.l1TO D.l1i1 D.l1i2 e, e2.at fun o e => hk _ o D.l2z D.l2TO D.l2i1 D.l2i2 e, .inr ⟨_, false, _, b1, b5, far u, n1, n2, Nat.ne_of_gt lS⟩⟩ b5 b6 hk
  · refine PySem.wpAny_pyNext_zip_item_held D u v pr a1 a2 e1 e2 hx hy fun h' b1 b3 b4 b5 b6 hk => ?_
    exact hQ h' ⟨hk _ _ D.TIz D.TIi1 D.TIi2 pr, b3, b4, e1.at fun o e => hk _ o D.l1z D.l1i1 D.l1i2 e, e2.at fun o e => hk _ o D.l2z D.l2i1 D.l2i2 e, .inr ⟨T, true, oT, b1, hk _ _ r1 r2 r3 v, r1, r2, r3, r4⟩⟩ b5 b6 fun c o c1 _ c3 c4 e => hk c o c1 c3 c4 e
theorem ZAt.done {E : Value → Shared → Prop} {s : Shared} {i : Nat} {Q : Option Value → Shared → Prop} (hh : A.handled = none) (D : ZipApart z TI TO i1 i2 l1 l2) (st : ZAt z TI TO i1 i2 l1 l2 S xs ys i s.heap) (hend : xs[i]? = none ∨ ys[i]? = none)
    (hQ : ∀ h', (∀ c o, c ≠ z → c ≠ TO → c ≠ i1 → c ≠ i2 → s.heap.get? c = some o → h'.get? c = some o) → Q none { s with heap := h' }) : wpAny (model P w) A (pyNext (.ref z)) Q E s := by
  obtain ⟨pr, a1, a2, e1, e2, zz⟩ := st
  rcases zz with ⟨u, a, b, v⟩ | ⟨T, f, oT, u, v, r1, r2, r3, r4⟩
  · exact wpAny_pyNext_zip_end hh D u pr v a1 a2 e1 e2 hend fun h' hk => hQ h' hk
  · exact PySem.wpAny_pyNext_zip_end_held hh D u v pr a1 a2 e1 e2 hend fun h' hk => hQ h' fun c o c1 _ c3 c4 e => hk c o c1 c3 c4 e
structure ZGot (lo : Nat) (xs ys : Array Value) (h : Heap) (as : List Addr) : Prop where
  above : ∀ a ∈ as, lo ≤ a
  rise : as.Pairwise (· < ·)
  at_ : ∀ (j : Nat) (a : Addr), as[j]? = some a → ∃ x y, xs[j]? = some x ∧ ys[j]? = some y ∧ PySem.IsPair h a x y
theorem apart {lo : Nat} {a c : Addr} (h1 : lo ≤ a) (h2 : c < lo) : a ≠ c := fun e => Nat.lt_irrefl _ (Nat.lt_of_lt_of_le h2 (e ▸ h1))
structure ZNew (z TI TO i1 i2 l1 l2 : Addr) (xs ys : Array Value) (n : Nat) (h : Heap) : Prop where
  D : ZipApart z TI TO i1 i2 l1 l2
  hz : IsZip h z TI TO .none
  pr : PySem.IsPair h TI (.ref i1) (.ref i2)
  po : ∃ a b, PySem.IsPair h TO a b
  a1 : h.IsListIter i1 l1 0
  a2 : h.IsListIter i2 l2 0
  e1 : h.IsList l1 xs
  e2 : h.IsList l2 ys
  hn : n ≤ sizeLine
  nx : n ≤ xs.size
  ny : n ≤ ys.size
  nd : xs[n]? = none ∨ ys[n]? = none
theorem ZNew.keep {n : Nat} {h h' : Heap} (Z : ZNew z TI TO i1 i2 l1 l2 xs ys n h) (k : ∀ b o, (b = z ∨ b = TI ∨ b = TO ∨ b = i1 ∨ b = i2 ∨ b = l1 ∨ b = l2) → h.get? b = some o → h'.get? b = some o) : ZNew z TI TO i1 i2 l1 l2 xs ys n h' := by
  obtain ⟨D, hz, pr, ⟨a, b, po⟩, a1, a2, e1, e2, hn, nx, ny, nd⟩ := Z
  exact ⟨D, k _ _ (by simp) hz, k _ _ (by simp) pr, ⟨a, b, k _ _ (by simp) po⟩, a1.at fun o e => k _ o (by simp) e, a2.at fun o e => k _ o (by simp) e, e1.at fun o e => k _ o (by simp) e, e2.at fun o e => k _ o (by simp) e, hn, nx, ny, nd⟩
end
end DL
set_option maxHeartbeats 4000000
set_option autoImplicit false
namespace DL
open PySem PySem.Spec PyProof.Rows L2
section
variable {X : Cx} {pins : List (Addr × Obj)} {σ : L2.St}
end
section
variable {X : Cx}
end
end DL
set_option maxHeartbeats 4000000
set_option autoImplicit false
namespace DL
open PySem PySem.Spec PyProof.Rows L2
section
variable {X : Cx}
def tDictZip (K : PySem.W.Frag) (ta : TA) : TE := fun σ H Q => ta σ H fun vs H1 => ∃ (a b : Addr) (ks : List Key) (ys : List V), vs = [.ref a, .ref b] ∧ SqL K H1 a (ks.map kV) ∧ SqL K H1 b ys ∧ ks.length = ys.length ∧
  ∀ p, H1 p = none → Q (.ref p) (upd H1 p (.dK (mergeK [] (ks.zip ys))))
theorem kv_zip : ∀ {ks : List Key} {ys : List V} {us : List Value}, Vals ys us → KV (ks.zip ys) (ks.zip us)
  | [], _, _, _ => by simp only [List.zip_nil_left]; exact .nil
  | k :: ks, _, _, .nil => by simp only [List.zip_nil_right]; exact .nil
  | k :: ks, _, _, .cons h t => .cons ⟨rfl, h⟩ (kv_zip t)
theorem pe_dictZip {e e2 : Expr} {ta : TA} {p p2 q pos : Pos} (hc : X.calm = true) (hg : Gl X "dict") (hm : X.mg "dict" = none) (hg2 : Gl X "zip") (hm2 : X.mg "zip" = none) (ha : PA X [e, e2] ta)
    (na : starEach [.Call (.Name "zip" p2) [e, e2] [] q] X.env = (false, eval (.Call (.Name "zip" p2) [e, e2] [] q) X.env) :: starEach [] X.env)
    (hs : starEach [e, e2] X.env = (false, eval e X.env) :: starEach [e2] X.env) (hpl : (backTo q (starEach [e2] X.env)).any (·.1) = false) :
    PE X (.Call (.Name "dict" p) [.Call (.Name "zip" p2) [e, e2] [] q] [] pos) (tDictZip X.K ta) := by
  refine ⟨fun pins s σ H Q I h => ?_⟩
  refine Call_ (ld_blt I hg hm boot_dict (PyProof.Rows.callWith_type1 (args_cons (Call_ (ld_blt I hg2 hm2 PyProof.Rows.boot_zip (PyProof.Rows.callWith_type1 (thn (ha.run q pins s σ H _ I h) fun us s1 ⟨vs, H1, I1, r1, q1⟩ => ?_) hs hpl))) na) na))
  obtain ⟨a, b, ks, ys, ex, hqx, hqy, hlen, q1⟩ := q1
  subst ex
  cases r1 with
  | cons r rr =>
    cases rr with
    | cons r' rr =>
      cases rr
      cases r
      cases r'
      obtain ⟨its, rv, p1, z1⟩ := I1.list hqx
      obtain ⟨its2, rv2, p2', z2⟩ := I1.list hqy
      refine call_zip_2 p1.isList p2'.isList fun h' hz hTI hTO h1 h2 hsz hk => ?_
      refine args_nil ?_
      have I2 : Inv X pins σ H1 { s1 with heap := h' } := I1.kept (t' := s1.toks) hk
      have D := PySem.W.ktu_apart s1.heap.objs.size a b p1.lt p2'.lt
      have l1 := rv.length
      have l2 := rv2.length
      rw [List.length_map] at l1
      have sz : h'.objs.size = s1.heap.objs.size + 5 := hsz
      refine PySem.call_dict_pairs (knd := mixKind X.prog X.w) (kvs := ks.zip its2) (PySem.PairArg.zip (s1.heap.objs.size + 4) (s1.heap.objs.size + 2) (s1.heap.objs.size + 3) s1.heap.objs.size (s1.heap.objs.size + 1) a b D its.toArray its2.toArray) (I2.ok.hd hc)
        ⟨hz, hTI, ⟨_, _, hTO⟩, h1, h2, p1.isList.at fun o e => hk _ o e, p2'.isList.at fun o e => hk _ o e⟩ ⟨?_, fun i key v ⟨e1, e2⟩ => ?_⟩ ?_ fun h'' tk hd' hk2 => ?_
      · rw [List.length_zip]
        show min ks.length its2.length = min its.length its2.length
        omega
      · have g1 : its[i]? = some key := by simpa using e1
        have g2 : its2[i]? = some v := by simpa using e2
        have il := (List.getElem?_eq_some_iff.mp g1).1
        have kg : ks[i]? = some ks[i] := List.getElem?_eq_getElem (by omega)
        obtain ⟨u, hu, ru⟩ := rv.get (i := i) (x := kV ks[i]) (by rw [List.getElem?_map, kg]; rfl)
        rw [g1] at hu
        have eu : key = u := Option.some.inj hu
        subst eu
        exact ⟨ks[i], by rw [List.getElem?_zip_eq_some]; exact ⟨kg, g2⟩, kV_is ru⟩
      · show min its.length its2.length ≤ sizeLine
        omega
      · have kv := KV.merge (kvs := []) (vs := []) (kv_zip (ks := ks) rv2) .nil
        have ml : (mergeK [] (ks.zip ys)).length ≤ sizeLine := by
          refine Nat.le_trans (length_mergeK _ []) ?_
          rw [List.length_nil, Nat.zero_add, List.length_zip]
          omega
        have nsm : (h'.objs.size == sysModules) = false := beq_eq_false_iff_ne.mpr (Nat.ne_of_gt (Nat.lt_of_lt_of_le I1.big (show s1.heap.objs.size ≤ h'.objs.size by omega)))
        have k0 : ∀ b o, s1.heap.get? b = some o → h''.get? b = some o := fun b o e => hk2 b o (fun hm => by
          have lt : (b : Nat) < s1.heap.objs.size := Heap.lt_size e
          have ge : s1.heap.objs.size ≤ (b : Nat) := by
            simp only [List.mem_cons, List.not_mem_nil, or_false] at hm
            rcases hm with e | e | e | e
            · rw [e]; exact Nat.le_add_right _ _
            · rw [e]; exact Nat.le_add_right _ _
            · rw [e]; exact Nat.le_refl _
            · rw [e]; exact Nat.le_add_right _ _
          exact absurd lt (Nat.not_lt.mpr ge)) (hk b o e)
        refine ⟨.ref h'.objs.size, upd H1 h'.objs.size (.dK (mergeK [] (ks.zip ys))), I1.laid (t' := tk) k0 (by omega) (show ObjOk X.prog X.w _ _ _ (.dK (mergeK [] (ks.zip ys))) from ⟨ml, nsm, _, kv, hd'⟩), rfl, ?_⟩
        exact q1 _ (I1.hok.fresh (by omega))
end
def kyD : Key → D
  | .inl i => .int i
  | .inr x => .str x
theorem merge_new : ∀ (l acc : List (Key × V)), (l.map (·.1)).Nodup → (∀ p ∈ l, ∀ q ∈ acc, q.1 ≠ p.1) → mergeK acc l = acc ++ l
  | [], acc, _, _ => (List.append_nil acc).symm
  | p :: r, acc, nd, h => by
    obtain ⟨n1, n2⟩ := List.nodup_cons.mp nd
    have e : putK acc p.1 p.2 = acc ++ [p] := by
      unfold putK
      rw [if_neg]
      intro z
      obtain ⟨q, hq, e⟩ := List.any_eq_true.mp z
      exact h p List.mem_cons_self q hq (of_decide_eq_true e)
    show mergeK (putK acc p.1 p.2) r = _
    rw [e, merge_new r _ n2 fun a ha q hq => ?_, List.append_assoc]
    · rfl
    · rcases List.mem_append.mp hq with z | z
      · exact h a (List.mem_cons_of_mem _ ha) q z
      · rw [List.mem_singleton.mp z]
        exact fun e => n1 (List.mem_map.mpr ⟨a, ha, e.symm⟩)
theorem isL_keys {K : PySem.W.Frag} {S : Hp} : ∀ {ks : List Key} {vs : List V}, IsL K S (ks.map kyD) vs → vs = ks.map kV
  | [], _, h => h
  | k :: r, _, h => by
    obtain ⟨v, l, rfl, h1, h2⟩ := h
    rw [isL_keys h2]
    cases k with
    | inl i => exact congrArg (· :: _) (show v = V.int i from h1)
    | inr x => exact congrArg (· :: _) (show v = V.str x from h1)
theorem isK_zip {K : PySem.W.Frag} {S : Hp} : ∀ {ks : List Key} {ds : List D} {vs : List V}, IsL K S ds vs → ks.length = ds.length → IsK K S (ks.zip ds) (ks.zip vs)
  | [], _, _, _, _ => by simp only [List.zip_nil_left]; rfl
  | k :: ks, [], _, _, h => by simp at h
  | k :: ks, d :: ds, _, i, h => by
    obtain ⟨v, r, rfl, i1, i2⟩ := i
    exact ⟨v, ks.zip r, rfl, i1, isK_zip i2 (by simpa using h)⟩
def dDictZip (a b : DE) : DE := fun en cs k => a en cs fun x cs1 => b en cs1 fun y cs2 => ∃ (ks : List Key) (ds : List D), x = .d (.lst (ks.map kyD)) ∧ y = .d (.lst ds) ∧ ks.length = ds.length ∧ ks.Nodup ∧ k (.d (.dic (ks.zip ds))) cs2
theorem u_dDictZip (a b : DE) (en : En) (cs : Cs) (k : Z → Cs → Prop) : dDictZip a b en cs k = (a en cs fun x cs1 => b en cs1 fun y cs2 => ∃ (ks : List Key) (ds : List D), x = .d (.lst (ks.map kyD)) ∧ y = .d (.lst ds) ∧ ks.length = ds.length ∧ ks.Nodup ∧ k (.d (.dic (ks.zip ds))) cs2) := nd rfl
section
variable {X : Cx}
theorem q_dictZip {a b : Expr} {ta tb : TE} {da db : DE} {p p2 q pos : Pos} (hc : X.calm = true) (hm : X.mg "dict" = none) (hm2 : X.mg "zip" = none) (ha : QE X a ta da) (hb : QE X b tb db) (hg : Gl X "dict" := by rfl) (hg2 : Gl X "zip" := by rfl)
    (na : starEach [.Call (.Name "zip" p2) [a, b] [] q] X.env = (false, eval (.Call (.Name "zip" p2) [a, b] [] q) X.env) :: starEach [] X.env := by rfl)
    (hs : starEach [a, b] X.env = (false, eval a X.env) :: starEach [b] X.env := by rfl) (hs2 : starEach [b] X.env = (false, eval b X.env) :: starEach [] X.env := by rfl) (hpl : (backTo q (starEach [b] X.env)).any (·.1) = false := by rfl) :
    QE X (.Call (.Name "dict" p) [.Call (.Name "zip" p2) [a, b] [] q] [] pos) (tDictZip X.K (tCons ta (tCons tb tNil))) (dDictZip da db) := by
  refine ⟨pe_dictZip hc hg hm hg2 hm2 (pa_cons ha.pe (pa_cons hb.pe pa_nil hs2) hs) na hs hpl, ?_⟩
  intro σ H S as en cs k Q r ev qq pq
  refine ha.sem.use r ev qq fun z v S1 H1 as1 cs1 e1 r1 v1 q1 => ?_
  refine hb.sem.use r1 (ev.mono e1) q1 fun z2 v2 S2 H2 as2 cs2 e2 r2 w2 q2 => ?_
  have w1 := v1.mono e2
  obtain ⟨ks, ds, rfl, rfl, hl, nd, q2⟩ := q2
  obtain ⟨x, xs, rfl, hx, ix⟩ := w1
  obtain ⟨y, ys, rfl, hy, iy⟩ := w2
  have ex := isL_keys ix
  subst ex
  have yl := iy.len
  refine ⟨x, y, ks, ys, rfl, SqL.of (r2.sub _ _ hx), SqL.of (r2.sub _ _ hy), by omega, fun d hd => ?_⟩
  have mg : mergeK [] (ks.zip ys) = ks.zip ys := by
    rw [merge_new _ _ (by rw [List.map_fst_zip (by omega)]; exact nd) (fun p _ q hq => by cases hq), List.nil_append]
  rw [mg]
  exact pq (.d (.dic (ks.zip ds))) _ _ _ as2 cs2 ((e1.trans e2).trans (r2.ext hd _)) (r2.lay hd (.dK (ks.zip ys))) ⟨d, _, rfl, upd_same, isK_zip (IsL.mono (r2.ext hd (.dK (ks.zip ys))).sub _ _ iy) hl⟩ q2
end
end DL
set_option maxHeartbeats 2000000
set_option autoImplicit false
namespace DL
open PySem PySem.Spec PyProof.Rows L2
structure Er2 (P : Program) (w : World) (K : PySem.W.Frag) (mg : Str → Option Value) (base : Heap) (C : Addr) (f g : Str) (k : Nat) : Prop where
  T : OexC K C
  no : PySem.W.findIn K (.ref C) f = some none
  no2 : PySem.W.findIn K (.ref C) g = some none
  ini : ∃ (fI : Addr) (fd : FuncData) (p q : Str), PySem.W.findIn K (.ref C) "__init__" = some (some (.ref fI)) ∧ PySem.W.typeIn K (.ref fI) = some (.type "function") ∧ FnOk P w K mg base CX0 k fI fd (["self", p, q] : List Str) (spE2 K f g) ∧ L2.Binds K fd (["self", p, q] : List Str) []
section
variable {P : Program} {w : World} {K : PySem.W.Frag} {mg : Str → Option Value} {base : Heap} {C : Addr} {f g p p' qual : Str} {st : Stmt} {N : List Str}
theorem er2_of (T : MethT K C "__init__" qual st (["self", p, p'] : List Str)) (o : Oe1 K C f) (o2 : Oe1 K C g) (S : FnScope N (["self", p, p'] : List Str) (defScope st)) (hN : N = (["self", p, p'] : List Str))
    (der : ∀ (fI : Addr) (cdv : Value) (A : Around) (outer : List Env) (s : Shared) (H : Hp) (E : XK), PSs (cxOf CX0 P w K mg base N qual (defScope st) fI cdv A outer s H E).nox (defBody st) (tSeq (tOst K f (tVar 0) (tVar 1)) (tOst K g (tVar 0) (tVar 2)))) : Er2 P w K mg base C f g 1 := by
  obtain ⟨fI, fd, F, M, fn, b⟩ := T
  exact ⟨o.T, o.no, o2.no, fI, fd, p, p', M.at_, by simpa [PySem.W.isFn] using M.fn, init_two F S hN (der fI), b⟩
end
section
variable {X : Cx} {pos p : Pos} {x f g : Str} {C : Addr} {k : Nat} {e : Expr} {es : List Expr} {ta : TA} {da : DA}
theorem q_err1R (R : Er1 X.prog X.w X.K X.mg X.base C f k) (hm : X.mg x = some (.ref C)) (hr : Room (k + 1) X.A) (ha : QA X (e :: es) ta da) (hg : Gl X x := by rfl)
    (hdb : (x == ("__debug__" : Str)) = false := by decide) (he : starEach (e :: es) X.env = (false, eval e X.env) :: starEach es X.env := by rfl) (hpl : (backTo pos (starEach es X.env)).any (·.1) = false := by rfl) :
    ∃ te : TE, QE X (.Call (.Name x p) (e :: es) [] pos) te (dErr1 C f da) := by
  obtain ⟨fI, fd, p', iC, tI, F1, hb⟩ := R.ini
  exact q_err1 R.T R.no iC tI F1 hr hb hm ha hg hdb he hpl
theorem q_err2R (R : Er2 X.prog X.w X.K X.mg X.base C f g k) (hm : X.mg x = some (.ref C)) (hr : Room (k + 1) X.A) (ha : QA X (e :: es) ta da) (hg : Gl X x := by rfl)
    (hdb : (x == ("__debug__" : Str)) = false := by decide) (he : starEach (e :: es) X.env = (false, eval e X.env) :: starEach es X.env := by rfl) (hpl : (backTo pos (starEach es X.env)).any (·.1) = false := by rfl) :
    ∃ te : TE, QE X (.Call (.Name x p) (e :: es) [] pos) te (dErr2 C f g da) := by
  obtain ⟨fI, fd, p', q', iC, tI, F1, hb⟩ := R.ini
  exact q_err2 R.T R.no R.no2 iC tI F1 hr hb hm ha hg hdb he hpl
end
section
variable {X : Cx} {pos p p2 : Pos}
theorem q_isVb {ok : Addr → Prop} {bl : Addr → Bool} {C : Addr} {y : Str} {e : Expr} {te : TE} {de : DE} (hx : ∀ E, ok E → ExcC X.K E) (hk : ∀ E, ok E → PySem.W.kitOne X.K (.ref E) (.ref C) = some (bl E)) (hm : X.mg "isinstance" = none) (hC : X.mg y = some (.ref C)) (he : QE X e te de) (hg : Gl X "isinstance" := by rfl) (hg2 : Gl X y := by rfl) (hdb2 : (y == ("__debug__" : Str)) = false := by decide)
    (hs : starEach [e, .Name y p2] X.env = (false, eval e X.env) :: starEach [.Name y p2] X.env := by rfl) (hs2 : starEach [.Name y p2] X.env = (false, eval (.Name y p2) X.env) :: starEach [] X.env := by rfl)
    (hpl : (backTo pos (starEach [.Name y p2] X.env)).any (·.1) = false := by rfl) :
    QE X (.Call (.Name "isinstance" p) [e, .Name y p2] [] pos) (tCB (rIsV X.K) (tCons te (tCons (tC (.ref C)) tNil))) (dIsV ok bl de) := by
  have hn : PE X (.Name y p2) (tC (.ref C)) := ⟨fun pins s σ H Q I h => ld_glob I hg2 hC ⟨.ref C, H, I, rfl, h⟩ hdb2⟩
  refine ⟨pe_callB (p := p) (pos := pos) call_isV hg hm PyProof.Rows.boot_isinstance (pa_cons he.pe (pa_cons hn pa_nil hs2) hs) (by decide) (by decide) hs hpl, ?_⟩
  intro σ H S as en cs k Q r ev q pq
  refine he.sem.use r ev q fun z v S1 H1 as1 cs1 e1 r1 v1 q1 => ?_
  obtain ⟨x, E, rfl, hx1, ho, q1⟩ := q1
  obtain ⟨a, rfl, hv⟩ := isErr_at r1.sub hx1 v1
  exact ⟨a, E, .ref C, .ref C, _, rfl, hv, hx E ho, fun u hu => hu, hk E ho, pq (.d (.bl _)) (.bl _) S1 H1 as1 cs1 e1 r1 rfl q1⟩
end
section
variable {K : PySem.W.Frag} {cA : Str → Addr} {R : List Str} {g : Addr}
def XgAll (K : PySem.W.Frag) (R : List Addr) (g : Addr) : Prop := ∀ C ∈ R, PySem.W.kitOne K (.ref C) (.ref g) = some true
theorem XgAll.at {C : Addr} (h : XgAll K (R.map cA) g) (hC : okC cA R C) : PySem.W.kitOne K (.ref C) (.ref g) = some true := by
  obtain ⟨E, hE, rfl⟩ := hC
  exact h _ (List.mem_map.mpr ⟨E, hE, rfl⟩)
end
namespace Hk
def xgC (R : List Str) (y : Str) (K : FrK) : Bool := R.all fun E => decide (PySem.W.kitOne K (.ref (He.ga K E)) (.ref (He.ga K y)) = some true)
theorem xgC_ok {R : List Str} {y : Str} {K : FrK} (h : xgC R y K = true) : XgAll K (R.map (He.ga K)) (He.ga K y) := fun C hC => by
  obtain ⟨E, hE, rfl⟩ := List.mem_map.mp hC
  exact of_decide_eq_true (List.all_eq_true.mp h E hE)
end Hk
end DL
set_option maxHeartbeats 4000000
set_option autoImplicit false
namespace K91
open PySem PySem.Spec PyProof.Rows L2 DL
def topS (i : Nat) : Stmt := PySem.Challenge.pw_greenroads_k91_errors_made.main.body.getD i (.Pass ⟨0, 0, 0, 0⟩)
def clsBody (s : Stmt) : List Stmt := match s with
  | .ClassDef _ _ _ b _ _ _ _ _ _ _ => b
  | _ => []
def methS (s : Stmt) (j : Nat) : Stmt := (clsBody s).getD j (.Pass ⟨0, 0, 0, 0⟩)
abbrev s_l_spring : Stmt := topS 28
abbrev s_l_take : Stmt := topS 29
abbrev s_l_flags : Stmt := topS 30
abbrev s_l_made : Stmt := topS 31
abbrev s_l_kept_right : Stmt := topS 32
abbrev s_law : Stmt := topS 33
abbrev s_InvalidText_init : Stmt := methS (topS 2) 0
abbrev s_TooLarge_init : Stmt := methS (topS 3) 0
abbrev s_InvalidStreets_init : Stmt := methS (topS 4) 0
abbrev s_InvalidChanges_init : Stmt := methS (topS 5) 0
abbrev s_InvalidRecords_init : Stmt := methS (topS 6) 0
abbrev s_Contradiction_init : Stmt := methS (topS 7) 0
def hfa0 : List He.Fa := [.free "ValueError", .free "dict", .free "enumerate", .free "isinstance", .free "len", .free "max", .free "min", .free "range", .free "zip", .glo "Backward", .glo "Contradiction", .glo "GreenError", .glo "InvalidChanges", .glo "InvalidCommand", .glo "InvalidCourse", .glo "InvalidCycle", .glo "InvalidIndex", .glo "InvalidMoment", .glo "InvalidNet", .glo "InvalidNumber", .glo "InvalidParts", .glo "InvalidPassage", .glo "InvalidPlace", .glo "InvalidRecords", .glo "InvalidRoad", .glo "InvalidRuns", .glo "InvalidSignal", .glo "InvalidStep", .glo "InvalidStreets", .glo "InvalidText"]
def hfa1 : List He.Fa := [.glo "InvalidWindows", .glo "NotPlain", .glo "Nothing", .glo "OtherCycle", .glo "TooLarge", .exc "Backward", .exc "GreenError", .exc "InvalidCommand", .exc "InvalidCourse", .exc "InvalidCycle", .exc "InvalidIndex", .exc "InvalidMoment", .exc "InvalidNet", .exc "InvalidNumber", .exc "InvalidParts", .exc "InvalidPassage", .exc "InvalidPlace", .exc "InvalidRoad", .exc "InvalidRuns", .exc "InvalidSignal", .exc "InvalidStep", .exc "InvalidWindows", .exc "NotPlain", .exc "Nothing", .exc "OtherCycle", .glo "_law_spring", .glo "_law_take", .glo "_law_flags", .glo "_law_made", .glo "_law_kept_right"]
def hfa2 : List He.Fa := [.glo "law"]
abbrev hfa : List He.Fa := hfa0 ++ (hfa1 ++ (hfa2))
def hck0 : List (Hk.FrK → Bool) := [Hk.oe1C "Contradiction" "first", Hk.oe1C "InvalidChanges" "row", Hk.oe1C "InvalidRecords" "row", Hk.oe1C "InvalidStreets" "row", Hk.oe1C "InvalidText" "index", Hk.oe1C "TooLarge" "limit", Hk.oe1C "Contradiction" "second", Hk.xaC ["Backward", "Contradiction", "InvalidChanges", "InvalidCommand", "InvalidCourse", "InvalidCycle", "InvalidIndex", "InvalidMoment", "InvalidNet", "InvalidNumber", "InvalidParts", "InvalidPassage", "InvalidPlace", "InvalidRecords", "InvalidRoad", "InvalidRuns", "InvalidSignal", "InvalidStep", "InvalidStreets", "InvalidText", "InvalidWindows", "NotPlain", "Nothing", "OtherCycle", "TooLarge", "GreenError"] ["Backward", "Contradiction", "InvalidChanges", "InvalidCommand", "InvalidCourse", "InvalidCycle", "InvalidIndex", "InvalidMoment", "InvalidNet", "InvalidNumber", "InvalidParts", "InvalidPassage", "InvalidPlace", "InvalidRecords", "InvalidRoad", "InvalidRuns", "InvalidSignal", "InvalidStep", "InvalidStreets", "InvalidText", "InvalidWindows", "NotPlain", "Nothing", "OtherCycle", "TooLarge"], Hk.xfC ["Backward", "Contradiction", "InvalidChanges", "InvalidCommand", "InvalidCourse", "InvalidCycle", "InvalidIndex", "InvalidMoment", "InvalidNet", "InvalidNumber", "InvalidParts", "InvalidPassage", "InvalidPlace", "InvalidRecords", "InvalidRoad", "InvalidRuns", "InvalidSignal", "InvalidStep", "InvalidStreets", "InvalidText", "InvalidWindows", "NotPlain", "Nothing", "OtherCycle", "TooLarge", "GreenError"] "first", Hk.xfC ["Backward", "Contradiction", "InvalidChanges", "InvalidCommand", "InvalidCourse", "InvalidCycle", "InvalidIndex", "InvalidMoment", "InvalidNet", "InvalidNumber", "InvalidParts", "InvalidPassage", "InvalidPlace", "InvalidRecords", "InvalidRoad", "InvalidRuns", "InvalidSignal", "InvalidStep", "InvalidStreets", "InvalidText", "InvalidWindows", "NotPlain", "Nothing", "OtherCycle", "TooLarge", "GreenError"] "index", Hk.xfC ["Backward", "Contradiction", "InvalidChanges", "InvalidCommand", "InvalidCourse", "InvalidCycle", "InvalidIndex", "InvalidMoment", "InvalidNet", "InvalidNumber", "InvalidParts", "InvalidPassage", "InvalidPlace", "InvalidRecords", "InvalidRoad", "InvalidRuns", "InvalidSignal", "InvalidStep", "InvalidStreets", "InvalidText", "InvalidWindows", "NotPlain", "Nothing", "OtherCycle", "TooLarge", "GreenError"] "limit", Hk.xfC ["Backward", "Contradiction", "InvalidChanges", "InvalidCommand", "InvalidCourse", "InvalidCycle", "InvalidIndex", "InvalidMoment", "InvalidNet", "InvalidNumber", "InvalidParts", "InvalidPassage", "InvalidPlace", "InvalidRecords", "InvalidRoad", "InvalidRuns", "InvalidSignal", "InvalidStep", "InvalidStreets", "InvalidText", "InvalidWindows", "NotPlain", "Nothing", "OtherCycle", "TooLarge", "GreenError"] "row", Hk.xfC ["Backward", "Contradiction", "InvalidChanges", "InvalidCommand", "InvalidCourse", "InvalidCycle", "InvalidIndex", "InvalidMoment", "InvalidNet", "InvalidNumber", "InvalidParts", "InvalidPassage", "InvalidPlace", "InvalidRecords", "InvalidRoad", "InvalidRuns", "InvalidSignal", "InvalidStep", "InvalidStreets", "InvalidText", "InvalidWindows", "NotPlain", "Nothing", "OtherCycle", "TooLarge", "GreenError"] "second", Hk.xgC ["Backward", "Contradiction", "InvalidChanges", "InvalidCommand", "InvalidCourse", "InvalidCycle", "InvalidIndex", "InvalidMoment", "InvalidNet", "InvalidNumber", "InvalidParts", "InvalidPassage", "InvalidPlace", "InvalidRecords", "InvalidRoad", "InvalidRuns", "InvalidSignal", "InvalidStep", "InvalidStreets", "InvalidText", "InvalidWindows", "NotPlain", "Nothing", "OtherCycle", "TooLarge", "GreenError"] "GreenError", Hk.methC "InvalidText" "__init__", Hk.methC "TooLarge" "__init__", Hk.methC "InvalidStreets" "__init__", Hk.methC "InvalidChanges" "__init__", Hk.methC "InvalidRecords" "__init__", Hk.methC "Contradiction" "__init__"]
abbrev hck : List (Hk.FrK → Bool) := hck0
def hfn0 : List Hk.FnC := [⟨fun K => He.ga K "_law_spring", "_law_spring", "_law_spring", s_l_spring⟩, ⟨fun K => He.ga K "_law_take", "_law_take", "_law_take", s_l_take⟩, ⟨fun K => He.ga K "_law_flags", "_law_flags", "_law_flags", s_l_flags⟩, ⟨fun K => He.ga K "_law_made", "_law_made", "_law_made", s_l_made⟩]
def hfn1 : List Hk.FnC := [⟨fun K => He.ga K "_law_kept_right", "_law_kept_right", "_law_kept_right", s_l_kept_right⟩, ⟨fun K => He.ga K "law", "law", "law", s_law⟩, ⟨Hk.mA "InvalidText" "__init__", "__init__", "InvalidText.__init__", s_InvalidText_init⟩, ⟨Hk.mA "TooLarge" "__init__", "__init__", "TooLarge.__init__", s_TooLarge_init⟩]
def hfn2 : List Hk.FnC := [⟨Hk.mA "InvalidStreets" "__init__", "__init__", "InvalidStreets.__init__", s_InvalidStreets_init⟩, ⟨Hk.mA "InvalidChanges" "__init__", "__init__", "InvalidChanges.__init__", s_InvalidChanges_init⟩, ⟨Hk.mA "InvalidRecords" "__init__", "__init__", "InvalidRecords.__init__", s_InvalidRecords_init⟩, ⟨Hk.mA "Contradiction" "__init__", "__init__", "Contradiction.__init__", s_Contradiction_init⟩]
abbrev hfn : List Hk.FnC := hfn0 ++ (hfn1 ++ (hfn2))
def hnames0 : List Str := ["GreenError", "InvalidText", "TooLarge", "InvalidStreets", "InvalidChanges", "InvalidRecords", "Contradiction", "InvalidCycle", "InvalidSignal", "InvalidMoment", "InvalidNumber", "InvalidIndex", "InvalidRuns", "InvalidPassage", "OtherCycle", "InvalidWindows", "Backward", "InvalidRoad", "NotPlain", "InvalidNet", "InvalidPlace", "InvalidParts", "InvalidCourse", "InvalidStep", "Nothing", "InvalidCommand", "_law_spring", "_law_take", "_law_flags", "_law_made"]
def hnames1 : List Str := ["_law_kept_right"]
abbrev hnames : List Str := hnames0 ++ (hnames1)
abbrev hR : PySem.W.OpenRow := PySem.W.OpenLaw.row PySem.Challenge.rw_greenroads_k91_errors_made
abbrev hk : PySem.W.Hook := Hk.hookC (Hk.asB 5) hfa hck hfn
def hob (s : PySem.W.SharedT) : Hk.ObC := Hk.obsCG (Hk.asB 5) hfa hck hfn (HandSHeadRun.getT s)
theorem hob_eq (s : PySem.W.SharedT) : hob s = hk.obs s.abs := Hk.obsCG_eq (HandSHeadRun.getT_eq s)
set_option maxHeartbeats 0 in
theorem hr0 (w : World) : ∀ os : OsState, (HandSHeadRun.endF (HandSHeadRun.stepQ (HandSHeadRun.denQ HandSHeadRun.tabQ) hR.prog w) 20000 hR.prog w os).map (HandSHeadRun.see0 hR (PySem.W.view hR.prog [33]) hnames w) = some (HandSHeadRun.due0 (PySem.W.view hR.prog [33]) hnames) := by
  intro os
  kernel_rfl
set_option maxHeartbeats 0 in
theorem hr1 (w : World) : ∀ os : OsState, (HandSHeadRun.endF (HandSHeadRun.stepQ (HandSHeadRun.denQ HandSHeadRun.tabQ) hR.prog w) 20000 hR.prog w os).map (Hk.partA (Hk.asB 5) hfa []) = some true := by
  intro os
  kernel_rfl
set_option maxHeartbeats 0 in
theorem hr2 (w : World) : ∀ os : OsState, (HandSHeadRun.endF (HandSHeadRun.stepQ (HandSHeadRun.denQ HandSHeadRun.tabQ) hR.prog w) 20000 hR.prog w os).map (Hk.partA (Hk.asB 5) [] hck) = some true := by
  intro os
  kernel_rfl
set_option maxHeartbeats 0 in
theorem hb0 (w : World) : ∀ os : OsState, (HandSHeadRun.endF (HandSHeadRun.stepQ (HandSHeadRun.denQ HandSHeadRun.tabQ) hR.prog w) 20000 hR.prog w os).map (Hk.partB (Hk.asB 5) hfn0) = some (Hk.dueC hfn0) := by
  intro os
  kernel_rfl
set_option maxHeartbeats 0 in
theorem hb1 (w : World) : ∀ os : OsState, (HandSHeadRun.endF (HandSHeadRun.stepQ (HandSHeadRun.denQ HandSHeadRun.tabQ) hR.prog w) 20000 hR.prog w os).map (Hk.partB (Hk.asB 5) hfn1) = some (Hk.dueC hfn1) := by
  intro os
  kernel_rfl
set_option maxHeartbeats 0 in
theorem hb2 (w : World) : ∀ os : OsState, (HandSHeadRun.endF (HandSHeadRun.stepQ (HandSHeadRun.denQ HandSHeadRun.tabQ) hR.prog w) 20000 hR.prog w os).map (Hk.partB (Hk.asB 5) hfn2) = some (Hk.dueC hfn2) := by
  intro os
  kernel_rfl
theorem hrun (w : World) : HandSHeadRun.RunEq hR (PySem.W.view hR.prog [33]) hk hob 20000 hnames w := fun os => HandSHeadRun.see_join (H := hk) (hr0 w os) (Hk.obs_join (Hk.partA_join (hr1 w os) (hr2 w os)) (Hk.partB_join (hb0 w os) (Hk.partB_join (hb1 w os) (hb2 w os))))
end K91
set_option maxHeartbeats 2000000
set_option autoImplicit false
namespace K01
open PySem L2 DL
local macro_rules | `(tactic| walk_at "dl") => `(tactic| simp only [dSeq, dNext, dOwn, dOwnE, dFld, dMake, dMeth, dProp, dIsiO, dCallI, dSortSet, dFrz, e_isC, e_rgO, e_rgn, e_rgi, e_rgs, e_rgb, e_rgt, e_rgl, e_fz1, e_fz2, le_lim, lt_lim, set_snoc0, e_srtI, dBreak, dCont, dDrop, dRet, dRetN, dIfS, dNever, dAsg, dPar, dPutK, dAppend, dExtend, dCall, dVar, dC, dOp, dChain, dUn, dB, dNot, dAnd, dOr, dAndV, dOrV, dNotV, dIf, dNil, dCons, dTup, dLst, dLstC, dCB, dInK, dGetK, dDicC, dNoPart, dPart, dSl, dBits, dRev,
  dgName, dgsNil, dgsCons, dgTup, dgSet, diSeq, diR1, e_diR2, e_r2, diEnum, startD, endD, finZ_d, finD, finC, List.take_length, dYes, wipeD, ix0, ix1, ix2, get_snoc, set_snoc, take_snoc,
  dOpC, dSlC, dListC, e_addC, e_mulC, e_loCl, e_loCt, e_loCs, e_wd, e_wc0, e_wcs, e_wsn, e_wc1, e_wc2, e_wl0, e_wl1, e_dl0, e_dl1, e_sl, e_st, e_ss, e_addi, e_adds, e_addt, e_addl, e_sub, e_muli, e_mult, e_mull, e_fdiv, e_mod, e_pow, e_neg, e_lt, e_le, e_gt, e_ge, e_eqi, e_eqs, e_eql, e_eqt, e_eqb, e_eqn, e_nei, e_nes, e_nel, e_net, e_neb, e_nen, e_isb, e_isn, e_inb, e_inn, e_in1, e_in2, e_in3, e_in4, e_in5,
  e_ixt, e_ixl, e_ixs, e_at0, e_at1, e_at2, e_at3, e_at4, e_at5, e_atl, e_keyi, e_keys, e_lenl, e_lent, e_lens, e_lend, e_maxi, e_mini, e_maxl, e_minl, e_sum, e_all, e_any, e_inti, e_intb, e_abs, e_tol, e_tot, e_tos, e_lol, e_lot, e_los, e_sll, e_slt, e_rvl, e_rvt, e_repr, e_isi, e_srtl, e_srtt,
  List.map_cons, List.map_nil, List.length_cons, List.length_nil, List.cons_append, List.nil_append, List.flatten_cons, List.flatten_nil, List.append_nil, List.replicate_succ, List.replicate_zero, List.getElem?_cons_zero, List.getElem?_cons_succ, List.set_cons_zero, List.set_cons_succ, Nat.reduceSub, Nat.reduceAdd, Int.reduceToNat, Int.reduceLE, Int.reduceLT, Int.reduceNeg, Nat.reduceLeDiff, Nat.reduceLT, Nat.zero_add, Option.some.injEq, Z.d.injEq, Z.c.injEq, D.bl.injEq, D.int.injEq, D.tup.injEq, D.lst.injEq,
  List.take_succ_cons, List.take_zero, exists_eq_left', exists_eq_left, true_and, and_true, if_true, Bool.not_true, Bool.not_false, Bool.false_eq_true, if_false, decide_true, decide_false])
end K01
set_option autoImplicit false
namespace PM
abbrev Row := Int × Int × Int
def mv (r : Row) (k : Int) : Row := (r.1 + k, r.2.1 + k, r.2.2 + k)
def On (r : Row) (x y : Int) : Prop := r.1 ≤ x ∧ x ≤ r.2.1 ∧ y = r.2.2 + (x - r.1)
def Bef (r s : Row) : Prop := r.2.1 < s.1 ∧ r.2.2 + (r.2.1 - r.1) < s.2.2
structure Psg (c : Int) (f : Int → Int) : Prop where
  pos : 1 ≤ c
  mono : ∀ x y, x ≤ y → f x ≤ f y
  per : ∀ x, f (x + c) = f x + c
def Lst (f : Int → Int) (x : Int) : Prop := f x < f (x + 1)
structure Val (c : Int) (rs : List Row) : Prop where
  ne : rs ≠ []
  ok : ∀ r ∈ rs, r.1 ≤ r.2.1
  bef : rs.Pairwise Bef
  wrap : ∀ r ∈ rs, ∀ s ∈ rs, Bef r (mv s c)
structure Cov (c : Int) (rs : List Row) (f : Int → Int) : Prop where
  on : ∀ r ∈ rs, ∀ x y, On r x y → Lst f x ∧ f x = y
  ex : ∀ x, Lst f x → ∃ r ∈ rs, ∃ k : Int, On r (x + k * c) (f x + k * c)
theorem least {P : Nat → Prop} : ∀ n, P n → ∃ m, P m ∧ ∀ j, P j → m ≤ j := by
  intro n
  induction n using Nat.strongRecOn with
  | ind n ih =>
    intro h
    by_cases q : ∃ j, j < n ∧ P j
    · obtain ⟨j, hj, hp⟩ := q
      exact ih j hj hp
    · exact ⟨n, h, fun j hj => Nat.le_of_not_lt fun z => q ⟨j, z, hj⟩⟩
section
variable {c : Int} {f g : Int → Int}
theorem Psg.perN (h : Psg c f) : ∀ (n : Nat) (x : Int), f (x + n * c) = f x + n * c
  | 0, x => by simp
  | n + 1, x => by
    have e : x + ((n + 1 : Nat) : Int) * c = (x + n * c) + c := by
      rw [Int.natCast_add, Int.add_mul]
      omega
    rw [e, h.per, h.perN n]
    rw [Int.natCast_add, Int.add_mul]
    omega
theorem Psg.perK (h : Psg c f) (k x : Int) : f (x + k * c) = f x + k * c := by
  rcases Int.lt_or_le k 0 with hk | hk
  · have e := h.perN (-k).toNat (x + k * c)
    have e1 : (((-k).toNat : Nat) : Int) = -k := Int.toNat_of_nonneg (by omega)
    rw [e1, Int.neg_mul, show x + k * c + -(k * c) = x by omega] at e
    omega
  · have e := h.perN k.toNat x
    rw [Int.toNat_of_nonneg hk] at e
    exact e
theorem lst_per (h : Psg c f) (k x : Int) : Lst f (x + k * c) ↔ Lst f x := by
  unfold Lst
  rw [show x + k * c + 1 = (x + 1) + k * c by omega, h.perK, h.perK]
  omega
theorem lst_lt (h : Psg c f) {x y : Int} (hx : Lst f x) (l : x < y) : f x < f y := by
  have := h.mono (x + 1) y (by omega)
  unfold Lst at hx
  omega
theorem next (h : Psg c f) (x : Int) : ∃ z, x ≤ z ∧ Lst f z ∧ f z = f x ∧ ∀ y, x ≤ y → y < z → ¬ Lst f y := by
  have hc := h.pos
  obtain ⟨m, hm, hl⟩ := least (P := fun n => f x < f (x + n + 1)) (c - 1).toNat (by
    show f x < f (x + ((c - 1).toNat : Int) + 1)
    rw [Int.toNat_of_nonneg (by omega), show x + (c - 1) + 1 = x + c by omega, h.per]
    omega)
  have low : ∀ j : Nat, j < m → f (x + j + 1) = f x := fun j hj => by
    have h1 := h.mono x (x + j + 1) (by omega)
    have h2 : ¬ f x < f (x + j + 1) := fun z => by
      have := hl j z
      omega
    omega
  have at_ : f (x + m) = f x := by
    cases m with
    | zero => simp
    | succ j =>
      have := low j (by omega)
      rw [show x + ((j + 1 : Nat) : Int) = x + j + 1 by omega]
      exact this
  refine ⟨x + m, by omega, ?_, at_, fun y h1 h2 z => ?_⟩
  · unfold Lst
    rw [at_]
    exact hm
  · unfold Lst at z
    have h3 : f (y + 1) = f x := by
      have e : (x + ((y - x).toNat : Int) + 1) = y + 1 := by omega
      have := low (y - x).toNat (by omega)
      rw [e] at this
      exact this
    have := h.mono x y h1
    omega
theorem next_uniq {x z z' : Int} (h1 : x ≤ z) (l1 : Lst f z) (n1 : ∀ y, x ≤ y → y < z → ¬ Lst f y) (h2 : x ≤ z') (l2 : Lst f z') (n2 : ∀ y, x ≤ y → y < z' → ¬ Lst f y) : z = z' := by
  rcases Int.lt_trichotomy z z' with l | l | l
  · exact absurd l1 (n2 z h1 l)
  · exact l
  · exact absurd l2 (n1 z' h2 l)
theorem same_of (hf : Psg c f) (hg : Psg c g) (h : ∀ x, Lst f x → Lst g x ∧ g x = f x) (h' : ∀ x, Lst g x → Lst f x) (x : Int) : f x = g x := by
  obtain ⟨z, l, a, b, n⟩ := next hf x
  obtain ⟨z', l', a', b', n'⟩ := next hg x
  have e : z = z' := next_uniq (f := f) l a n l' (h' z' a') fun y h1 h2 q => n' y h1 h2 (h y q).1
  subst e
  rw [← b, ← b', (h z a).2]
theorem cov_same {rs : List Row} (hf : Psg c f) (hg : Psg c g) (a : Cov c rs f) (b : Cov c rs g) (x : Int) : f x = g x := by
  have key : ∀ {f g : Int → Int}, Psg c f → Psg c g → Cov c rs f → Cov c rs g → ∀ x, Lst f x → Lst g x ∧ g x = f x := by
    intro f g hf hg a b x hx
    obtain ⟨r, hr, k, ho⟩ := a.ex x hx
    obtain ⟨h1, h2⟩ := b.on r hr _ _ ho
    rw [lst_per hg] at h1
    rw [hg.perK] at h2
    exact ⟨h1, by omega⟩
  exact same_of hf hg (key hf hg a b) (fun x hx => (key hg hf b a x hx).1) x
def LL (c : Int) (rs : List Row) (x y : Int) : Prop := ∃ r ∈ rs, ∃ k : Int, On r (x + k * c) (y + k * c)
theorem mul_step {k k' c : Int} (h : k' + 1 ≤ k) (hc : 0 ≤ c) : k' * c + c ≤ k * c := by
  have := Int.mul_le_mul_of_nonneg_right h hc
  rw [Int.add_mul] at this
  omega
theorem LL.per {rs : List Row} {x y : Int} (h : LL c rs x y) (k : Int) : LL c rs (x + k * c) (y + k * c) := by
  obtain ⟨r, hr, j, h⟩ := h
  refine ⟨r, hr, j - k, ?_⟩
  rw [Int.sub_mul, show x + k * c + (j * c - k * c) = x + j * c by omega, show y + k * c + (j * c - k * c) = y + j * c by omega]
  exact h
end
end PM
set_option autoImplicit false
namespace PM
structure RunM (f : Int → Int) (r : Row) : Prop where
  le : r.1 ≤ r.2.1
  on : ∀ x, r.1 ≤ x → x ≤ r.2.1 → Lst f x ∧ f x = r.2.2 + (x - r.1)
  lo : ¬ (Lst f (r.1 - 1) ∧ f (r.1 - 1) = r.2.2 - 1)
  hi : ¬ (Lst f (r.2.1 + 1) ∧ f (r.2.1 + 1) = r.2.2 + (r.2.1 - r.1) + 1)
def IdL (f : Int → Int) : Prop := ∃ t, ∀ x, f x = x + t
def Canon (c : Int) (f : Int → Int) (rs : List Row) : Prop :=
  (∃ t, (∀ x, f x = x + t) ∧ rs = [(0, c - 1, t)]) ∨ (¬ IdL f ∧ rs.Pairwise (fun a b => a.1 < b.1) ∧ ∀ r, r ∈ rs ↔ (0 ≤ r.1 ∧ r.1 < c ∧ RunM f r))
section
variable {c : Int} {f g : Int → Int}
theorem Canon.congr {rs : List Row} (h : Canon c f rs) (e : ∀ x, f x = g x) : Canon c g rs := by
  have : f = g := funext e
  exact this ▸ h
theorem RunM.mv (h : Psg c f) {r : Row} (m : RunM f r) (k : Int) : RunM f (PM.mv r (k * c)) := by
  obtain ⟨h1, h2, h3, h4⟩ := m
  refine ⟨by simp only [PM.mv]; omega, fun x a b => ?_, fun q => h3 ?_, fun q => h4 ?_⟩
  · simp only [PM.mv] at a b ⊢
    have q := h2 (x - k * c) (by omega) (by omega)
    rw [← lst_per h k, show x - k * c + k * c = x by omega] at q
    have p := h.perK k (x - k * c)
    rw [show x - k * c + k * c = x by omega] at p
    exact ⟨q.1, by omega⟩
  · simp only [PM.mv] at q
    rw [show r.1 + k * c - 1 = (r.1 - 1) + k * c by omega, lst_per h, h.perK] at q
    exact ⟨q.1, by omega⟩
  · simp only [PM.mv] at q
    rw [show r.2.1 + k * c + 1 = (r.2.1 + 1) + k * c by omega, lst_per h, h.perK] at q
    exact ⟨q.1, by omega⟩
theorem RunM.same {r s : Row} (m : RunM f r) (n : RunM f s) {x : Int} (a : r.1 ≤ x) (b : x ≤ r.2.1) (a' : s.1 ≤ x) (b' : x ≤ s.2.1) : r = s := by
  have v := (m.on x a b).2
  have w := (n.on x a' b').2
  have e1 : r.1 = s.1 := by
    rcases Int.lt_trichotomy r.1 s.1 with l | l | l
    · exfalso
      have q := m.on (s.1 - 1) (by omega) (by omega)
      exact n.lo ⟨q.1, by omega⟩
    · exact l
    · exfalso
      have q := n.on (r.1 - 1) (by omega) (by omega)
      exact m.lo ⟨q.1, by omega⟩
  have e2 : r.2.1 = s.2.1 := by
    rcases Int.lt_trichotomy r.2.1 s.2.1 with l | l | l
    · exfalso
      have q := n.on (r.2.1 + 1) (by omega) (by omega)
      exact m.hi ⟨q.1, by omega⟩
    · exact l
    · exfalso
      have q := m.on (s.2.1 + 1) (by omega) (by omega)
      exact n.hi ⟨q.1, by omega⟩
  refine Prod.ext e1 (Prod.ext e2 ?_)
  omega
def Lnk (f : Int → Int) (x : Int) : Prop := Lst f x ∧ Lst f (x + 1) ∧ f (x + 1) = f x + 1
theorem lnk_per (h : Psg c f) (k x : Int) : Lnk f (x + k * c) ↔ Lnk f x := by
  unfold Lnk
  rw [show x + k * c + 1 = (x + 1) + k * c by omega, lst_per h, lst_per h, h.perK, h.perK]
  constructor
  · rintro ⟨a, b, d⟩
    exact ⟨a, b, by omega⟩
  · rintro ⟨a, b, d⟩
    exact ⟨a, b, by omega⟩
theorem id_of_lnk (h : Psg c f) (x : Int) (hl : ∀ j : Nat, (j : Int) < c → Lnk f (x + j)) : IdL f := by
  have hc := h.pos
  have run : ∀ j : Nat, (j : Int) ≤ c → f (x + j) = f x + j := by
    intro j
    induction j with
    | zero => intro _; simp
    | succ j ih =>
      intro hj
      have h1 := ih (by omega)
      have h2 := (hl j (by omega)).2.2
      rw [show x + ((j + 1 : Nat) : Int) = x + j + 1 by omega, h2, h1]
      omega
  refine ⟨f x - x, fun z => ?_⟩
  have d := Int.emod_add_mul_ediv (z - x) c
  have m0 := Int.emod_nonneg (z - x) (show c ≠ 0 by omega)
  have m1 := Int.emod_lt_of_pos (z - x) (show 0 < c by omega)
  have r := run ((z - x) % c).toNat (by omega)
  rw [Int.toNat_of_nonneg m0] at r
  have p := h.perK ((z - x) / c) (x + (z - x) % c)
  have e : z = x + (z - x) % c + (z - x) / c * c := by
    rw [Int.mul_comm ((z - x) / c) c]
    omega
  rw [← e] at p
  omega
theorem run_at (h : Psg c f) (ni : ¬ IdL f) {x : Int} (hx : Lst f x) : ∃ r, RunM f r ∧ r.1 ≤ x ∧ x ≤ r.2.1 := by
  have hc := h.pos
  obtain ⟨j, hj, nj⟩ : ∃ j : Nat, (j : Int) < c ∧ ¬ Lnk f (x + j) := by
    apply Classical.byContradiction
    intro q
    exact ni (id_of_lnk h x fun j hj => Classical.byContradiction fun z => q ⟨j, hj, z⟩)
  obtain ⟨m, hm, ml⟩ := least (P := fun n => ¬ Lnk f (x + n)) j nj
  have back : ¬ Lnk f (x - ((c.toNat - j : Nat) : Int)) := by
    have e : x - ((c.toNat - j : Nat) : Int) = x + j + (-1) * c := by omega
    rw [e, lnk_per h]
    exact nj
  obtain ⟨n, hn, nl⟩ := least (P := fun n => ¬ Lnk f (x - 1 - n)) (c.toNat - j - 1) (by
    have : x - 1 - ((c.toNat - j - 1 : Nat) : Int) = x - ((c.toNat - j : Nat) : Int) := by omega
    show ¬ Lnk f (x - 1 - ((c.toNat - j - 1 : Nat) : Int))
    rw [this]
    exact back)
  have up : ∀ i : Nat, i ≤ m → Lst f (x + i) ∧ f (x + i) = f x + i := by
    intro i
    induction i with
    | zero => intro _; simpa using hx
    | succ i ih =>
      intro hi
      obtain ⟨a, b⟩ := ih (by omega)
      have q : Lnk f (x + i) := Classical.byContradiction fun z => by have := ml i z; omega
      rw [show x + ((i + 1 : Nat) : Int) = x + i + 1 by omega]
      exact ⟨q.2.1, by rw [q.2.2, b]; omega⟩
  have dn : ∀ i : Nat, i ≤ n → Lst f (x - i) ∧ f (x - i) = f x - i := by
    intro i
    induction i with
    | zero => intro _; simpa using hx
    | succ i ih =>
      intro hi
      obtain ⟨a, b⟩ := ih (by omega)
      have q : Lnk f (x - 1 - i) := Classical.byContradiction fun z => by have := nl i z; omega
      have e : x - 1 - (i : Int) + 1 = x - i := by omega
      obtain ⟨q1, q2, q3⟩ := q
      rw [e] at q3
      rw [show x - ((i + 1 : Nat) : Int) = x - 1 - i by omega]
      exact ⟨q1, by omega⟩
  have lo1 := dn n (Nat.le_refl _)
  have hi1 := up m (Nat.le_refl _)
  refine ⟨(x - n, x + m, f x - n), ⟨by simp only; omega, fun z a b => ?_, fun q => hn ?_, fun q => hm ?_⟩, by simp only; omega, by simp only; omega⟩
  · simp only at a b ⊢
    rcases Int.lt_or_le z x with l | l
    · have q := dn (x - z).toNat (by omega)
      rw [Int.toNat_of_nonneg (by omega), show x - (x - z) = z by omega] at q
      exact ⟨q.1, by omega⟩
    · have q := up (z - x).toNat (by omega)
      rw [Int.toNat_of_nonneg (by omega), show x + (z - x) = z by omega] at q
      exact ⟨q.1, by omega⟩
  · simp only at q
    rw [show x - (n : Int) - 1 = x - 1 - n by omega] at q
    refine ⟨q.1, ?_, ?_⟩
    · rw [show x - 1 - (n : Int) + 1 = x - n by omega]
      exact lo1.1
    · rw [show x - 1 - (n : Int) + 1 = x - n by omega]
      omega
  · simp only at q
    refine ⟨hi1.1, q.1, by omega⟩
structure Norm (c : Int) (f : Int → Int) (rs : List Row) : Prop where
  val : Val c rs
  cov : Cov c rs f
  rng : ∀ r ∈ rs, 0 ≤ r.1 ∧ r.1 < c
theorem bef_of (h : Psg c f) {r s : Row} (a : ∀ x y, On r x y → Lst f x ∧ f x = y) (b : ∀ x y, On s x y → Lst f x ∧ f x = y) (hr : r.1 ≤ r.2.1) (hs : s.1 ≤ s.2.1) (l : r.2.1 < s.1) : Bef r s := by
  have h1 := a r.2.1 (r.2.2 + (r.2.1 - r.1)) ⟨hr, Int.le_refl _, rfl⟩
  have h2 := b s.1 s.2.2 ⟨Int.le_refl _, hs, by omega⟩
  have := lst_lt h h1.1 l
  exact ⟨l, by omega⟩
theorem exists_lst (h : Psg c f) : ∃ x, 0 ≤ x ∧ Lst f x := by
  obtain ⟨z, a, b, _⟩ := next h 0
  exact ⟨z, a, b⟩
theorem Canon.norm (h : Psg c f) {rs : List Row} (q : Canon c f rs) : Norm c f rs := by
  have hc := h.pos
  rcases q with ⟨t, h1, rfl⟩ | ⟨h1, h2, h3⟩
  · have l : ∀ x, Lst f x := fun x => by unfold Lst; rw [h1, h1]; omega
    refine ⟨⟨by simp, ?_, by simp, ?_⟩, ⟨?_, fun x hx => ⟨_, List.mem_singleton.mpr rfl, -(x / c), ?_⟩⟩, ?_⟩
    · intro r hr
      rw [List.mem_singleton] at hr
      subst hr
      simp only
      omega
    · intro r hr s hs
      rw [List.mem_singleton] at hr hs
      subst hr hs
      simp only [Bef, PM.mv]
      omega
    · intro r hr x y ho
      rw [List.mem_singleton] at hr
      subst hr
      simp only [On] at ho
      rw [h1]
      exact ⟨l x, by omega⟩
    · have d := Int.emod_add_mul_ediv x c
      have m0 := Int.emod_nonneg x (show c ≠ 0 by omega)
      have m1 := Int.emod_lt_of_pos x (show 0 < c by omega)
      rw [Int.neg_mul, Int.mul_comm (x / c) c, h1]
      simp only [On]
      omega
    · intro r hr
      rw [List.mem_singleton] at hr
      subst hr
      simp only
      omega
  · have on : ∀ r ∈ rs, ∀ x y, On r x y → Lst f x ∧ f x = y := fun r hr x y ho => by
      have q := ((h3 r).mp hr).2.2.on x ho.1 ho.2.1
      exact ⟨q.1, by rw [q.2]; exact ho.2.2.symm⟩
    have ex : ∀ x, Lst f x → ∃ r ∈ rs, ∃ k : Int, On r (x + k * c) (f x + k * c) := fun x hx => by
      obtain ⟨r, m, a, b⟩ := run_at h h1 hx
      have d := Int.emod_add_mul_ediv r.1 c
      have m0 := Int.emod_nonneg r.1 (show c ≠ 0 by omega)
      have m1 := Int.emod_lt_of_pos r.1 (show 0 < c by omega)
      have mm := m.mv h (-(r.1 / c))
      have e : -(r.1 / c) * c = -(c * (r.1 / c)) := by rw [Int.neg_mul, Int.mul_comm]
      have v := (m.on x a b).2
      refine ⟨_, (h3 _).mpr ⟨?_, ?_, mm⟩, -(r.1 / c), ?_⟩
      · simp only [PM.mv]; rw [e]; omega
      · simp only [PM.mv]; rw [e]; omega
      · simp only [PM.mv, On]; omega
    have ok : ∀ r ∈ rs, r.1 ≤ r.2.1 := fun r hr => ((h3 r).mp hr).2.2.le
    refine ⟨⟨?_, ok, ?_, ?_⟩, ⟨on, ex⟩, fun r hr => ⟨((h3 r).mp hr).1, ((h3 r).mp hr).2.1⟩⟩
    · obtain ⟨x, _, hx⟩ := exists_lst h
      obtain ⟨r, hr, _⟩ := ex x hx
      exact List.ne_nil_of_mem hr
    · refine h2.imp_of_mem fun {r s} hr hs l => ?_
      refine bef_of h (on r hr) (on s hs) (ok r hr) (ok s hs) ?_
      have mr := ((h3 r).mp hr).2.2
      have ms := ((h3 s).mp hs).2.2
      rcases Int.lt_or_le r.2.1 s.1 with q | q
      · exact q
      · have e := mr.same ms (x := s.1) (by omega) q (Int.le_refl _) ms.le
        subst e
        omega
    · intro r hr s hs
      have mr := ((h3 r).mp hr)
      have ms := ((h3 s).mp hs)
      have mm := ms.2.2.mv h 1
      rw [Int.one_mul] at mm
      refine bef_of h (on r hr) (fun x y ho => ?_) (ok r hr) mm.le ?_
      · have q := mm.on x ho.1 ho.2.1
        exact ⟨q.1, by rw [q.2]; exact ho.2.2.symm⟩
      · rcases Int.lt_or_le r.2.1 (PM.mv s c).1 with q | q
        · exact q
        · have e := mr.2.2.same mm (x := (PM.mv s c).1) (by simp only [PM.mv]; omega) q (Int.le_refl _) mm.le
          subst e
          simp only [PM.mv] at mr
          omega
theorem Canon.inj (h : Psg c f) (h' : Psg c g) {rs : List Row} (q : Canon c f rs) (q' : Canon c g rs) (x : Int) : f x = g x := cov_same h h' (q.norm h).cov (q'.norm h').cov x
end
end PM
set_option autoImplicit false
namespace PM
def NoLnk (fs : List Row) : Prop := ∀ a ∈ fs, ∀ b ∈ fs, ¬ (b.1 = a.2.1 + 1 ∧ b.2.2 = a.2.2 + b.1 - a.1)
structure Joined (rows fs : List Row) : Prop where
  nil : fs = [] ↔ rows = []
  ok : ∀ r ∈ fs, r.1 ≤ r.2.1
  bef : fs.Pairwise Bef
  sub : ∀ r ∈ fs, ∀ x y, On r x y → ∃ s ∈ rows, On s x y
  sup : ∀ s ∈ rows, ∀ x y, On s x y → ∃ r ∈ fs, On r x y
  no : NoLnk fs
  len : fs.length ≤ rows.length
structure Rows (c : Int) (f : Int → Int) (fs : List Row) : Prop where
  val : Val c fs
  cov : Cov c fs f
  no : NoLnk fs
end PM
set_option autoImplicit false
namespace PM
section
variable {c : Int} {f : Int → Int} {fs : List Row}
end
end PM
set_option autoImplicit false
namespace PM
section
variable {c : Int} {f g h : Int → Int} {rs : List Row}
structure At (f : Int → Int) (r : Row) (x : Int) : Prop where
  ok : r.1 ≤ r.2.1
  le : x ≤ r.2.1
  on : ∀ z y, On r z y → Lst f z ∧ f z = y
  no : ∀ y, x ≤ y → y < r.1 → ¬ Lst f y
theorem At.mv (p : Psg c f) {r : Row} {x : Int} (a : At f r x) (k : Int) : At f (mv r (k * c)) (x + k * c) := by
  have := a.ok
  have := a.le
  refine ⟨by simp only [PM.mv]; omega, by simp only [PM.mv]; omega, fun z y o => ?_, fun y h1 h2 => ?_⟩
  · simp only [On, PM.mv] at o
    have q := a.on (z - k * c) (y - k * c) ⟨by omega, by omega, by omega⟩
    have e := p.perK k (z - k * c)
    have l := lst_per p k (z - k * c)
    rw [show z - k * c + k * c = z by omega] at e l
    exact ⟨l.mpr q.1, by omega⟩
  · simp only [PM.mv] at h2
    have l := lst_per p k (y - k * c)
    rw [show y - k * c + k * c = y by omega] at l
    rw [l]
    exact a.no _ (by omega) (by omega)
theorem At.val (p : Psg c f) {r : Row} {x : Int} (a : At f r x) : f x = r.2.2 + max 0 (x - r.1) := by
  have ok := a.ok
  have le := a.le
  by_cases q : r.1 ≤ x
  · have := (a.on x _ ⟨q, le, rfl⟩).2
    omega
  · obtain ⟨z, h1, h2, h3, h4⟩ := next p x
    have e : z = r.1 := next_uniq (f := f) h1 h2 h4 (by omega) (a.on r.1 _ ⟨Int.le_refl _, ok, rfl⟩).1 fun y l1 l2 => a.no y l1 l2
    have := (a.on r.1 _ ⟨Int.le_refl _, ok, rfl⟩).2
    rw [e] at h3
    omega
theorem At.lst {r : Row} {x : Int} (a : At f r x) : r.1 ≤ x ↔ Lst f x := by
  constructor
  · intro q
    exact (a.on x _ ⟨q, a.le, rfl⟩).1
  · intro q
    apply Classical.byContradiction
    intro z
    exact a.no x (Int.le_refl _) (by omega) q
theorem Norm.sorted (n : Norm c f rs) {i j : Nat} {r s : Row} (hi : rs[i]? = some r) (hj : rs[j]? = some s) (l : i < j) : Bef r s := by
  obtain ⟨h1, rfl⟩ := List.getElem?_eq_some_iff.mp hi
  obtain ⟨h2, rfl⟩ := List.getElem?_eq_some_iff.mp hj
  exact (List.pairwise_iff_getElem.mp n.val.bef) i j h1 h2 l
structure Btw (f : Int → Int) (lo hi : Int) (F : List Row) : Prop where
  ok : ∀ r ∈ F, r.1 ≤ r.2.1
  on : ∀ r ∈ F, ∀ x y, On r x y → Lst f x ∧ f x = y
  win : ∀ r ∈ F, lo ≤ r.1 ∧ r.2.1 ≤ hi
  ex : ∀ x, lo ≤ x → x ≤ hi → Lst f x → ∃ r ∈ F, r.1 ≤ x ∧ x ≤ r.2.1
  ord : F.Pairwise fun r s => r.2.1 < s.1
theorem Btw.nil {lo hi : Int} (l : ∀ x, lo ≤ x → x ≤ hi → ¬ Lst f x) : Btw f lo hi [] := ⟨by simp, by simp, by simp, fun x a b q => absurd q (l x a b), by simp⟩
theorem Btw.ext {lo hi hi' : Int} {A : List Row} (a : Btw f lo hi A) (l : ∀ x, hi < x → x ≤ hi' → ¬ Lst f x) (l2 : hi ≤ hi') : Btw f lo hi' A :=
  ⟨a.ok, a.on, fun r hr => by have := a.win r hr; omega, fun x h1 h2 q => by
    rcases Int.lt_or_le hi x with z | z
    · exact absurd q (l x z h2)
    · exact a.ex x h1 z q, a.ord⟩
theorem Btw.one {r : Row} (ok : r.1 ≤ r.2.1) (on : ∀ x y, On r x y → Lst f x ∧ f x = y) : Btw f r.1 r.2.1 [r] :=
  ⟨fun s hs => by rw [List.mem_singleton] at hs; subst hs; exact ok, fun s hs => by rw [List.mem_singleton] at hs; subst hs; exact on, fun s hs => by rw [List.mem_singleton] at hs; subst hs; omega, fun x a b _ => ⟨r, by simp, a, b⟩, by simp⟩
theorem Btw.done (p : Psg c f) {b : Int} {F : List Row} (a : Btw f b (b + c - 1) F) : Val c F ∧ Cov c F f := by
  have hc := p.pos
  have ex : ∀ x, Lst f x → ∃ r ∈ F, ∃ k : Int, On r (x + k * c) (f x + k * c) := fun x hx => by
    have d := Int.emod_add_mul_ediv (x - b) c
    have m0 := Int.emod_nonneg (x - b) (show c ≠ 0 by omega)
    have m1 := Int.emod_lt_of_pos (x - b) (show 0 < c by omega)
    have e : x + -((x - b) / c) * c = b + (x - b) % c := by
      rw [Int.neg_mul, Int.mul_comm]
      omega
    obtain ⟨r, hr, q1, q2⟩ := a.ex (x + -((x - b) / c) * c) (by omega) (by omega) ((lst_per p _ _).mpr hx)
    refine ⟨r, hr, -((x - b) / c), q1, q2, ?_⟩
    have := (a.on r hr _ _ ⟨q1, q2, rfl⟩).2
    rw [p.perK] at this
    omega
  refine ⟨⟨?_, a.ok, a.ord.imp_of_mem fun {r s} hr hs l => bef_of p (a.on r hr) (a.on s hs) (a.ok r hr) (a.ok s hs) l, fun r hr s hs => ?_⟩, a.on, ex⟩
  · obtain ⟨x, _, hx⟩ := exists_lst p
    obtain ⟨r, hr, _⟩ := ex x hx
    exact List.ne_nil_of_mem hr
  · have w1 := a.win r hr
    have w2 := a.win s hs
    have o := a.ok s hs
    have on' : ∀ x y, On (mv s c) x y → Lst f x ∧ f x = y := fun x y o => by
      simp only [On, mv] at o
      have q := a.on s hs (x - c) (y - c) ⟨by omega, by omega, by omega⟩
      have e := p.per (x - c)
      have l := lst_per p 1 (x - c)
      rw [Int.one_mul] at l
      rw [show x - c + c = x by omega] at e l
      exact ⟨l.mpr q.1, by omega⟩
    exact bef_of p (a.on r hr) on' (a.ok r hr) (by simp only [mv]; omega) (by simp only [mv]; omega)
end
end PM
set_option autoImplicit false
namespace PM
abbrev Pc := Int × Int × Int × Int
structure PcOk (f : Int → Int) (p : Pc) : Prop where
  le : p.1 ≤ p.2.1
  sl : p.2.2.2 = 0 ∨ p.2.2.2 = 1
  val : ∀ x, p.1 ≤ x → x ≤ p.2.1 → f x = p.2.2.1 + p.2.2.2 * (x - p.1)
def Tile (lo hi : Int) : List Pc → Prop
  | [] => lo = hi + 1
  | p :: ps => p.1 = lo ∧ p.1 ≤ p.2.1 ∧ Tile (p.2.1 + 1) hi ps
theorem Tile.le : ∀ {ps : List Pc} {lo hi : Int}, Tile lo hi ps → lo ≤ hi + 1
  | [], _, _, h => by simp only [Tile] at h; omega
  | p :: ps, _, _, h => by
    obtain ⟨a, b, c⟩ := h
    have := Tile.le c
    omega
theorem Tile.split : ∀ {ps qs : List Pc} {lo hi : Int}, Tile lo hi (ps ++ qs) → ∃ m, Tile lo m ps ∧ Tile (m + 1) hi qs
  | [], qs, lo, hi, h => ⟨lo - 1, by simp only [Tile]; omega, by rw [show lo - 1 + 1 = lo by omega]; exact h⟩
  | p :: ps, qs, lo, hi, h => by
    obtain ⟨m, a, b⟩ := Tile.split (ps := ps) h.2.2
    exact ⟨m, ⟨h.1, h.2.1, a⟩, b⟩
section
variable {c : Int} {f g : Int → Int}
def Brd (c : Int) (rs : List Row) (z : Int) : Prop := ∃ r ∈ rs, z = r.1 ∨ z = (r.2.1 + 1) % c
open Classical in
noncomputable def rise (f : Int → Int) (x : Int) : Int := if Lst f x then 1 else 0
theorem rise_pos {x : Int} (h : Lst f x) : rise f x = 1 := by unfold rise; rw [if_pos h]
theorem rise_neg {x : Int} (h : ¬ Lst f x) : rise f x = 0 := by unfold rise; rw [if_neg h]
theorem line (p : Psg c f) {rs : List Row} (n : Norm c f rs) {a x : Int} (h0 : 0 ≤ a) (h1 : a ≤ x) (h2 : x < c) (nb : ∀ z, a < z → z ≤ x → ¬ Brd c rs z) : f x = f a + rise f a * (x - a) := by
  have hc := p.pos
  by_cases q : Lst f a
  · rw [rise_pos q, Int.one_mul]
    obtain ⟨s, hs, k, o⟩ := n.cov.ex a q
    simp only [On] at o
    by_cases z : x + k * c ≤ s.2.1
    · have e := (n.cov.on s hs (x + k * c) _ ⟨by omega, z, rfl⟩).2
      rw [p.perK] at e
      omega
    · exfalso
      refine nb (s.2.1 + 1 - k * c) (by omega) (by omega) ⟨s, hs, .inr ?_⟩
      have e : s.2.1 + 1 = (s.2.1 + 1 - k * c) + k * c := by omega
      rw [e, Int.add_mul_emod_self_right, ← e]
      exact (Int.emod_eq_of_lt (by omega) (by omega)).symm
  · rw [rise_neg q, Int.zero_mul, Int.add_zero]
    obtain ⟨z, z1, z2, z3, z4⟩ := next p a
    by_cases w : x ≤ z
    · have e1 := p.mono a x h1
      have e2 := p.mono x z w
      omega
    · exfalso
      obtain ⟨s, hs, k, o⟩ := n.cov.ex z z2
      have rg := n.rng s hs
      simp only [On] at o
      have ne : z ≠ a := fun e => q (e ▸ z2)
      have first : z + k * c = s.1 := by
        apply Classical.byContradiction
        intro y
        have l := (n.cov.on s hs (z - 1 + k * c) _ ⟨by omega, by omega, rfl⟩).1
        rw [lst_per p] at l
        exact z4 (z - 1) (by omega) (by omega) l
      have k0 : k = 0 := by
        rcases Int.lt_trichotomy k 0 with l | l | l
        · have := mul_step (show k + 1 ≤ 0 by omega) (show 0 ≤ c by omega)
          omega
        · exact l
        · have := mul_step (show 0 + 1 ≤ k by omega) (show 0 ≤ c by omega)
          omega
      subst k0
      exact nb z (by omega) (by omega) ⟨s, hs, .inl (by omega)⟩
end
end PM
set_option maxHeartbeats 2000000
set_option autoImplicit false
namespace PA
open PySem L2 DL K01 PM
local macro_rules | `(tactic| walk_at "dl") => `(tactic| simp only [u_dSeq, u_dNext, u_dOwn, u_dOwnE, u_dFld, u_dMake, u_dMeth, u_dProp, u_dIsiO, u_dCallI, u_dSortSet, u_dFrz, e_isC, e_rgO, e_rgn, e_rgi, e_rgs, e_rgb, e_rgt, e_rgl, e_fz1, e_fz2, le_lim, lt_lim, set_snoc0, e_srtI, u_dBreak, u_dCont, u_dDrop, u_dRet, u_dRetN, u_dIfS, u_dNever, u_dAsg, u_dPar, u_dPutK, u_dAppend, u_dExtend, u_dCall, u_dVar, u_dC, u_dOp, u_dChain, u_dUn, u_dB, u_dNot, u_dAnd, u_dOr, u_dAndV, u_dOrV, u_dNotV, u_dIf, u_dNil, u_dCons, u_dTup, u_dLst, u_dLstC, u_dCB, u_dInK, u_dGetK, u_dDicC, u_dNoPart, u_dPart, u_dSl, u_dBits, u_dRev, u_dgName, u_dgsNil, u_dgsCons, u_dgTup, u_dgSet, u_diSeq, u_diR1, e_diR2, e_r2, u_diEnum, u_diEnumU, u_diZip, endD, finZ_d, finD, finC, List.take_length, u_dYes, wipeD, ix0, ix1, ix2, get_snoc, set_snoc, take_snoc, u_dOpC, u_dSlC, u_dListC, e_addC, e_mulC, e_loCl, e_loCt, e_loCs, e_wd, e_wc0, e_wcs, e_wsn, e_wc1, e_wc2, e_wl0, e_wl1, e_dl0, e_dl1, e_sl, e_st, e_ss, e_addi, e_adds, e_addt, e_addl, e_sub, e_muli, e_mult, e_mull, e_fdiv, e_mod, e_pow, e_neg, e_lt, e_le, e_gt, e_ge, e_eqi, e_eqs, e_eql, e_eqt, e_eqb, e_eqn, e_nei, e_nes, e_nel, e_net, e_neb, e_nen, e_isb, e_isn, e_inb, e_inn, e_in1, e_in2, e_in3, e_in4, e_in5, e_ixt, e_ixl, e_ixs, e_at0, e_at1, e_at2, e_at3, e_at4, e_at5, e_atl, e_keyi, e_keys, e_lenl, e_lent, e_lens, e_lend, e_maxi, e_mini, e_maxl, e_minl, e_sum, e_all, e_any, e_inti, e_intb, e_abs, e_tol, e_tot, e_tos, e_lol, e_lot, e_los, e_sll, e_slt, e_rvl, e_rvt, e_repr, e_isi, e_srtl, e_srtt, List.map_cons, List.map_nil, List.length_cons, List.length_nil, List.cons_append, List.nil_append, List.flatten_cons, List.flatten_nil, List.append_nil, List.replicate_succ, List.replicate_zero, List.getElem?_cons_zero, List.getElem?_cons_succ, List.set_cons_zero, List.set_cons_succ, Nat.reduceSub, Nat.reduceAdd, Int.reduceToNat, Int.reduceLE, Int.reduceLT, Int.reduceNeg, Nat.reduceLeDiff, Nat.reduceLT, Nat.zero_add, Option.some.injEq, Z.d.injEq, Z.c.injEq, D.bl.injEq, D.int.injEq, D.tup.injEq, D.lst.injEq, List.take_succ_cons, List.take_zero, exists_eq_left', exists_eq_left, true_and, and_true, if_true, Bool.not_true, Bool.not_false, Bool.false_eq_true, if_false, decide_true, decide_false, n_vK])
def rowT (r : Row) : D := .tup [.int r.1, .int r.2.1, .int r.2.2]
def rowsT (rs : List Row) : List D := rs.map rowT
def Bd (i : Int) : Prop := -(10 ^ 170) ≤ i ∧ i ≤ 10 ^ 170
def Bs (i : Int) : Prop := -(10 ^ 160) ≤ i ∧ i ≤ 10 ^ 160
theorem Bs.bd {i : Int} (h : Bs i) : Bd i := ⟨by have := h.1; omega, by have := h.2; omega⟩
def BdR (r : Row) : Prop := Bs r.1 ∧ Bs r.2.1 ∧ Bs r.2.2
theorem Bd.sm {i : Int} (h : Bd i) : Sm i := Sm.of (by have := h.1; omega) (by have := h.2; omega)
end PA
set_option maxHeartbeats 2000000
set_option autoImplicit false
local macro_rules | `(tactic| walk_at "wdl0") => `(tactic| simp only [DL.u_dSeq, DL.u_dNext, DL.u_dOwn, DL.u_dOwnE, DL.u_dFld, DL.u_dMake, DL.u_dMeth, DL.u_dProp, DL.u_dIsiO, DL.u_dCallI, DL.u_dSortSet, DL.u_dFrz, DL.e_isC, DL.e_rgO, DL.e_rgn, DL.e_rgi, DL.e_rgs, DL.e_rgb, DL.e_rgt, DL.e_rgl, DL.e_fz1, DL.e_fz2, DL.le_lim, DL.lt_lim, DL.set_snoc0, DL.e_srtI, DL.u_dBreak, DL.u_dCont, DL.u_dDrop, DL.u_dRet, DL.u_dRetN, DL.u_dIfS, DL.u_dNever, DL.u_dAsg, DL.u_dPar, DL.u_dPutK, DL.u_dAppend, DL.u_dExtend, DL.u_dCall, DL.u_dVar, DL.u_dC, DL.u_dOp, DL.u_dChain, DL.u_dUn, DL.u_dB, DL.u_dNot, DL.u_dAnd, DL.u_dOr, DL.u_dAndV, DL.u_dOrV, DL.u_dNotV, DL.u_dIf, DL.u_dNil, DL.u_dCons, DL.u_dTup, DL.u_dLst, DL.u_dLstC, DL.u_dCB, DL.u_dInK, DL.u_dGetK, DL.u_dDicC, DL.u_dNoPart, DL.u_dPart, DL.u_dSl, DL.u_dBits, DL.u_dRev, DL.u_dgName, DL.u_dgsNil, DL.u_dgsCons, DL.u_dgTup, DL.u_dgSet, DL.u_diSeq, DL.u_diR1, DL.e_diR2, DL.e_r2, DL.u_diEnum, DL.u_diEnumU, DL.u_diZip, DL.endD, DL.finZ_d, DL.finD, DL.finC, List.take_length, DL.u_dYes, DL.wipeD, DL.ix0, DL.ix1, DL.ix2, DL.get_snoc, DL.set_snoc, DL.take_snoc, DL.u_dOpC, DL.u_dSlC, DL.u_dListC, DL.e_addC, DL.e_mulC, DL.e_loCl, DL.e_loCt, DL.e_loCs, DL.e_wd, DL.e_wc0, DL.e_wcs, DL.e_wsn, DL.e_wc1, DL.e_wc2, DL.e_wl0, DL.e_wl1, DL.e_dl0, DL.e_dl1, DL.e_sl, DL.e_st, DL.e_ss, DL.e_addi, DL.e_adds, DL.e_addt, DL.e_addl, DL.e_sub, DL.e_muli, DL.e_mult, DL.e_mull, DL.e_fdiv, DL.e_mod, DL.e_pow, DL.e_neg, DL.e_lt, DL.e_le, DL.e_gt, DL.e_ge, DL.e_eqi, DL.e_eqs, DL.e_eql, DL.e_eqt, DL.e_eqb, DL.e_eqn, DL.e_nei, DL.e_nes, DL.e_nel, DL.e_net, DL.e_neb, DL.e_nen, DL.e_isb, DL.e_isn, DL.e_inb, DL.e_inn, DL.e_in1, DL.e_in2, DL.e_in3, DL.e_in4, DL.e_in5, DL.e_ixt, DL.e_ixl, DL.e_ixs, DL.e_at0, DL.e_at1, DL.e_at2, DL.e_at3, DL.e_at4, DL.e_at5, DL.e_atl, DL.e_keyi, DL.e_keys, DL.e_lenl, DL.e_lent, DL.e_lens, DL.e_lend, DL.e_maxi, DL.e_mini, DL.e_maxl, DL.e_minl, DL.e_sum, DL.e_all, DL.e_any, DL.e_inti, DL.e_intb, DL.e_abs, DL.e_tol, DL.e_tot, DL.e_tos, DL.e_lol, DL.e_lot, DL.e_los, DL.e_sll, DL.e_slt, DL.e_rvl, DL.e_rvt, DL.e_repr, DL.e_isi, DL.e_srtl, DL.e_srtt, List.map_cons, List.map_nil, List.length_cons, List.length_nil, List.cons_append, List.nil_append, List.flatten_cons, List.flatten_nil, List.append_nil, List.replicate_succ, List.replicate_zero, List.getElem?_cons_zero, List.getElem?_cons_succ, List.set_cons_zero, List.set_cons_succ, Nat.reduceSub, Nat.reduceAdd, Int.reduceToNat, Int.reduceLE, Int.reduceLT, Int.reduceNeg, Nat.reduceLeDiff, Nat.reduceLT, Nat.zero_add, Option.some.injEq, DL.Z.d.injEq, DL.Z.c.injEq, DL.D.bl.injEq, DL.D.int.injEq, DL.D.tup.injEq, DL.D.lst.injEq, List.take_succ_cons, List.take_zero, exists_eq_left', exists_eq_left, true_and, and_true, if_true, Bool.not_true, Bool.not_false, Bool.false_eq_true, if_false, decide_true, decide_false, DL.n_vK])
namespace PA
open PySem L2 DL K01 PM
local macro_rules | `(tactic| walk_at "dl") => `(tactic| walk_at "wdl0")
structure RowsOk (c : Int) (f : Int → Int) (rows : List Row) : Prop where
  psg : Psg c f
  cle : c ≤ 10 ^ 30
  val : Val c rows
  cov : Cov c rows f
  len : rows.length ≤ 10000000
  bd : ∀ r ∈ rows, BdR r
end PA
set_option maxHeartbeats 2000000
set_option autoImplicit false
namespace PA
open PySem L2 DL K01 PM
local macro_rules | `(tactic| walk_at "dl") => `(tactic| walk_at "wdl0")
structure Pas (c : Int) (f : Int → Int) (rs : List Row) (N : Nat) (M : Int) : Prop where
  psg : Psg c f
  can : Canon c f rs
  cle : c ≤ 10 ^ 30
  len : rs.length ≤ N
  mag : -M ≤ f 0 ∧ f 0 ≤ M
theorem Pas.norm {c : Int} {f : Int → Int} {rs : List Row} {N : Nat} {M : Int} (p : Pas c f rs N M) : Norm c f rs := p.can.norm p.psg
end PA
set_option maxHeartbeats 2000000
set_option autoImplicit false
namespace PA
open PySem L2 DL K01 PM
local macro_rules | `(tactic| walk_at "dl") => `(tactic| walk_at "wdl0")
end PA
set_option maxHeartbeats 2000000
set_option autoImplicit false
namespace PA
open PySem L2 DL K01 PM
local macro_rules | `(tactic| walk_at "dl") => `(tactic| walk_at "wdl0")
section
variable {c : Int} {f : Int → Int} {rs : List Row}
end
end PA
set_option maxHeartbeats 2000000
set_option autoImplicit false
namespace PA
open PySem L2 DL K01 PM
local macro_rules | `(tactic| walk_at "dl") => `(tactic| walk_at "wdl0")
def TileP (lo hi : Int) : List (Int × Int) → Prop
  | [] => lo = hi + 1
  | p :: ps => p.1 = lo ∧ p.1 ≤ p.2 ∧ TileP (p.2 + 1) hi ps
structure Cpc (c : Int) (f g : Int → Int) (ps : List (Int × Int)) : Prop where
  tile : TileP 0 (c - 1) ps
  rng : ∀ p ∈ ps, 0 ≤ p.1 ∧ p.2 < c
  lf : ∀ p ∈ ps, ∀ x, p.1 ≤ x → x ≤ p.2 → f x = f p.1 + rise f p.1 * (x - p.1)
  lg : ∀ p ∈ ps, ∀ x, p.1 ≤ x → x ≤ p.2 → g x = g p.1 + rise g p.1 * (x - p.1)
end PA
set_option maxHeartbeats 2000000
set_option autoImplicit false
namespace PA
open PySem L2 DL K01 PM
local macro_rules | `(tactic| walk_at "dl") => `(tactic| walk_at "wdl0")
end PA
set_option maxHeartbeats 2000000
set_option autoImplicit false
namespace PA
open PySem L2 DL K01 PM
local macro_rules | `(tactic| walk_at "dl") => `(tactic| walk_at "wdl0")
end PA
set_option maxHeartbeats 2000000
set_option autoImplicit false
namespace PA
open PySem L2 DL K01 PM
local macro_rules | `(tactic| walk_at "dl") => `(tactic| walk_at "wdl0")
end PA
set_option maxHeartbeats 2000000
set_option autoImplicit false
namespace PA
open PySem L2 DL K01 PM
local macro_rules | `(tactic| walk_at "dl") => `(tactic| walk_at "wdl0")
end PA
set_option maxHeartbeats 2000000
set_option autoImplicit false
namespace PA
open PySem L2 DL K01 PM
local macro_rules | `(tactic| walk_at "dl") => `(tactic| walk_at "wdl0")
end PA
set_option maxHeartbeats 2000000
set_option autoImplicit false
namespace PA
open PySem L2 DL K01 PM
local macro_rules | `(tactic| walk_at "dl") => `(tactic| walk_at "wdl0")
def psgD (cA : Str → Addr) (c : Int) (rs : List Row) : D := .ob (cA "Passage") ["own_cycle", "own_runs"] [.int c, .tup (rowsT rs)]
end PA
set_option maxHeartbeats 2000000
set_option autoImplicit false
namespace PA
open PySem L2 DL K01 PM
local macro_rules | `(tactic| walk_at "dl") => `(tactic| walk_at "wdl0")
end PA
set_option maxHeartbeats 2000000
set_option autoImplicit false
namespace PA
open PySem L2 DL K01 PM
local macro_rules | `(tactic| walk_at "dl") => `(tactic| walk_at "wdl0")
theorem made {cA : Str → Addr} {c : Int} {out : List Row} {cs : Cs} {q : Z → Cs → Prop} (h : q (.d (psgD cA c out)) cs) : True ∧
    ∃ ns ds, (List.set (cs ++ [D.ob (cA (Str.ofString "Passage")) [] []]) (List.length cs) (psgD cA c out))[List.length cs]? = some (D.ob (cA (Str.ofString "Passage")) ns ds) ∧
        (q (Z.d (D.ob (cA (Str.ofString "Passage")) ns ds)) (List.take (List.length cs) (List.take (List.length cs) (List.set (cs ++ [D.ob (cA (Str.ofString "Passage")) [] []]) (List.length cs) (psgD cA c out)))) ∨
          FinZ (List.length cs) q (Z.c (List.length cs)) (List.set (cs ++ [D.ob (cA (Str.ofString "Passage")) [] []]) (List.length cs) (psgD cA c out))) := by
  have e : List.set (cs ++ [D.ob (cA (Str.ofString "Passage")) [] []]) (List.length cs) (psgD cA c out) = cs ++ [psgD cA c out] := set_snoc0 _ _ _
  rw [e]
  refine ⟨trivial, _, _, List.getElem?_concat_length, .inl ?_⟩
  rw [List.take_take, Nat.min_self, List.take_left' rfl]
  exact h
end PA
set_option maxHeartbeats 2000000
set_option autoImplicit false
namespace PA
open PySem L2 DL K01 PM
local macro_rules | `(tactic| walk_at "dl") => `(tactic| walk_at "wdl0")
end PA
set_option maxHeartbeats 2000000
set_option autoImplicit false
namespace PA
open PySem L2 DL K01 PM
local macro_rules | `(tactic| walk_at "dl") => `(tactic| walk_at "wdl0")
end PA
set_option maxHeartbeats 2000000
set_option autoImplicit false
namespace PA
open PySem L2 DL K01 PM
local macro_rules | `(tactic| walk_at "dl") => `(tactic| simp only [u_dPar3, u_dSeq, u_dNext, u_dOwn, u_dOwnE, u_dFld, u_dMake, u_dMeth, u_dProp, u_dIsiO, u_dCallI, u_dSortSet, u_dFrz, e_isC, e_rgO, e_rgn, e_rgi, e_rgs, e_rgb, e_rgt, e_rgl, e_fz1, e_fz2, le_lim, lt_lim, set_snoc0, e_srtI, u_dBreak, u_dCont, u_dDrop, u_dRet, u_dRetN, u_dIfS, u_dNever, u_dAsg, u_dPar, u_dPutK, u_dAppend, u_dExtend, u_dCall, u_dVar, u_dC, u_dOp, u_dChain, u_dUn, u_dB, u_dNot, u_dAnd, u_dOr, u_dAndV, u_dOrV, u_dNotV, u_dIf, u_dNil, u_dCons, u_dTup, u_dLst, u_dLstC, u_dCB, u_dInK, u_dGetK, u_dDicC, u_dNoPart, u_dPart, u_dSl, u_dBits, u_dRev, u_dgName, u_dgsNil, u_dgsCons, u_dgTup, u_dgSet, u_diSeq, u_diR1, e_diR2, e_r2, u_diEnum, u_diEnumU, u_diZip, endD, finZ_d, finD, finC, List.take_length, u_dYes, wipeD, ix0, ix1, ix2, get_snoc, set_snoc, take_snoc, u_dOpC, u_dSlC, u_dListC, e_addC, e_mulC, e_loCl, e_loCt, e_loCs, e_wd, e_wc0, e_wcs, e_wsn, e_wc1, e_wc2, e_wl0, e_wl1, e_dl0, e_dl1, e_sl, e_st, e_ss, e_addi, e_adds, e_addt, e_addl, e_sub, e_muli, e_mult, e_mull, e_fdiv, e_mod, e_pow, e_neg, e_lt, e_le, e_gt, e_ge, e_eqi, e_eqs, e_eql, e_eqt, e_eqb, e_eqn, e_nei, e_nes, e_nel, e_net, e_neb, e_nen, e_isb, e_isn, e_inb, e_inn, e_in1, e_in2, e_in3, e_in4, e_in5, e_ixt, e_ixl, e_ixs, e_at0, e_at1, e_at2, e_at3, e_at4, e_at5, e_atl, e_keyi, e_keys, e_lenl, e_lent, e_lens, e_lend, e_maxi, e_mini, e_maxl, e_minl, e_sum, e_all, e_any, e_inti, e_intb, e_abs, e_tol, e_tot, e_tos, e_lol, e_lot, e_los, e_sll, e_slt, e_rvl, e_rvt, e_repr, e_isi, e_srtl, e_srtt, List.map_cons, List.map_nil, List.length_cons, List.length_nil, List.cons_append, List.nil_append, List.flatten_cons, List.flatten_nil, List.append_nil, List.replicate_succ, List.replicate_zero, List.getElem?_cons_zero, List.getElem?_cons_succ, List.set_cons_zero, List.set_cons_succ, Nat.reduceSub, Nat.reduceAdd, Int.reduceToNat, Int.reduceLE, Int.reduceLT, Int.reduceNeg, Nat.reduceLeDiff, Nat.reduceLT, Nat.zero_add, Option.some.injEq, Z.d.injEq, Z.c.injEq, D.bl.injEq, D.int.injEq, D.tup.injEq, D.lst.injEq, List.take_succ_cons, List.take_zero, exists_eq_left', exists_eq_left, true_and, and_true, if_true, Bool.not_true, Bool.not_false, Bool.false_eq_true, if_false, decide_true, decide_false, n_vK])
def Spring (L : Nat) (x : D) : Prop := ∃ d m c : Int, x = .lst [.int d, .int m, .int c] ∧ 0 ≤ d ∧ 0 ≤ m ∧ m < 10 ^ 50 ∧ 0 ≤ c ∧ c ≤ (L : Int)
theorem Spring.le {L M : Nat} {x : D} (h : Spring L x) (l : L ≤ M) : Spring M x :=
  let ⟨d, m, c, a, b, e, f, g, i⟩ := h
  ⟨d, m, c, a, b, e, f, g, by omega⟩
def sp_l_spring : DSpec := fun zs cs k => match zs with
  | [.d (.scr ns), .d (.int j)] => (0 ≤ j ∧ j < 1000) ∧ ∀ x, Spring 0 x → k (.c cs.length) (cs ++ [x])
  | _ => False
theorem len_l_spring : ∀ zs cs q, sp_l_spring zs cs q → zs.length = (["_law_script", "_law_k"] : List Str).length := fun zs cs q h => by
  unfold sp_l_spring at h
  split at h
  · rfl
  · exact h.elim
def t_l_spring : DS :=
  (dSeq (dAsg (dC (.int 0)) (dgName 2))
  (dSeq (dIfS (dB (dOp ltD (dVar 1) (dCB lenD (dCons (dVar 0) dNil)))) (dAsg (dOp ixD (dVar 0) (dVar 1)) (dgName 2)) dNext)
  (dLock (dRet (dLstC (dCons (dCB maxD (dCons (dC (.int 0)) (dCons (dOp subD (dVar 2) (dOp powD (dC (.int 10)) (dC (.int 18)))) dNil))) (dCons (dOp addD (dOp addD (dOp mulD (dOp modD (dVar 2) (dOp addD (dOp powD (dC (.int 10)) (dC (.int 39))) (dC (.int 7)))) (dC (.int 139))) (dOp mulD (dC (.int 60101)) (dVar 1))) (dC (.int 31))) (dCons (dC (.int 0)) dNil))))))))
theorem rd_l_spring : ∀ zs cs q, sp_l_spring zs cs q → t_l_spring (endD cs.length q) (startD ["_law_script", "_law_k", "_law_cell"] zs) cs := fun zs cs q h => by
  unfold sp_l_spring at h
  split at h
  rotate_left
  · exact h.elim
  rename_i ns j
  simp only [startD, List.map_cons, List.map_nil, List.length_cons, List.length_nil, Nat.reduceAdd, Nat.zero_add, Nat.reduceSub, List.replicate_zero, List.replicate_succ, List.cons_append, List.nil_append, List.append_nil]
  obtain ⟨⟨h1, h2⟩, h⟩ := h
  have fin : ∀ c : Int, FinZ cs.length q (.c cs.length) (cs ++ [.lst [.int (max 0 (c - 10 ^ 18)), .int (c % (10 ^ 39 + 7) * 139 + 60101 * j + 31), .int 0]]) := fun c => by
    refine finZ_new (Nat.le_refl _) (get_snoc _ _) ?_
    rw [List.take_left]
    have g1 := Int.emod_nonneg c (show (10 ^ 39 + 7 : Int) ≠ 0 from by decide)
    have g2 := Int.emod_lt_of_pos c (show (0 : Int) < 10 ^ 39 + 7 from by decide)
    generalize c % (10 ^ 39 + 7) = y at g1 g2 ⊢
    refine h _ ⟨_, _, _, rfl, Int.le_max_left _ _, ?_, ?_, by decide, by decide⟩
    · omega
    · omega
  have s10 : Sm 10 := Sm.of (by decide) (by decide)
  have s1 : Sm 60101 := Sm.of (by decide) (by decide)
  have s3 : Sm 139 := Sm.of (by decide) (by decide)
  have s2 : Sm j := Sm.of (by omega) (by omega)
  have sm : ∀ c : Int, Sm (c % (10 ^ 39 + 7)) := fun c => by
    have g1 := Int.emod_nonneg c (show (10 ^ 39 + 7 : Int) ≠ 0 from by decide)
    have g2 := Int.emod_lt_of_pos c (show (0 : Int) < 10 ^ 39 + 7 from by decide)
    generalize c % (10 ^ 39 + 7) = y at g1 g2 ⊢
    exact Sm.of (by omega) (by omega)
  unfold t_l_spring dLock
  by_cases hc : j < (ns.length : Int)
  · obtain ⟨c, e⟩ : ∃ c, atI ns j = some c := ⟨_, at_int h1 (List.getElem?_eq_getElem (by omega))⟩
    walk_at "dl"
    simp only [hc, decide_true, if_true]
    refine ⟨c, e, ?_⟩
    refine ⟨s10, s10, by decide, ⟨sm c, s3⟩, ⟨s1, s2⟩, ?_⟩
    exact fin c
  · walk_at "dl"
    simp only [hc, decide_false, Bool.false_eq_true, if_false]
    refine ⟨s10, s10, by decide, ⟨sm 0, s3⟩, ⟨s1, s2⟩, ?_⟩
    exact fin 0
def sp_l_take : DSpec := fun zs cs k => match zs, cs with
  | [.c 0, .d (.int b)], x :: rest => ∃ L, Spring L x ∧ (0 < b ∧ b ≤ 10 ^ 100 ∧ L ≤ 10 ^ 12) ∧ ∀ r x', 0 ≤ r → r < b → Spring (L + 1) x' → k (.d (.int r)) (x' :: rest)
  | _, _ => False
theorem len_l_take : ∀ zs cs q, sp_l_take zs cs q → zs.length = (["_law_spring_here", "_law_many"] : List Str).length := fun zs cs q h => by
  unfold sp_l_take at h
  split at h
  · rfl
  · exact h.elim
def t_l_take : DS :=
  (dSeq (dIfS (dB (dOp gtD (dOp ixD (dVar 0) (dC (.int 0))) (dC (.int 0)))) (dSeq (dAsg (dOp modD (dOp ixD (dVar 0) (dC (.int 0))) (dVar 1)) (dgName 2))
  (dSeq (dAsg (dOp fdivD (dOp ixD (dVar 0) (dC (.int 0))) (dVar 1)) (dgSet (dVar 0) (dC (.int 0))))
  (dRet (dVar 2)))) dNext)
  (dSeq (dAsg (dOp addD (dOp ixD (dVar 0) (dC (.int 2))) (dC (.int 1))) (dgSet (dVar 0) (dC (.int 2))))
  (dSeq (dAsg (dOp modD (dOp powD (dOp addD (dOp ixD (dVar 0) (dC (.int 1))) (dOp mulD (dC (.int 104395301)) (dOp ixD (dVar 0) (dC (.int 2))))) (dC (.int 3))) (dOp addD (dOp powD (dC (.int 10)) (dC (.int 44))) (dC (.int 31)))) (dgName 3))
  (dSeq (dAsg (dOp modD (dOp powD (dOp addD (dVar 3) (dOp mulD (dC (.int 86028121)) (dOp ixD (dVar 0) (dC (.int 2))))) (dC (.int 3))) (dOp addD (dOp powD (dC (.int 10)) (dC (.int 42))) (dC (.int 63)))) (dgName 3))
  (dRet (dOp modD (dOp fdivD (dVar 3) (dC (.int 262147))) (dVar 1)))))))
theorem rd_l_take : ∀ zs cs q, sp_l_take zs cs q → t_l_take (endD cs.length q) (startD ["_law_spring_here", "_law_many", "_law_found", "_law_mixed"] zs) cs := fun zs cs q h => by
  unfold sp_l_take at h
  split at h
  rotate_left
  · exact h.elim
  simp only [startD, List.map_cons, List.map_nil, List.length_cons, List.length_nil, Nat.reduceAdd, Nat.zero_add, Nat.reduceSub, List.replicate_zero, List.replicate_succ, List.cons_append, List.nil_append, List.append_nil]
  rename_i b x rest
  obtain ⟨L, ⟨d, m, c, rfl, d0, m0, m1, c0, c1⟩, ⟨b0, b1, hL⟩, h⟩ := h
  unfold t_l_take
  try walk_at "dl"
  have s10 : Sm 10 := Sm.of (by decide) (by decide)
  have s1 : Sm 104395301 := Sm.of (by decide) (by decide)
  have s2 : Sm 86028121 := Sm.of (by decide) (by decide)
  have s3 : Sm (c + 1) := Sm.of (by omega) (by omega)
  have s4 : Sm (m + 104395301 * (c + 1)) := Sm.of (by omega) (by omega)
  by_cases hd : 0 < d
  · rw [if_pos (by simpa using hd)]
    exact ⟨b0, Dv.of b0 (by omega), h _ _ (Int.emod_nonneg _ (by omega)) (Int.emod_lt_of_pos _ b0) ⟨_, _, _, rfl, Int.ediv_nonneg d0 (by omega), m0, m1, c0, by omega⟩⟩
  · rw [if_neg (by simpa using hd)]
    refine ⟨⟨s1, s3⟩, s4, s10, by decide, ⟨s2, s3⟩, ?_, s10, by decide, Dv.of (by decide) (by decide), b0, h _ _ (Int.emod_nonneg _ (by omega)) (Int.emod_lt_of_pos _ b0) ⟨_, _, _, rfl, d0, m0, m1, by omega, by omega⟩⟩
    have g1 := Int.emod_nonneg ((m + 104395301 * (c + 1)) ^ 3) (show (10 ^ 44 + 31 : Int) ≠ 0 from by decide)
    have g2 := Int.emod_lt_of_pos ((m + 104395301 * (c + 1)) ^ 3) (show (0 : Int) < 10 ^ 44 + 31 from by decide)
    generalize (m + 104395301 * (c + 1)) ^ 3 % (10 ^ 44 + 31) = y at g1 g2
    exact Sm.of (by omega) (by omega)
theorem take_use {L : Nat} {x : D} {rest : Cs} {b : Int} {k : Z → Cs → Prop} (hp : Spring L x) (hb : 0 < b ∧ b ≤ 10 ^ 100 ∧ L ≤ 10 ^ 12) (h : ∀ r x', 0 ≤ r → r < b → Spring (L + 1) x' → k (.d (.int r)) (x' :: rest)) :
    sp_l_take [.c 0, .d (.int b)] (x :: rest) k := ⟨L, hp, hb, h⟩
end PA
set_option maxHeartbeats 2000000
set_option autoImplicit false
namespace K91
open PySem L2 DL PM PA
theorem u_dIsV {ok : Addr → Prop} {bl : Addr → Bool} {de : DE} {en : En} {cs : Cs} {k : Z → Cs → Prop} : dIsV ok bl de en cs k = de en cs fun z cs1 => ∃ x E, z = .d x ∧ isErr E x ∧ ok E ∧ k (.d (.bl (bl E))) cs1 := nd rfl
theorem u_dErF {ok : Addr → Prop} {f : Str} {de : DE} {en : En} {cs : Cs} {k : Z → Cs → Prop} : dErF ok f de en cs k = de en cs fun z cs1 => ∃ a E b ns ds d, z = .d (.cel a (.cel E (.ob b ns ds))) ∧ ok E ∧ (ns.zip ds).lookup f = some d ∧ k (.d d) cs1 := nd rfl
theorem seq_use {a b : DS} {E : DEnds} {en : En} {cs : Cs} (h : dSeq a (dLock b) E en cs) : dSeq a b E en cs := h
theorem lock_use {a : DS} {E : DEnds} {en : En} {cs : Cs} (h : a E en cs) : dLock a E en cs := h
local macro_rules | `(tactic| walk_at "dl") => `(tactic| simp only [u_dPar3, u_dIsEF, u_dErHF, u_dRaise1, u_dSuRetF, u_dIsE, u_dDropX, u_dAsgX, u_dRetX, u_dRaise, u_dCallX, u_dSuRet, u_diLstS, u_dDicD, u_dCallIX, u_dOwnX, u_dMakeX, u_dFalse, endX, outX, u_dSeq, u_dNext, u_dOwn, u_dOwnE, u_dFld, u_dMake, u_dMeth, u_dProp, u_dIsiO, u_dCallI, u_dSortSet, u_dFrz, e_isC, e_rgO, e_rgn, e_rgi, e_rgs, e_rgb, e_rgt, e_rgl, e_fz1, e_fz2, le_lim, lt_lim, set_snoc0, e_srtI, u_dBreak, u_dCont, u_dDrop, u_dRet, u_dRetN, u_dIfS, u_dNever, u_dAsg, u_dPar, u_dPutK, u_dAppend, u_dExtend, u_dCall, u_dVar, u_dC, u_dOp, u_dChain, u_dUn, u_dB, u_dNot, u_dAnd, u_dOr, u_dAndV, u_dOrV, u_dNotV, u_dIf, u_dNil, u_dCons, u_dTup, u_dLst, u_dLstC, u_dCB, u_dInK, u_dGetK, u_dDicC, u_dNoPart, u_dPart, u_dSl, u_dBits, u_dRev, u_dgName, u_dgsNil, u_dgsCons, u_dgTup, u_dgSet, u_diSeq, u_diR1, e_diR2, e_r2, u_diEnum, u_diEnumU, u_diZip, endD, finZ_d, finD, finC, List.take_length, u_dYes, wipeD, ix0, ix1, ix2, get_snoc, set_snoc, take_snoc, u_dOpC, u_dSlC, u_dListC, e_addC, e_mulC, e_loCl, e_loCt, e_loCs, e_wd, e_wc0, e_wcs, e_wsn, e_wc1, e_wc2, e_wl0, e_wl1, e_dl0, e_dl1, e_sl, e_st, e_ss, e_addi, e_adds, e_addt, e_addl, e_sub, e_muli, e_mult, e_mull, e_fdiv, e_mod, e_pow, e_neg, e_lt, e_le, e_gt, e_ge, e_eqi, e_eqs, e_eql, e_eqt, e_eqb, e_eqn, e_nei, e_nes, e_nel, e_net, e_neb, e_nen, e_isb, e_isn, e_inb, e_inn, e_in1, e_in2, e_in3, e_in4, e_in5, e_ixt, e_ixl, e_ixs, e_at0, e_at1, e_at2, e_at3, e_at4, e_at5, e_atl, e_keyi, e_keys, e_lenl, e_lent, e_lens, e_lend, e_maxi, e_mini, e_maxl, e_minl, e_sum, e_all, e_any, e_inti, e_intb, e_abs, e_tol, e_tot, e_tos, e_lol, e_lot, e_los, e_sll, e_slt, e_rvl, e_rvt, e_repr, e_isi, e_srtl, e_srtt, List.map_cons, List.map_nil, List.length_cons, List.length_nil, List.cons_append, List.nil_append, List.flatten_cons, List.flatten_nil, List.append_nil, List.replicate_succ, List.replicate_zero, List.getElem?_cons_zero, List.getElem?_cons_succ, List.set_cons_zero, List.set_cons_succ, Nat.reduceSub, Nat.reduceAdd, Int.reduceToNat, Int.reduceLE, Int.reduceLT, Int.reduceNeg, Nat.reduceLeDiff, Nat.reduceLT, Nat.zero_add, Option.some.injEq, Z.d.injEq, Z.c.injEq, D.bl.injEq, D.int.injEq, D.tup.injEq, D.lst.injEq, List.take_succ_cons, List.take_zero, exists_eq_left', exists_eq_left, true_and, and_true, if_true, Bool.not_true, Bool.not_false, Bool.false_eq_true, if_false, decide_true, decide_false, n_vK])
abbrev errR : List Str := ["Backward", "Contradiction", "InvalidChanges", "InvalidCommand", "InvalidCourse", "InvalidCycle", "InvalidIndex", "InvalidMoment", "InvalidNet", "InvalidNumber", "InvalidParts", "InvalidPassage", "InvalidPlace", "InvalidRecords", "InvalidRoad", "InvalidRuns", "InvalidSignal", "InvalidStep", "InvalidStreets", "InvalidText", "InvalidWindows", "NotPlain", "Nothing", "OtherCycle", "TooLarge", "GreenError"]
abbrev errY : List Str := ["Backward", "Contradiction", "InvalidChanges", "InvalidCommand", "InvalidCourse", "InvalidCycle", "InvalidIndex", "InvalidMoment", "InvalidNet", "InvalidNumber", "InvalidParts", "InvalidPassage", "InvalidPlace", "InvalidRecords", "InvalidRoad", "InvalidRuns", "InvalidSignal", "InvalidStep", "InvalidStreets", "InvalidText", "InvalidWindows", "NotPlain", "Nothing", "OtherCycle", "TooLarge"]
def sp_l_flags (cA : Str → Addr) : DSpec := fun zs cs k => match zs with
  | [.d z] => ∃ E ∈ errR, isErr (cA E) z ∧ k (.d (.lst (errY.map fun y => .bl (decide (E = y))))) cs
  | _ => False
theorem len_l_flags (cA : Str → Addr) : ∀ zs cs q, (sp_l_flags cA) zs cs q → zs.length = (["_law_e"] : List Str).length := fun zs cs q h => by
  unfold sp_l_flags at h
  split at h
  · rfl
  · exact h.elim
def t_l_flags (cA : Str → Addr) : DS :=
  (dSeq (dAsg (dLstC (dCons (dIsV (okC cA errR) (fun E => decide (E = (cA "Backward"))) (dVar 0)) (dCons (dIsV (okC cA errR) (fun E => decide (E = (cA "Contradiction"))) (dVar 0)) (dCons (dIsV (okC cA errR) (fun E => decide (E = (cA "InvalidChanges"))) (dVar 0)) dNil)))) (dgName 1))
  (dSeq (dDrop (dExtend (dVar 1) (dLst (dCons (dIsV (okC cA errR) (fun E => decide (E = (cA "InvalidCommand"))) (dVar 0)) (dCons (dIsV (okC cA errR) (fun E => decide (E = (cA "InvalidCourse"))) (dVar 0)) (dCons (dIsV (okC cA errR) (fun E => decide (E = (cA "InvalidCycle"))) (dVar 0)) dNil))))))
  (dSeq (dDrop (dExtend (dVar 1) (dLst (dCons (dIsV (okC cA errR) (fun E => decide (E = (cA "InvalidIndex"))) (dVar 0)) (dCons (dIsV (okC cA errR) (fun E => decide (E = (cA "InvalidMoment"))) (dVar 0)) (dCons (dIsV (okC cA errR) (fun E => decide (E = (cA "InvalidNet"))) (dVar 0)) dNil))))))
  (dSeq (dDrop (dExtend (dVar 1) (dLst (dCons (dIsV (okC cA errR) (fun E => decide (E = (cA "InvalidNumber"))) (dVar 0)) (dCons (dIsV (okC cA errR) (fun E => decide (E = (cA "InvalidParts"))) (dVar 0)) (dCons (dIsV (okC cA errR) (fun E => decide (E = (cA "InvalidPassage"))) (dVar 0)) dNil))))))
  (dSeq (dDrop (dExtend (dVar 1) (dLst (dCons (dIsV (okC cA errR) (fun E => decide (E = (cA "InvalidPlace"))) (dVar 0)) (dCons (dIsV (okC cA errR) (fun E => decide (E = (cA "InvalidRecords"))) (dVar 0)) (dCons (dIsV (okC cA errR) (fun E => decide (E = (cA "InvalidRoad"))) (dVar 0)) dNil))))))
  (dSeq (dDrop (dExtend (dVar 1) (dLst (dCons (dIsV (okC cA errR) (fun E => decide (E = (cA "InvalidRuns"))) (dVar 0)) (dCons (dIsV (okC cA errR) (fun E => decide (E = (cA "InvalidSignal"))) (dVar 0)) (dCons (dIsV (okC cA errR) (fun E => decide (E = (cA "InvalidStep"))) (dVar 0)) dNil))))))
  (dSeq (dDrop (dExtend (dVar 1) (dLst (dCons (dIsV (okC cA errR) (fun E => decide (E = (cA "InvalidStreets"))) (dVar 0)) (dCons (dIsV (okC cA errR) (fun E => decide (E = (cA "InvalidText"))) (dVar 0)) (dCons (dIsV (okC cA errR) (fun E => decide (E = (cA "InvalidWindows"))) (dVar 0)) dNil))))))
  (dSeq (dDrop (dExtend (dVar 1) (dLst (dCons (dIsV (okC cA errR) (fun E => decide (E = (cA "NotPlain"))) (dVar 0)) (dCons (dIsV (okC cA errR) (fun E => decide (E = (cA "Nothing"))) (dVar 0)) (dCons (dIsV (okC cA errR) (fun E => decide (E = (cA "OtherCycle"))) (dVar 0)) dNil))))))
  (dSeq (dDrop (dExtend (dVar 1) (dLst (dCons (dIsV (okC cA errR) (fun E => decide (E = (cA "TooLarge"))) (dVar 0)) dNil))))
  (dRet (dVar 1)))))))))))
theorem rd_l_flags (cA : Str → Addr) (dst : ∀ E ∈ errR, ∀ y ∈ errY, decide (cA E = cA y) = decide (E = y)) : ∀ zs cs q, (sp_l_flags cA) zs cs q → t_l_flags cA (endD cs.length q) (startD ["_law_e", "_law_flags_here"] zs) cs := fun zs cs q h => by
  unfold sp_l_flags at h
  split at h
  rotate_left
  · exact h.elim
  rename_i z
  simp only [startD, List.map_cons, List.map_nil, List.length_cons, List.length_nil, Nat.reduceAdd, Nat.zero_add, Nat.reduceSub, List.replicate_zero, List.replicate_succ, List.cons_append, List.nil_append, List.append_nil]
  obtain ⟨E, hE, hz, h⟩ := h
  have ok : okC cA errR (cA E) := ⟨E, hE, rfl⟩
  unfold t_l_flags
  walk_at "dl"
  iterate 25 (refine ⟨_, cA E, rfl, hz, ok, ?_⟩; try walk_at "dl")
  have e : (errY.map fun y => D.bl (decide (cA E = cA y))) = errY.map fun y => D.bl (decide (E = y)) := List.map_congr_left fun y hy => by rw [dst E hE y hy]
  refine finZ_froz (x := .lst (errY.map fun y => D.bl (decide (cA E = cA y)))) (Nat.le_refl _) (get_snoc _ _) ?_
  rw [e, take_snoc]
  exact h
def e0D (cA : Str → Addr) (E : Str) (a b : Addr) : D := .tup [.cel a (.obj (cA E)), .cel b (.obj (cA E))]
def e1D (cA : Str → Addr) (E f : Str) (x y : D) (a b : Addr) : D := .tup [.cel a (.cel (cA E) (.ob 0 [f] [x])), .cel b (.cel (cA E) (.ob 0 [f] [y]))]
def madeD (cA : Str → Addr) (th ot nu : D) (q : Nat → Addr) : List D := [e0D cA "Backward" (q 0) (q 1),
  .tup [.cel (q 2) (.cel (cA "Contradiction") (.ob 0 ["second", "first"] [ot, nu])), .cel (q 3) (.cel (cA "Contradiction") (.ob 0 ["second", "first"] [nu, ot]))],
  e1D cA "InvalidChanges" "row" th ot (q 4) (q 5), e0D cA "InvalidCommand" (q 6) (q 7), e0D cA "InvalidCourse" (q 8) (q 9), e0D cA "InvalidCycle" (q 10) (q 11), e0D cA "InvalidIndex" (q 12) (q 13), e0D cA "InvalidMoment" (q 14) (q 15), e0D cA "InvalidNet" (q 16) (q 17),
  e0D cA "InvalidNumber" (q 18) (q 19), e0D cA "InvalidParts" (q 20) (q 21), e0D cA "InvalidPassage" (q 22) (q 23), e0D cA "InvalidPlace" (q 24) (q 25), e1D cA "InvalidRecords" "row" th ot (q 26) (q 27), e0D cA "InvalidRoad" (q 28) (q 29), e0D cA "InvalidRuns" (q 30) (q 31),
  e0D cA "InvalidSignal" (q 32) (q 33), e0D cA "InvalidStep" (q 34) (q 35), e1D cA "InvalidStreets" "row" th ot (q 36) (q 37), e1D cA "InvalidText" "index" th ot (q 38) (q 39), e0D cA "InvalidWindows" (q 40) (q 41), e0D cA "NotPlain" (q 42) (q 43), e0D cA "Nothing" (q 44) (q 45), e0D cA "OtherCycle" (q 46) (q 47), e1D cA "TooLarge" "limit" nu ot (q 48) (q 49)]
def sp_l_made (cA : Str → Addr) : DSpec := fun zs cs k => match zs with
  | [.d th, .d ot, .d nu] => ∀ q : Nat → Addr, k (.d (.lst (madeD cA th ot nu q))) cs
  | _ => False
theorem len_l_made (cA : Str → Addr) : ∀ zs cs q, (sp_l_made cA) zs cs q → zs.length = (["_law_thing", "_law_other", "_law_number"] : List Str).length := fun zs cs q h => by
  unfold sp_l_made at h
  split at h
  · rfl
  · exact h.elim
def t_l_made (cA : Str → Addr) : DS :=
  (dSeq (dAsg (dLstC dNil) (dgName 3))
  (dSeq (dDrop (dAppend (dVar 3) (dTup (dCons (dErr0 (cA "Backward")) (dCons (dErr0 (cA "Backward")) dNil)))))
  (dSeq (dDrop (dAppend (dVar 3) (dTup (dCons (dErr2 (cA "Contradiction") "first" "second" (dCons (dVar 2) (dCons (dVar 1) dNil))) (dCons (dErr2 (cA "Contradiction") "first" "second" (dCons (dVar 1) (dCons (dVar 2) dNil))) dNil)))))
  (dSeq (dDrop (dAppend (dVar 3) (dTup (dCons (dErr1 (cA "InvalidChanges") "row" (dCons (dVar 0) dNil)) (dCons (dErr1 (cA "InvalidChanges") "row" (dCons (dVar 1) dNil)) dNil)))))
  (dSeq (dDrop (dAppend (dVar 3) (dTup (dCons (dErr0 (cA "InvalidCommand")) (dCons (dErr0 (cA "InvalidCommand")) dNil)))))
  (dSeq (dDrop (dAppend (dVar 3) (dTup (dCons (dErr0 (cA "InvalidCourse")) (dCons (dErr0 (cA "InvalidCourse")) dNil)))))
  (dSeq (dDrop (dAppend (dVar 3) (dTup (dCons (dErr0 (cA "InvalidCycle")) (dCons (dErr0 (cA "InvalidCycle")) dNil)))))
  (dSeq (dDrop (dAppend (dVar 3) (dTup (dCons (dErr0 (cA "InvalidIndex")) (dCons (dErr0 (cA "InvalidIndex")) dNil)))))
  (dSeq (dDrop (dAppend (dVar 3) (dTup (dCons (dErr0 (cA "InvalidMoment")) (dCons (dErr0 (cA "InvalidMoment")) dNil)))))
  (dSeq (dDrop (dAppend (dVar 3) (dTup (dCons (dErr0 (cA "InvalidNet")) (dCons (dErr0 (cA "InvalidNet")) dNil)))))
  (dSeq (dDrop (dAppend (dVar 3) (dTup (dCons (dErr0 (cA "InvalidNumber")) (dCons (dErr0 (cA "InvalidNumber")) dNil)))))
  (dSeq (dDrop (dAppend (dVar 3) (dTup (dCons (dErr0 (cA "InvalidParts")) (dCons (dErr0 (cA "InvalidParts")) dNil)))))
  (dSeq (dDrop (dAppend (dVar 3) (dTup (dCons (dErr0 (cA "InvalidPassage")) (dCons (dErr0 (cA "InvalidPassage")) dNil)))))
  (dSeq (dDrop (dAppend (dVar 3) (dTup (dCons (dErr0 (cA "InvalidPlace")) (dCons (dErr0 (cA "InvalidPlace")) dNil)))))
  (dSeq (dDrop (dAppend (dVar 3) (dTup (dCons (dErr1 (cA "InvalidRecords") "row" (dCons (dVar 0) dNil)) (dCons (dErr1 (cA "InvalidRecords") "row" (dCons (dVar 1) dNil)) dNil)))))
  (dSeq (dDrop (dAppend (dVar 3) (dTup (dCons (dErr0 (cA "InvalidRoad")) (dCons (dErr0 (cA "InvalidRoad")) dNil)))))
  (dSeq (dDrop (dAppend (dVar 3) (dTup (dCons (dErr0 (cA "InvalidRuns")) (dCons (dErr0 (cA "InvalidRuns")) dNil)))))
  (dSeq (dDrop (dAppend (dVar 3) (dTup (dCons (dErr0 (cA "InvalidSignal")) (dCons (dErr0 (cA "InvalidSignal")) dNil)))))
  (dSeq (dDrop (dAppend (dVar 3) (dTup (dCons (dErr0 (cA "InvalidStep")) (dCons (dErr0 (cA "InvalidStep")) dNil)))))
  (dSeq (dDrop (dAppend (dVar 3) (dTup (dCons (dErr1 (cA "InvalidStreets") "row" (dCons (dVar 0) dNil)) (dCons (dErr1 (cA "InvalidStreets") "row" (dCons (dVar 1) dNil)) dNil)))))
  (dSeq (dDrop (dAppend (dVar 3) (dTup (dCons (dErr1 (cA "InvalidText") "index" (dCons (dVar 0) dNil)) (dCons (dErr1 (cA "InvalidText") "index" (dCons (dVar 1) dNil)) dNil)))))
  (dSeq (dDrop (dAppend (dVar 3) (dTup (dCons (dErr0 (cA "InvalidWindows")) (dCons (dErr0 (cA "InvalidWindows")) dNil)))))
  (dSeq (dDrop (dAppend (dVar 3) (dTup (dCons (dErr0 (cA "NotPlain")) (dCons (dErr0 (cA "NotPlain")) dNil)))))
  (dSeq (dDrop (dAppend (dVar 3) (dTup (dCons (dErr0 (cA "Nothing")) (dCons (dErr0 (cA "Nothing")) dNil)))))
  (dSeq (dDrop (dAppend (dVar 3) (dTup (dCons (dErr0 (cA "OtherCycle")) (dCons (dErr0 (cA "OtherCycle")) dNil)))))
  (dSeq (dDrop (dAppend (dVar 3) (dTup (dCons (dErr1 (cA "TooLarge") "limit" (dCons (dVar 2) dNil)) (dCons (dErr1 (cA "TooLarge") "limit" (dCons (dVar 1) dNil)) dNil)))))
  (dRet (dVar 3))))))))))))))))))))))))))))
theorem rd_l_made (cA : Str → Addr) : ∀ zs cs q, (sp_l_made cA) zs cs q → t_l_made cA (endD cs.length q) (startD ["_law_thing", "_law_other", "_law_number", "_law_found"] zs) cs := fun zs cs q h => by
  unfold sp_l_made at h
  split at h
  rotate_left
  · exact h.elim
  rename_i th ot nu
  simp only [startD, List.map_cons, List.map_nil, List.length_cons, List.length_nil, Nat.reduceAdd, Nat.zero_add, Nat.reduceSub, List.replicate_zero, List.replicate_succ, List.cons_append, List.nil_append, List.append_nil]
  unfold t_l_made
  refine seq_use ?_
  walk_at "dl"
  refine lock_use ?_
  refine seq_use ?_
  walk_at "dl"
  simp only [u_dErr0, u_dErr1, u_dErr2]
  try walk_at "dl"
  intro q0 q1
  refine lock_use ?_
  refine seq_use ?_
  walk_at "dl"
  simp only [u_dErr0, u_dErr1, u_dErr2]
  try walk_at "dl"
  refine ⟨_, _, rfl, fun q2 => ⟨_, _, rfl, fun q3 => ?_⟩⟩
  refine lock_use ?_
  refine seq_use ?_
  walk_at "dl"
  simp only [u_dErr0, u_dErr1, u_dErr2]
  try walk_at "dl"
  refine ⟨_, rfl, fun q4 => ⟨_, rfl, fun q5 => ?_⟩⟩
  refine lock_use ?_
  refine seq_use ?_
  walk_at "dl"
  simp only [u_dErr0, u_dErr1, u_dErr2]
  try walk_at "dl"
  intro q6 q7
  refine lock_use ?_
  refine seq_use ?_
  walk_at "dl"
  simp only [u_dErr0, u_dErr1, u_dErr2]
  try walk_at "dl"
  intro q8 q9
  refine lock_use ?_
  refine seq_use ?_
  walk_at "dl"
  simp only [u_dErr0, u_dErr1, u_dErr2]
  try walk_at "dl"
  intro q10 q11
  refine lock_use ?_
  refine seq_use ?_
  walk_at "dl"
  simp only [u_dErr0, u_dErr1, u_dErr2]
  try walk_at "dl"
  intro q12 q13
  refine lock_use ?_
  refine seq_use ?_
  walk_at "dl"
  simp only [u_dErr0, u_dErr1, u_dErr2]
  try walk_at "dl"
  intro q14 q15
  refine lock_use ?_
  refine seq_use ?_
  walk_at "dl"
  simp only [u_dErr0, u_dErr1, u_dErr2]
  try walk_at "dl"
  intro q16 q17
  refine lock_use ?_
  refine seq_use ?_
  walk_at "dl"
  simp only [u_dErr0, u_dErr1, u_dErr2]
  try walk_at "dl"
  intro q18 q19
  refine lock_use ?_
  refine seq_use ?_
  walk_at "dl"
  simp only [u_dErr0, u_dErr1, u_dErr2]
  try walk_at "dl"
  intro q20 q21
  refine lock_use ?_
  refine seq_use ?_
  walk_at "dl"
  simp only [u_dErr0, u_dErr1, u_dErr2]
  try walk_at "dl"
  intro q22 q23
  refine lock_use ?_
  refine seq_use ?_
  walk_at "dl"
  simp only [u_dErr0, u_dErr1, u_dErr2]
  try walk_at "dl"
  intro q24 q25
  refine lock_use ?_
  refine seq_use ?_
  walk_at "dl"
  simp only [u_dErr0, u_dErr1, u_dErr2]
  try walk_at "dl"
  refine ⟨_, rfl, fun q26 => ⟨_, rfl, fun q27 => ?_⟩⟩
  refine lock_use ?_
  refine seq_use ?_
  walk_at "dl"
  simp only [u_dErr0, u_dErr1, u_dErr2]
  try walk_at "dl"
  intro q28 q29
  refine lock_use ?_
  refine seq_use ?_
  walk_at "dl"
  simp only [u_dErr0, u_dErr1, u_dErr2]
  try walk_at "dl"
  intro q30 q31
  refine lock_use ?_
  refine seq_use ?_
  walk_at "dl"
  simp only [u_dErr0, u_dErr1, u_dErr2]
  try walk_at "dl"
  intro q32 q33
  refine lock_use ?_
  refine seq_use ?_
  walk_at "dl"
  simp only [u_dErr0, u_dErr1, u_dErr2]
  try walk_at "dl"
  intro q34 q35
  refine lock_use ?_
  refine seq_use ?_
  walk_at "dl"
  simp only [u_dErr0, u_dErr1, u_dErr2]
  try walk_at "dl"
  refine ⟨_, rfl, fun q36 => ⟨_, rfl, fun q37 => ?_⟩⟩
  refine lock_use ?_
  refine seq_use ?_
  walk_at "dl"
  simp only [u_dErr0, u_dErr1, u_dErr2]
  try walk_at "dl"
  refine ⟨_, rfl, fun q38 => ⟨_, rfl, fun q39 => ?_⟩⟩
  refine lock_use ?_
  refine seq_use ?_
  walk_at "dl"
  simp only [u_dErr0, u_dErr1, u_dErr2]
  try walk_at "dl"
  intro q40 q41
  refine lock_use ?_
  refine seq_use ?_
  walk_at "dl"
  simp only [u_dErr0, u_dErr1, u_dErr2]
  try walk_at "dl"
  intro q42 q43
  refine lock_use ?_
  refine seq_use ?_
  walk_at "dl"
  simp only [u_dErr0, u_dErr1, u_dErr2]
  try walk_at "dl"
  intro q44 q45
  refine lock_use ?_
  refine seq_use ?_
  walk_at "dl"
  simp only [u_dErr0, u_dErr1, u_dErr2]
  try walk_at "dl"
  intro q46 q47
  refine lock_use ?_
  refine seq_use ?_
  walk_at "dl"
  simp only [u_dErr0, u_dErr1, u_dErr2]
  try walk_at "dl"
  refine ⟨_, rfl, fun q48 => ⟨_, rfl, fun q49 => ?_⟩⟩
  refine lock_use ?_
  walk_at "dl"
  refine finZ_froz (x := .lst (madeD cA th ot nu fun n => [q0, q1, q2, q3, q4, q5, q6, q7, q8, q9, q10, q11, q12, q13, q14, q15, q16, q17, q18, q19, q20, q21, q22, q23, q24, q25, q26, q27, q28, q29, q30, q31, q32, q33, q34, q35, q36, q37, q38, q39, q40, q41, q42, q43, q44, q45, q46, q47, q48, q49].getD n 0)) (Nat.le_refl _) (get_snoc _ _) ?_
  rw [take_snoc]
  exact h _
def nmS : Str := (((("Backward Contradiction InvalidChanges InvalidCommand InvalidCourse InvalidCycle" : Str) ++ " InvalidIndex InvalidMoment InvalidNet InvalidNumber InvalidParts InvalidPassage") ++ " InvalidPlace InvalidRecords InvalidRoad InvalidRuns InvalidSignal InvalidStep") ++ " InvalidStreets InvalidText InvalidWindows NotPlain Nothing OtherCycle") ++ " TooLarge"
theorem nm_split : Txt.split nmS " " = errY ∧ nmS.length + 2 ≤ sizeLine := ⟨by decide +kernel, by decide +kernel⟩
theorem nm_key : (errY.map D.str) = (errY.map (Sum.inr : Str → Key)).map kyD := by rw [List.map_map]; rfl
end K91
set_option maxHeartbeats 2000000
set_option autoImplicit false
local macro_rules | `(tactic| walk_at "wdl1") => `(tactic| simp only [DL.u_dPar3, DL.u_dIsEF, DL.u_dErHF, DL.u_dRaise1, DL.u_dSuRetF, DL.u_dIsE, DL.u_dDropX, DL.u_dAsgX, DL.u_dRetX, DL.u_dRaise, DL.u_dCallX, DL.u_dSuRet, DL.u_diLstS, DL.u_dDicD, DL.u_dCallIX, DL.u_dOwnX, DL.u_dMakeX, DL.u_dFalse, DL.endX, DL.outX, DL.u_dSeq, DL.u_dNext, DL.u_dOwn, DL.u_dOwnE, DL.u_dFld, DL.u_dMake, DL.u_dMeth, DL.u_dProp, DL.u_dIsiO, DL.u_dCallI, DL.u_dSortSet, DL.u_dFrz, DL.e_isC, DL.e_rgO, DL.e_rgn, DL.e_rgi, DL.e_rgs, DL.e_rgb, DL.e_rgt, DL.e_rgl, DL.e_fz1, DL.e_fz2, DL.le_lim, DL.lt_lim, DL.set_snoc0, DL.e_srtI, DL.u_dBreak, DL.u_dCont, DL.u_dDrop, DL.u_dRet, DL.u_dRetN, DL.u_dIfS, DL.u_dNever, DL.u_dAsg, DL.u_dPar, DL.u_dPutK, DL.u_dAppend, DL.u_dExtend, DL.u_dCall, DL.u_dVar, DL.u_dC, DL.u_dOp, DL.u_dChain, DL.u_dUn, DL.u_dB, DL.u_dNot, DL.u_dAnd, DL.u_dOr, DL.u_dAndV, DL.u_dOrV, DL.u_dNotV, DL.u_dIf, DL.u_dNil, DL.u_dCons, DL.u_dTup, DL.u_dLst, DL.u_dLstC, DL.u_dCB, DL.u_dInK, DL.u_dGetK, DL.u_dDicC, DL.u_dNoPart, DL.u_dPart, DL.u_dSl, DL.u_dBits, DL.u_dRev, DL.u_dgName, DL.u_dgsNil, DL.u_dgsCons, DL.u_dgTup, DL.u_dgSet, DL.u_diSeq, DL.u_diR1, DL.e_diR2, DL.e_r2, DL.u_diEnum, DL.u_diEnumU, DL.u_diZip, DL.endD, DL.finZ_d, DL.finD, DL.finC, List.take_length, DL.u_dYes, DL.wipeD, DL.ix0, DL.ix1, DL.ix2, DL.get_snoc, DL.set_snoc, DL.take_snoc, DL.u_dOpC, DL.u_dSlC, DL.u_dListC, DL.e_addC, DL.e_mulC, DL.e_loCl, DL.e_loCt, DL.e_loCs, DL.e_wd, DL.e_wc0, DL.e_wcs, DL.e_wsn, DL.e_wc1, DL.e_wc2, DL.e_wl0, DL.e_wl1, DL.e_dl0, DL.e_dl1, DL.e_sl, DL.e_st, DL.e_ss, DL.e_addi, DL.e_adds, DL.e_addt, DL.e_addl, DL.e_sub, DL.e_muli, DL.e_mult, DL.e_mull, DL.e_fdiv, DL.e_mod, DL.e_pow, DL.e_neg, DL.e_lt, DL.e_le, DL.e_gt, DL.e_ge, DL.e_eqi, DL.e_eqs, DL.e_eql, DL.e_eqt, DL.e_eqb, DL.e_eqn, DL.e_nei, DL.e_nes, DL.e_nel, DL.e_net, DL.e_neb, DL.e_nen, DL.e_isb, DL.e_isn, DL.e_inb, DL.e_inn, DL.e_in1, DL.e_in2, DL.e_in3, DL.e_in4, DL.e_in5, DL.e_ixt, DL.e_ixl, DL.e_ixs, DL.e_at0, DL.e_at1, DL.e_at2, DL.e_at3, DL.e_at4, DL.e_at5, DL.e_atl, DL.e_keyi, DL.e_keys, DL.e_lenl, DL.e_lent, DL.e_lens, DL.e_lend, DL.e_maxi, DL.e_mini, DL.e_maxl, DL.e_minl, DL.e_sum, DL.e_all, DL.e_any, DL.e_inti, DL.e_intb, DL.e_abs, DL.e_tol, DL.e_tot, DL.e_tos, DL.e_lol, DL.e_lot, DL.e_los, DL.e_sll, DL.e_slt, DL.e_rvl, DL.e_rvt, DL.e_repr, DL.e_isi, DL.e_srtl, DL.e_srtt, List.map_cons, List.map_nil, List.length_cons, List.length_nil, List.cons_append, List.nil_append, List.flatten_cons, List.flatten_nil, List.append_nil, List.replicate_succ, List.replicate_zero, List.getElem?_cons_zero, List.getElem?_cons_succ, List.set_cons_zero, List.set_cons_succ, Nat.reduceSub, Nat.reduceAdd, Int.reduceToNat, Int.reduceLE, Int.reduceLT, Int.reduceNeg, Nat.reduceLeDiff, Nat.reduceLT, Nat.zero_add, Option.some.injEq, DL.Z.d.injEq, DL.Z.c.injEq, DL.D.bl.injEq, DL.D.int.injEq, DL.D.tup.injEq, DL.D.lst.injEq, List.take_succ_cons, List.take_zero, exists_eq_left', exists_eq_left, true_and, and_true, if_true, Bool.not_true, Bool.not_false, Bool.false_eq_true, if_false, decide_true, decide_false, DL.n_vK])
namespace K91
open PySem L2 DL PM PA
local macro_rules | `(tactic| walk_at "dl") => `(tactic| walk_at "wdl1")
def iN (d : D) : Prop := d = .non ∨ ∃ i, d = .int i
theorem eqN_iN {d : D} (h : iN d) : EqN 0 d := by
  rcases h with rfl | ⟨i, rfl⟩
  · exact EqN.non
  · exact EqN.int i
theorem two_eq {a b : D} (ha : iN a) (hb : iN b) : EqOk (D.lst [a, b]) ∧ eqvD (D.lst [a, b]) (D.lst [a, b]) = true := by
  refine ⟨(EqN.lst (e := 0) fun d hd => ?_).eq (by decide), ?_⟩
  · simp only [List.mem_cons, List.not_mem_nil, or_false] at hd
    rcases hd with rfl | rfl
    · exact eqN_iN ha
    · exact eqN_iN hb
  · rcases ha with rfl | ⟨i, rfl⟩ <;> rcases hb with rfl | ⟨j, rfl⟩ <;> simp [eqvD, py, pyL, PyData.eqv, PyData.eqvAll]
theorem thr_eq {a : D} (ha : iN a) : EqOk (D.lst [a, a, a]) ∧ eqvD (D.lst [a, a, a]) (D.lst [a, a, a]) = true := by
  refine ⟨(EqN.lst (e := 0) fun d hd => ?_).eq (by decide), ?_⟩
  · simp only [List.mem_cons, List.not_mem_nil, or_false] at hd
    rcases hd with rfl | rfl | rfl <;> exact eqN_iN ha
  · rcases ha with rfl | ⟨i, rfl⟩ <;> simp [eqvD, py, pyL, PyData.eqv, PyData.eqvAll]
theorem twT_eq {a b : D} (ha : iN a) (hb : iN b) : EqOk (D.tup [a, b]) ∧ eqvD (D.tup [a, b]) (D.tup [a, b]) = true := by
  refine ⟨(EqN.tup (e := 0) fun d hd => ?_).eq (by decide), ?_⟩
  · simp only [List.mem_cons, List.not_mem_nil, or_false] at hd
    rcases hd with rfl | rfl
    · exact eqN_iN ha
    · exact eqN_iN hb
  · rcases ha with rfl | ⟨i, rfl⟩ <;> rcases hb with rfl | ⟨j, rfl⟩ <;> simp [eqvD, py, pyL, PyData.eqv, PyData.eqvAll]
def sp_l_kept_right (cA : Str → Addr) : DSpec := fun zs cs k => match zs with
  | [.d (.lst xs), .d th, .d ot, .d nu] => ∃ q : Nat → Addr, xs = madeD cA th ot nu q ∧ (iN th ∧ iN ot ∧ iN nu) ∧ k (.d (.bl true)) cs
  | _ => False
theorem len_l_kept_right (cA : Str → Addr) : ∀ zs cs q, (sp_l_kept_right cA) zs cs q → zs.length = (["_law_pairs", "_law_thing", "_law_other", "_law_number"] : List Str).length := fun zs cs q h => by
  unfold sp_l_kept_right at h
  split at h
  · rfl
  · exact h.elim
def t_l_kept_right (cA : Str → Addr) : DS :=
  (dSeq (dAsg (dC (.str "Backward Contradiction InvalidChanges InvalidCommand InvalidCourse InvalidCycle")) (dgName 4))
  (dSeq (dAsg (dOp addD (dVar 4) (dC (.str " InvalidIndex InvalidMoment InvalidNet InvalidNumber InvalidParts InvalidPassage"))) (dgName 4))
  (dSeq (dAsg (dOp addD (dVar 4) (dC (.str " InvalidPlace InvalidRecords InvalidRoad InvalidRuns InvalidSignal InvalidStep"))) (dgName 4))
  (dSeq (dAsg (dOp addD (dVar 4) (dC (.str " InvalidStreets InvalidText InvalidWindows NotPlain Nothing OtherCycle"))) (dgName 4))
  (dSeq (dAsg (dOp addD (dVar 4) (dC (.str " TooLarge"))) (dgName 4))
  (dSeq (dAsg (dSplit (dVar 4) (dC (.str " "))) (dgName 4))
  (dSeq (dAsg (dDictZip (dVar 4) (dVar 0)) (dgName 5))
  (dSeq (dFor (diSeq (dLst (dCons (dTup (dCons (dC (.int 0)) (dCons (dVar 1) (dCons (dVar 3) (dCons (dVar 2) dNil))))) (dCons (dTup (dCons (dC (.int 1)) (dCons (dVar 2) (dCons (dVar 2) (dCons (dVar 3) dNil))))) dNil)))) (dgTup 4 (dgsCons (dgName 6) (dgsCons (dgName 7) (dgsCons (dgName 8) (dgsCons (dgName 9) dgsNil))))) (dSeq (dIfS (dB (dOp neUD (dLst (dCons (dErF (okC cA errR) "index" (dOp ixD (dGetK (dVar 5) (dC (.str "InvalidText"))) (dVar 6))) (dCons (dErF (okC cA errR) "limit" (dOp ixD (dGetK (dVar 5) (dC (.str "TooLarge"))) (dVar 6))) dNil))) (dLst (dCons (dVar 7) (dCons (dVar 8) dNil))))) (dRet (dC (.bl false))) dNext)
  (dSeq (dAsg (dLc (diSeq (dTup (dCons (dC (.str "InvalidStreets")) (dCons (dC (.str "InvalidChanges")) (dCons (dC (.str "InvalidRecords")) dNil))))) (dgName 12) dYes (dErF (okC cA errR) "row" (dOp ixD (dGetK (dVar 5) (dVar 12)) (dVar 6))) [12]) (dgName 10))
  (dSeq (dAsg (dOp ixD (dGetK (dVar 5) (dC (.str "Contradiction"))) (dVar 6)) (dgName 11))
  (dIfS (dOr (dB (dOp neUD (dVar 10) (dOp mulD (dLst (dCons (dVar 7) dNil)) (dC (.int 3))))) (dB (dOp neUD (dTup (dCons (dErF (okC cA errR) "first" (dVar 11)) (dCons (dErF (okC cA errR) "second" (dVar 11)) dNil))) (dTup (dCons (dVar 8) (dCons (dVar 9) dNil)))))) (dRet (dC (.bl false))) dNext)))))
  (dRet (dC (.bl true)))))))))))
theorem rd_l_kept_right (cA : Str → Addr) : ∀ zs cs q, (sp_l_kept_right cA) zs cs q → t_l_kept_right cA (endD cs.length q) (startD ["_law_pairs", "_law_thing", "_law_other", "_law_number", "_law_names", "_law_rows", "_law_spot", "_law_one", "_law_two", "_law_three", "_law_told", "_law_e", "_law_name"] zs) cs := fun zs cs q h => by
  unfold sp_l_kept_right at h
  split at h
  rotate_left
  · exact h.elim
  rename_i xs th ot nu
  simp only [startD, List.map_cons, List.map_nil, List.length_cons, List.length_nil, Nat.reduceAdd, Nat.zero_add, Nat.reduceSub, List.replicate_zero, List.replicate_succ, List.cons_append, List.nil_append, List.append_nil]
  obtain ⟨q, rfl, ⟨h1, h2, h3⟩, h⟩ := h
  unfold t_l_kept_right
  refine seq_use ?_
  walk_at "dl"
  refine lock_use ?_
  refine seq_use ?_
  walk_at "dl"
  refine ⟨by decide +kernel, ?_⟩
  refine lock_use ?_
  refine seq_use ?_
  walk_at "dl"
  refine ⟨by decide +kernel, ?_⟩
  refine lock_use ?_
  refine seq_use ?_
  walk_at "dl"
  refine ⟨by decide +kernel, ?_⟩
  refine lock_use ?_
  refine seq_use ?_
  walk_at "dl"
  refine ⟨by decide +kernel, ?_⟩
  refine lock_use ?_
  refine seq_use ?_
  rw [u_dSeq, u_dAsg, u_dSplit]
  walk_at "dl"
  refine ⟨nmS, rfl, " ", rfl, ⟨by decide, nm_split.2⟩, ?_⟩
  rw [nm_split.1, nm_key]
  refine lock_use ?_
  refine seq_use ?_
  rw [u_dSeq, u_dAsg, u_dDictZip]
  walk_at "dl"
  refine ⟨errY.map (Sum.inr : Str → Key), madeD cA th ot nu q, rfl, rfl, rfl, by decide +kernel, ?_⟩
  obtain ⟨KV, hKV⟩ : ∃ KV, KV = (errY.map (Sum.inr : Str → Key)).zip (madeD cA th ot nu q) := ⟨_, rfl⟩
  have gk : ∀ y d, getK ((errY.map (Sum.inr : Str → Key)).zip (madeD cA th ot nu q)) (.inr y) = some d → getK KV (.inr y) = some d := fun y d h => by rw [hKV]; exact h
  have g1 := gk "InvalidText" _ rfl
  have g2 := gk "TooLarge" _ rfl
  have g3 := gk "InvalidStreets" _ rfl
  have g4 := gk "InvalidChanges" _ rfl
  have g5 := gk "InvalidRecords" _ rfl
  have g6 := gk "Contradiction" _ rfl
  rw [← hKV]
  clear hKV gk
  try walk_at "dl"
  refine lock_use ?_
  refine seq_use ?_
  walk_at "dl"
  refine dFor_mk [.tup [.int 0, th, nu, ot], .tup [.int 1, ot, ot, nu]] yes cs (fun K h => by walk_at "dl"; exact h) (fun i en cx => ∃ (o4 o6 o7 o8 o9 o10 o11 o12 : Option Z), en = [some (.d (.lst (madeD cA th ot nu q))), some (.d th), some (.d ot), some (.d nu), o4, some (.d (.dic KV)), o6, o7, o8, o9, o10, o11, o12] ∧ cx = cs) ⟨_, _, _, _, _, _, _, _, rfl, rfl⟩ (fun i d en cx hd hI => ?_) (fun en cx hI => ?_) (fun _ _ _ _ => trivial)
  · obtain ⟨o4, o6, o7, o8, o9, o10, o11, o12, rfl, rfl⟩ := hI
    have hi : i = 0 ∨ i = 1 := by
      have := (List.getElem?_eq_some_iff.mp hd).1
      simp only [List.length_cons, List.length_nil] at this
      omega
    rcases hi with rfl | rfl
    · cases hd
      walk_at "dl"
      simp only [u_dErF]
      walk_at "dl"
      have ok : ∀ E ∈ errR, okC cA errR (cA E) := fun E hE => ⟨E, hE, rfl⟩
      rw [g1]
      dsimp only
      unfold e1D
      walk_at "dl"
      refine ⟨_, _, _, _, _, _, rfl, ok "InvalidText" (by decide), rfl, ?_⟩
      rw [g2]
      dsimp only
      unfold e1D
      walk_at "dl"
      refine ⟨_, _, _, _, _, _, rfl, ok "TooLarge" (by decide), rfl, ?_⟩
      have e2 := two_eq h1 h3
      refine ⟨⟨e2.1, e2.1⟩, ?_⟩
      rw [e2.2, if_neg (by decide)]
      refine dLc_mk [.str "InvalidStreets", .str "InvalidChanges", .str "InvalidRecords"] yes cx (fun K h => by walk_at "dl"; exact h) (fun _ => th) (by simp) (fun i d acc hd P hP => ?_) ?_ (fun _ => trivial)
      · have := List.mem_of_getElem? hd
        simp only [List.mem_cons, List.not_mem_nil, or_false] at this
        rcases this with rfl | rfl | rfl
        · walk_at "dl"
          rw [u_dErF]
          walk_at "dl"
          rw [g3]
          dsimp only
          unfold e1D
          walk_at "dl"
          exact ⟨_, _, _, _, _, _, rfl, ok "InvalidStreets" (by decide), rfl, hP⟩
        · walk_at "dl"
          rw [u_dErF]
          walk_at "dl"
          rw [g4]
          dsimp only
          unfold e1D
          walk_at "dl"
          exact ⟨_, _, _, _, _, _, rfl, ok "InvalidChanges" (by decide), rfl, hP⟩
        · walk_at "dl"
          rw [u_dErF]
          walk_at "dl"
          rw [g5]
          dsimp only
          unfold e1D
          walk_at "dl"
          exact ⟨_, _, _, _, _, _, rfl, ok "InvalidRecords" (by decide), rfl, hP⟩
      walk_at "dl"
      rw [g6]
      dsimp only
      walk_at "dl"
      have e3 := thr_eq h1
      refine ⟨by decide, ⟨e3.1, e3.1⟩, ?_⟩
      rw [e3.2, if_neg (by decide)]
      refine ⟨_, _, _, _, _, _, rfl, ok "Contradiction" (by decide), rfl, ?_⟩
      refine ⟨_, _, _, _, _, _, rfl, ok "Contradiction" (by decide), rfl, ?_⟩
      have e4 := twT_eq h3 h2
      refine ⟨⟨e4.1, e4.1⟩, ?_⟩
      rw [e4.2, if_neg (by decide)]
      exact .inl ⟨_, _, _, _, _, _, _, _, rfl, rfl⟩
    · cases hd
      walk_at "dl"
      simp only [u_dErF]
      walk_at "dl"
      have ok : ∀ E ∈ errR, okC cA errR (cA E) := fun E hE => ⟨E, hE, rfl⟩
      rw [g1]
      dsimp only
      unfold e1D
      walk_at "dl"
      refine ⟨_, _, _, _, _, _, rfl, ok "InvalidText" (by decide), rfl, ?_⟩
      rw [g2]
      dsimp only
      unfold e1D
      walk_at "dl"
      refine ⟨_, _, _, _, _, _, rfl, ok "TooLarge" (by decide), rfl, ?_⟩
      have e2 := two_eq h2 h2
      refine ⟨⟨e2.1, e2.1⟩, ?_⟩
      rw [e2.2, if_neg (by decide)]
      refine dLc_mk [.str "InvalidStreets", .str "InvalidChanges", .str "InvalidRecords"] yes cx (fun K h => by walk_at "dl"; exact h) (fun _ => ot) (by simp) (fun i d acc hd P hP => ?_) ?_ (fun _ => trivial)
      · have := List.mem_of_getElem? hd
        simp only [List.mem_cons, List.not_mem_nil, or_false] at this
        rcases this with rfl | rfl | rfl
        · walk_at "dl"
          rw [u_dErF]
          walk_at "dl"
          rw [g3]
          dsimp only
          unfold e1D
          walk_at "dl"
          exact ⟨_, _, _, _, _, _, rfl, ok "InvalidStreets" (by decide), rfl, hP⟩
        · walk_at "dl"
          rw [u_dErF]
          walk_at "dl"
          rw [g4]
          dsimp only
          unfold e1D
          walk_at "dl"
          exact ⟨_, _, _, _, _, _, rfl, ok "InvalidChanges" (by decide), rfl, hP⟩
        · walk_at "dl"
          rw [u_dErF]
          walk_at "dl"
          rw [g5]
          dsimp only
          unfold e1D
          walk_at "dl"
          exact ⟨_, _, _, _, _, _, rfl, ok "InvalidRecords" (by decide), rfl, hP⟩
      walk_at "dl"
      rw [g6]
      dsimp only
      walk_at "dl"
      have e3 := thr_eq h2
      refine ⟨by decide, ⟨e3.1, e3.1⟩, ?_⟩
      rw [e3.2, if_neg (by decide)]
      refine ⟨_, _, _, _, _, _, rfl, ok "Contradiction" (by decide), rfl, ?_⟩
      refine ⟨_, _, _, _, _, _, rfl, ok "Contradiction" (by decide), rfl, ?_⟩
      have e4 := twT_eq h2 h3
      refine ⟨⟨e4.1, e4.1⟩, ?_⟩
      rw [e4.2, if_neg (by decide)]
      exact .inl ⟨_, _, _, _, _, _, _, _, rfl, rfl⟩
  · obtain ⟨o4, o6, o7, o8, o9, o10, o11, o12, rfl, rfl⟩ := hI
    refine lock_use ?_
    try walk_at "dl"
    try refine lock_use ?_
    walk_at "dl"
    exact h
end K91
set_option maxHeartbeats 2000000
set_option autoImplicit false
namespace DL
open PySem L2
end DL
set_option maxHeartbeats 2000000
set_option autoImplicit false
namespace DL
open PySem L2 PyProof.Rows
section
variable {K : PySem.W.Frag} {S S' : Hp} {as : List Addr}
theorem ext_nil (h : Sub S S') : Ext S [] S' as := ⟨h, as, rfl⟩
end
def SemS0 (K : PySem.W.Frag) (ts : TS) (t : DS) : Prop :=
  ∀ (σ : L2.St) (H S : Hp) (as : List Addr) (en : En) (cs : Cs) (D : DEnds) (E : Ends), Rep K S H as cs → EnvOk K S as en σ → t D en cs → EnK K S [] D E → ts E σ H
structure QSs0 (X : Cx) (st : List Stmt) (ts : TS) (t : DS) : Prop where
  pss : PSs X st ts
  sem : SemS0 X.K ts t
theorem qss0_of {X : Cx} {st : List Stmt} {ts : TS} {t : DS} (h : QSs X st ts t) : QSs0 X st ts t :=
  ⟨h.pss, fun σ H S as en cs D E r e q p => h.sem σ H S as en cs D E r e q (p.mono (ext_nil (Sub.refl S)))⟩
def dSeq0 (t u : DS) : DS := fun D en cs => t { D with nx := Wkn 0 (u D) } en cs
theorem u_dSeq0 (t u : DS) (D0 : DEnds) (en : En) (cs : Cs) : dSeq0 t u D0 en cs = t { D0 with nx := Wkn 0 (u D0) } en cs := nd rfl
theorem qss0_cons {X : Cx} {st : Stmt} {rest : List Stmt} {ts us : TS} {t u : DS} (h1 : QS X st ts t) (h2 : QSs0 X rest us u) : QSs0 X (st :: rest) (tSeq ts us) (dSeq0 t u) := by
  refine ⟨pss_cons h1.ps h2.pss, ?_⟩
  intro σ H S as en cs D E r e q p
  have p' : EnK X.K S as D E := p.mono (ext_nil (Sub.refl S))
  refine h1.sem σ H S as en cs { D with nx := Wkn 0 (u D) } { E with nx := us E } r e q ⟨fun σ' S' H' as' en' cs' e' r' ev' q' => ?_, p'.rt, p'.bk, p'.ct⟩
  obtain ⟨S2, as2, en2, cs2, ex, r2, ev2, q2⟩ := Wkn.out (S0 := S) (as0 := []) q' (ext_nil e'.sub) rfl r' ev'
  exact h2.sem σ' H' S2 as2 en2 cs2 D E r2 ev2 q2 (p.mono (ext_nil ex.sub))
section
variable {P : Program} {w : World} {K : PySem.W.Frag} {mg : Str → Option Value} {base : Heap}
theorem fn_D0 {x qual : Str} {st : Stmt} {f : Addr} {fd : FuncData} {N ps : List Str} {k : Nat} {sp : DSpec} (F : Fun K x qual st f fd) (S : FnScope N ps (defScope st)) (len : ∀ zs cs q, sp zs cs q → zs.length = ps.length) (h0 : ∀ zs cs q, sp zs cs q → cs = []) (t : DS)
    (der : ∀ (cdv : Value) (A : Around) (outer : List Env) (s : Shared) (H : Hp), Room k (A.deeper (envOfC qual (defScope st) s.heap.objs.size f cdv)) → (A.deeper (envOfC qual (defScope st) s.heap.objs.size f cdv)).guards = some [] →
      ∃ ts : TS, QSs0 (cxOf CX0 P w K mg base N qual (defScope st) f cdv A outer s H E0).nox (defBody st) ts t)
    (rd : ∀ zs cs q, sp zs cs q → t ⟨fun _ c => q (.d .non) (c.take cs.length), FinZ cs.length q, fun _ _ => False, fun _ _ => False⟩ (startD N zs) cs) : FnD P w K mg base (k + 1) f fd ps sp := by
  obtain ⟨oc, od, kV, doc, pm, an, cdv, ct, osl, rfl, lk, hcd⟩ := F.ex
  refine ⟨len, fun A outer s H args us vs Q hr hgd e0 hb r hsp => ?_⟩
  obtain ⟨T, as, zs, cs, q, rep, vz, hz, pq⟩ := hsp
  have hl : vs.length = ps.length := vz.len.trans (len _ _ _ hz)
  have KX : K.In s.heap := e0.mod.kin.keeps fun b o e => (e0.bs b o e).1
  have lim : s.heap.NoLimit := e0.mod.nolimit.keeps fun b o e => (e0.bs b o e).1
  refine codeAny_call_function hr.depth (KX _ _ lk) rfl S.co S.gen rfl (PySem.W.codeRec_of KX hcd) (hb _ _ _ _ ?_)
  refine wpAny_newFunctionEnv_cells S.kind (fun ⟨n, v⟩ hy => (S.par n (List.of_mem_zip hy).1).imp (fun h => h) fun h => ⟨h, PySem.W.cellsFrom_some _ _ _ (.inl h)⟩) fun env he s1 x => ?_
  subst he
  refine ⟨lim.keeps x.toInCall.keep, codeAny_func ?_⟩
  obtain ⟨ts, d⟩ := der cdv A outer s H (hr.deeper _) hgd
  have I : Inv (cxOf CX0 P w K mg base N qual (defScope st) f cdv A outer s H E0) [] (L2.start N vs) H s1 := inv_start S hr.hd e0 hl r x
  have c0 := h0 _ _ _ hz
  have a0 : as = [] := by
    have := rep.len
    rw [c0] at this
    exact List.length_eq_zero_iff.mp this
  subst a0
  have body : ts { nx := fun _ H' => Q .non H', rt := Q } (L2.start N vs) H := by
    refine d.sem (L2.start N vs) H T [] (startD N zs) cs _ _ rep (env_start vz) (rd zs cs q hz) ⟨fun σ' S' H' as' en' cs' e' r' ev' q' => ?_, ?_, fun _ _ _ _ _ _ _ _ _ h => h, fun _ _ _ _ _ _ _ _ _ h => h⟩
    · rw [← rep.len] at q'
      exact pq (.d .non) .non S' H' _ _ e'.take (r'.take ([] : List Addr).length) rfl q'
    · rw [← rep.len]
      exact fin_pq pq
  refine wpAny_mono (d.pss.nox.run [] s1 (L2.start N vs) H _ I body) (fun fl s' hs => ?_) fun e s' hs => hs
  cases fl with
  | ret u =>
    obtain ⟨v, σ', H', J, rv, q⟩ := hs
    exact ⟨v, H', J.os, J.bare, J.base, J.hok, rv, q⟩
  | next =>
    obtain ⟨σ', H', J, q⟩ := hs
    exact ⟨.non, H', J.os, J.bare, J.base, J.hok, rfl, q⟩
  | brk => exact hs.elim fun _ h => h.elim fun _ h => h.2.elim
  | cont => exact hs.elim fun _ h => h.elim fun _ h => h.2.elim
theorem Got.mk0 {name : Str} {k : Nat} {ps : List Str} {sp : DSpec} {st : Stmt} {N : List Str} (T : DefT K mg name st ps) (S : FnScope N ps (defScope st)) (len : ∀ zs cs q, sp zs cs q → zs.length = ps.length) (h0 : ∀ zs cs q, sp zs cs q → cs = []) (t : DS)
    (der : ∀ (f : Addr) (cdv : Value) (A : Around) (outer : List Env) (s : Shared) (H : Hp), Room k (A.deeper (envOfC name (defScope st) s.heap.objs.size f cdv)) → (A.deeper (envOfC name (defScope st) s.heap.objs.size f cdv)).guards = some [] →
      ∃ ts : TS, QSs0 (cxOf CX0 P w K mg base N name (defScope st) f cdv A outer s H E0).nox (defBody st) ts t)
    (rd : ∀ zs cs q, sp zs cs q → t (endD cs.length q) (startD N zs) cs) : Got P w K mg base name (k + 1) ps sp := by
  obtain ⟨f, fd, F, g, b⟩ := T
  exact ⟨f, fd, g, F.kp, b, fn_D0 F S len h0 t (der f) rd⟩
end
end DL
set_option maxHeartbeats 2000000
set_option autoImplicit false
namespace K91
open PySem L2 DL PM PA
local macro_rules | `(tactic| walk_at "dl") => `(tactic| walk_at "wdl1")
theorem e0_at {cA : Str → Addr} {E : Str} {a b : Addr} : ∃ x y, e0D cA E a b = .tup [x, y] ∧ isErr (cA E) x ∧ isErr (cA E) y := ⟨_, _, rfl, ⟨a, .inl rfl⟩, ⟨b, .inl rfl⟩⟩
theorem e1_at {cA : Str → Addr} {E f : Str} {x y : D} {a b : Addr} : ∃ u v, e1D cA E f x y a b = .tup [u, v] ∧ isErr (cA E) u ∧ isErr (cA E) v := ⟨_, _, rfl, ⟨a, .inr ⟨0, _, _, rfl⟩⟩, ⟨b, .inr ⟨0, _, _, rfl⟩⟩⟩
theorem made_at {cA : Str → Addr} {th ot nu : D} {q : Nat → Addr} : ∀ (i : Nat) (d : D), (madeD cA th ot nu q)[i]? = some d → ∃ E x y, errY[i]? = some E ∧ d = .tup [x, y] ∧ isErr (cA E) x ∧ isErr (cA E) y := fun i d hd => by
  have hi : i < 25 := (List.getElem?_eq_some_iff.mp hd).1
  rcases (show i = 0 ∨ i = 1 ∨ i = 2 ∨ i = 3 ∨ i = 4 ∨ i = 5 ∨ i = 6 ∨ i = 7 ∨ i = 8 ∨ i = 9 ∨ i = 10 ∨ i = 11 ∨ i = 12 ∨ i = 13 ∨ i = 14 ∨ i = 15 ∨ i = 16 ∨ i = 17 ∨ i = 18 ∨ i = 19 ∨ i = 20 ∨ i = 21 ∨ i = 22 ∨ i = 23 ∨ i = 24 by omega) with rfl | rfl | rfl | rfl | rfl | rfl | rfl | rfl | rfl | rfl | rfl | rfl | rfl | rfl | rfl | rfl | rfl | rfl | rfl | rfl | rfl | rfl | rfl | rfl | rfl
  all_goals cases hd
  all_goals first
    | exact let ⟨x, y, e, h1, h2⟩ := e0_at; ⟨_, x, y, rfl, e, h1, h2⟩
    | exact let ⟨x, y, e, h1, h2⟩ := e1_at; ⟨_, x, y, rfl, e, h1, h2⟩
    | exact ⟨_, _, _, rfl, rfl, ⟨_, .inr ⟨0, _, _, rfl⟩⟩, ⟨_, .inr ⟨0, _, _, rfl⟩⟩⟩
theorem fl_eq : ∀ i : Fin 25, ∀ E, errY[i.1]? = some E → (errY.map fun y => D.bl (decide (E = y))) = (List.range 25).map fun (j : Nat) => D.bl (decide ((j : Int) = (i.1 : Int))) := fun i E hE => by
  have h : ∀ i : Fin 25, (errY.map fun y => decide (errY[i.1]? = some y)) = (List.range 25).map fun (j : Nat) => decide ((j : Int) = (i.1 : Int)) := by decide +kernel
  have e := congrArg (List.map D.bl) (h i)
  rw [List.map_map, List.map_map] at e
  rw [hE] at e
  simpa [Function.comp_def] using e
theorem bls_all : ∀ bs : List Bool, PyData.eqvAll (pyL (bs.map D.bl)) (pyL (bs.map D.bl)) = true
  | [] => rfl
  | b :: r => by
    rw [List.map_cons]
    show (PyData.eqv (.bool b) (.bool b) && PyData.eqvAll (pyL (r.map D.bl)) (pyL (r.map D.bl))) = true
    rw [bls_all r, Bool.and_true]
    cases b <;> rfl
theorem bls_eq (bs : List Bool) : EqOk (D.lst (bs.map D.bl)) ∧ eqvD (D.lst (bs.map D.bl)) (D.lst (bs.map D.bl)) = true := by
  refine ⟨(EqN.lst (e := 0) fun d hd => ?_).eq (by decide), ?_⟩
  · obtain ⟨b, _, rfl⟩ := List.mem_map.mp hd
    exact EqN.bl b
  · show PyData.eqv (.list (pyL (bs.map D.bl))) (.list (pyL (bs.map D.bl))) = true
    rw [PyData.eqv]
    exact bls_all bs
theorem if_use {c : Prop} [Decidable c] {a b : Prop} (h : c) (ha : a) : if c then a else b := by
  rw [if_pos h]
  exact ha
def isJ (j : Int) : D → D
  | .int x => .bl (decide (x = j))
  | _ => .non
theorem rg_isJ (j : Nat) : (rgD 0 25).map (isJ j) = ((List.range 25).map fun (x : Nat) => decide ((x : Int) = (j : Int))).map D.bl := by
  rw [List.map_map]
  unfold rgD
  rw [List.map_map]
  refine List.map_congr_left fun x _ => ?_
  show D.bl (decide ((0 : Int) + (x : Int) = (j : Int))) = _
  rw [Int.zero_add]
  rfl
def sp_law : DSpec := fun zs cs k => match zs, cs with
  | [.d (.scr ns)], [] => ns.length ≤ 63 ∧ k (.d (.bl true)) []
  | _, _ => False
theorem len_law : ∀ zs cs q, sp_law zs cs q → zs.length = (["_law_script"] : List Str).length := fun zs cs q h => by
  unfold sp_law at h
  split at h
  · rfl
  · exact h.elim
def t_law (cA : Str → Addr) : DS :=
  (dSeq0 (dFor (diR1 (dCB maxD (dCons (dC (.int 1)) (dCons (dCB minD (dCons (dC (.int 4)) (dCons (dCB lenD (dCons (dVar 0) dNil)) dNil))) dNil)))) (dgName 1) (dSeq (dAsg (dCall sp_l_spring (dCons (dVar 0) (dCons (dVar 1) dNil))) (dgName 2))
  (dSeq (dPar 3 4 (dCons (dOp ixD (dLst (dCons (dC .non) (dCons (dCall sp_l_take (dCons (dVar 2) (dCons (dOp powD (dC (.int 10)) (dC (.int 40))) dNil))) dNil))) (dCall sp_l_take (dCons (dVar 2) (dCons (dC (.int 2)) dNil)))) (dCons (dCall sp_l_take (dCons (dVar 2) (dCons (dC (.int 99)) dNil))) dNil)))
  (dSeq (dAsg (dCall sp_l_take (dCons (dVar 2) (dCons (dOp powD (dC (.int 10)) (dC (.int 40))) dNil))) (dgName 5))
  (dSeq (dAsg (dCall (sp_l_made cA) (dCons (dVar 3) (dCons (dVar 4) (dCons (dVar 5) dNil)))) (dgName 6))
  (dSeq (dFor (diEnumU (dVar 6)) (dgTup 2 (dgsCons (dgName 7) (dgsCons (dgName 8) dgsNil))) (dFor (diSeq (dVar 8)) (dgName 9) (dSeq (dIfS (dOr (dNot (dB (dIsV (okC cA errR) (fun _ => true) (dVar 9)))) (dNot (dB (dIsV (okC cA errR) (fun _ => true) (dVar 9))))) (dRet (dC (.bl false))) dNext)
  (dIfS (dB (dOp neUD (dCall (sp_l_flags cA) (dCons (dVar 9) dNil)) (dLc (diR1 (dCB lenD (dCons (dVar 6) dNil))) (dgName 10) dYes (dOp eqUD (dVar 10) (dVar 7)) [10]))) (dRet (dC (.bl false))) dNext))))
  (dIfS (dNot (dB (dCall (sp_l_kept_right cA) (dCons (dVar 6) (dCons (dVar 3) (dCons (dVar 4) (dCons (dVar 5) dNil))))))) (dRet (dC (.bl false))) dNext)))))))
  (dRet (dAndV (dOp eqUD (dCall (sp_l_flags cA) (dCons (dErr0 (cA "GreenError")) dNil)) (dOp mulD (dLst (dCons (dC (.bl false)) dNil)) (dC (.int 25)))) (dIsV (okC cA errR) (fun _ => true) (dErr0 (cA "GreenError"))))))
theorem rd_law (cA : Str → Addr) : ∀ zs cs q, sp_law zs cs q → t_law cA (endD cs.length q) (startD ["_law_script", "_law_k", "_law_spring_here", "_law_thing", "_law_other", "_law_number", "_law_pairs", "_law_spot", "_law_pair", "_law_e", "_law_place"] zs) cs := fun zs cs q h => by
  unfold sp_law at h
  split at h
  rotate_left
  · exact h.elim
  simp only [startD, List.map_cons, List.map_nil, List.length_cons, List.length_nil, Nat.reduceAdd, Nat.zero_add, Nat.reduceSub, List.replicate_zero, List.replicate_succ, List.cons_append, List.nil_append, List.append_nil]
  rename_i ns
  obtain ⟨hn, h⟩ := h
  unfold t_law
  rw [u_dSeq0]
  walk_at "dl"
  refine dFor_mk (rgD 0 (max 1 (min 4 (ns.length : Int))).toNat) yes [] (fun K h => by walk_at "dl"; exact ⟨⟨by omega, by omega⟩, h⟩) (fun i en c1 => ∃ o1 o2 o3 o4 o5 o6 o7 o8 o9 o10 : Option Z, en = [some (.d (.scr ns)), o1, o2, o3, o4, o5, o6, o7, o8, o9, o10] ∧ c1 = [])
    ⟨_, _, _, _, _, _, _, _, _, _, rfl, rfl⟩ (fun i d en c1 hd hI => ?_) (fun en c1 hI => ?_) (fun _ _ _ _ => trivial)
  · obtain ⟨hi, rfl⟩ := rgD_get hd
    obtain ⟨o1, o2, o3, o4, o5, o6, o7, o8, o9, o10, rfl, rfl⟩ := hI
    walk_at "dl"
    refine ⟨⟨by omega, by omega⟩, fun x0 hx0 => ?_⟩
    try walk_at "dl"
    refine ⟨Sm.of (by decide) (by decide), ?_⟩
    refine take_use hx0 ⟨by decide, by decide, by omega⟩ fun v x1 v0 v1 p1 => ?_
    walk_at "dl"
    refine take_use p1 ⟨by decide, by decide, by omega⟩ fun s x2 s0 s1 p2 => ?_
    obtain ⟨th, eth, hth⟩ : ∃ th, atI [D.non, D.int v] s = some th ∧ iN th := by
      rcases (show s = 0 ∨ s = 1 by omega) with rfl | rfl
      · exact ⟨_, rfl, .inl rfl⟩
      · exact ⟨_, rfl, .inr ⟨_, rfl⟩⟩
    walk_at "dl"
    rw [e_at eth]
    refine take_use p2 ⟨by decide, by decide, by omega⟩ fun ot x3 ot0 ot1 p3 => ?_
    try walk_at "dl"
    refine ⟨Sm.of (by decide) (by decide), ?_⟩
    refine take_use p3 ⟨by decide, by decide, by omega⟩ fun nu x4 nu0 nu1 p4 => ?_
    try walk_at "dl"
    intro q
    try walk_at "dl"
    have mat := @made_at cA th (.int ot) (.int nu) q
    have ml : (madeD cA th (.int ot) (.int nu) q).length = 25 := rfl
    have ok : ∀ E ∈ errR, okC cA errR (cA E) := fun E hE => ⟨E, hE, rfl⟩
    have inR : ∀ E ∈ errY, E ∈ errR := by decide
    refine dFor_mk (enumD (madeD cA th (.int ot) (.int nu) q)) yes [x4] (fun K h => by walk_at "dl"; exact h) (fun i2 en c2 => ∃ o7 o8 o9 o10 : Option Z, en = [some (Z.d (D.scr ns)), some (Z.d (D.int (0 + i))), some (Z.c 0), some (Z.d th), some (Z.d (D.int ot)),
      some (Z.d (D.int nu)), some (Z.d (D.lst (madeD cA th (D.int ot) (D.int nu) q))), o7, o8, o9, o10] ∧ c2 = [x4]) ⟨_, _, _, _, rfl, rfl⟩ (fun i2 d2 en c2 hd2 hJ => ?_) (fun en c2 hJ => ?_) (fun _ _ _ _ => trivial)
    · obtain ⟨o7, o8, o9, o10, rfl, rfl⟩ := hJ
      obtain ⟨d3, hd3, rfl⟩ := enumD_get hd2
      have i25 : i2 < 25 := by
        have := (List.getElem?_eq_some_iff.mp hd3).1
        rw [ml] at this
        exact this
      obtain ⟨E, x, y, eE, rfl, hx, hy⟩ := mat i2 d3 hd3
      have EY : E ∈ errY := List.mem_of_getElem? eE
      have fl := fl_eq ⟨i2, i25⟩ E eE
      simp only at fl
      obtain ⟨bs, hbs⟩ : ∃ bs : List Bool, bs = (List.range 25).map fun (x : Nat) => decide ((x : Int) = (i2 : Int)) := ⟨_, rfl⟩
      have ebs : ((List.range 25).map fun (j : Nat) => D.bl (decide ((j : Int) = (i2 : Int)))) = bs.map D.bl := by rw [hbs, List.map_map]; rfl
      walk_at "dl"
      refine dFor_mk [x, y] yes [x4] (fun K h => by walk_at "dl"; exact h) (fun i3 en c3 => ∃ o9 o10 : Option Z, en = [some (Z.d (D.scr ns)), some (Z.d (D.int (0 + i))), some (Z.c 0), some (Z.d th), some (Z.d (D.int ot)),
        some (Z.d (D.int nu)), some (Z.d (D.lst (madeD cA th (D.int ot) (D.int nu) q))), some (.d (.int i2)), some (.d (.tup [x, y])), o9, o10] ∧ c3 = [x4]) ⟨_, _, rfl, rfl⟩ (fun i3 d4 en c3 hd4 hL => ?_) (fun en c3 hL => ?_) (fun _ _ _ _ => trivial)
      · obtain ⟨o9, o10, rfl, rfl⟩ := hL
        have hz : isErr (cA E) d4 := by
          have := List.mem_of_getElem? hd4
          simp only [List.mem_cons, List.not_mem_nil, or_false] at this
          rcases this with rfl | rfl
          · exact hx
          · exact hy
        walk_at "dl"
        simp only [u_dIsV]
        walk_at "dl"
        refine ⟨d4, cA E, rfl, hz, ok E (inR E EY), ?_⟩
        try walk_at "dl"
        refine ⟨d4, cA E, rfl, hz, ok E (inR E EY), ?_⟩
        try walk_at "dl"
        refine ⟨E, inR E EY, hz, ?_⟩
        rw [fl, ebs]
        walk_at "dl"
        refine dLc_mk (rgD 0 25) yes [x4] (fun K h => by walk_at "dl"; rw [ml]; exact ⟨by unfold Rg; decide, h⟩) (isJ i2) (by rw [rgD_len]; decide) (fun j d acc hd P hP => ?_) ?_ (fun _ => trivial)
        · obtain ⟨hj, rfl⟩ := rgD_get hd
          rw [Int.zero_add] at hP ⊢
          walk_at "dl"
          exact hP
        · walk_at "dl"
          rw [rg_isJ, ← hbs]
          refine ⟨⟨(bls_eq bs).1, (bls_eq bs).1⟩, ?_⟩
          rw [(bls_eq bs).2, if_neg (by decide)]
          exact .inl ⟨_, _, rfl, rfl⟩
      · obtain ⟨o9, o10, rfl, rfl⟩ := hL
        exact .inl ⟨_, _, _, _, rfl, rfl⟩
    · obtain ⟨o7, o8, o9, o10, rfl, rfl⟩ := hJ
      walk_at "dl"
      refine ⟨q, rfl, ⟨hth, .inr ⟨_, rfl⟩, .inr ⟨_, rfl⟩⟩, true, rfl, ?_⟩
      rw [if_neg (by decide)]
      exact .inr ⟨0, Nat.le_refl _, _, _, _, _, _, _, _, _, _, _, rfl, rfl⟩
  · obtain ⟨o1, o2, o3, o4, o5, o6, o7, o8, o9, o10, rfl, rfl⟩ := hI
    refine .inl ?_
    walk_at "dl"
    rw [u_dErr0]
    intro a
    refine ⟨"GreenError", by decide, ⟨a, .inl rfl⟩, ?_⟩
    have e25 : (errY.map fun y => D.bl (decide (("GreenError" : Str) = y))) = (List.replicate 25 false).map D.bl := by
      have h : (errY.map fun y => decide (("GreenError" : Str) = y)) = List.replicate 25 false := by decide +kernel
      have h2 := congrArg (List.map D.bl) h
      rw [List.map_map] at h2
      exact h2
    rw [e25]
    try walk_at "dl"
    refine ⟨by decide, ?_⟩
    have q := bls_eq (List.replicate 25 false)
    refine ⟨⟨q.1, q.1⟩, ?_⟩
    have q2 : ∀ l : List D, l = (List.replicate 25 false).map D.bl → eqvD (D.lst l) (D.lst l) = true := fun l e => by rw [e]; exact q.2
    refine if_use (q2 _ rfl) ?_
    rw [u_dIsV, u_dErr0]
    intro b
    refine ⟨_, _, rfl, ⟨b, .inl rfl⟩, ⟨"GreenError", by decide, rfl⟩, ?_⟩
    rw [finZ_d]
    exact h
theorem law_true : ∀ ns : List Int, ns.length ≤ 63 → sp_law [.d (.scr ns)] [] fun z _ => z = .d (.bl true) := fun ns h => ⟨h, rfl⟩
end K91
set_option maxHeartbeats 4000000
set_option autoImplicit false
namespace K91
open PySem PySem.Spec PyProof.Rows DL K01 PM
open PA
open L2 hiding It
structure Bt (mg : Str → Option Value) : Prop where
  ValueError_ : mg "ValueError" = none
  dict_ : mg "dict" = none
  enumerate_ : mg "enumerate" = none
  isinstance_ : mg "isinstance" = none
  len_ : mg "len" = none
  max_ : mg "max" = none
  min_ : mg "min" = none
  range_ : mg "range" = none
  zip_ : mg "zip" = none
structure Bc (K : PySem.W.Frag) (mg : Str → Option Value) (cA : Str → Addr) : Prop where
  mc_Backward : mg "Backward" = some (.ref (cA "Backward"))
  mc_Contradiction : mg "Contradiction" = some (.ref (cA "Contradiction"))
  mc_GreenError : mg "GreenError" = some (.ref (cA "GreenError"))
  mc_InvalidChanges : mg "InvalidChanges" = some (.ref (cA "InvalidChanges"))
  mc_InvalidCommand : mg "InvalidCommand" = some (.ref (cA "InvalidCommand"))
  mc_InvalidCourse : mg "InvalidCourse" = some (.ref (cA "InvalidCourse"))
  mc_InvalidCycle : mg "InvalidCycle" = some (.ref (cA "InvalidCycle"))
  mc_InvalidIndex : mg "InvalidIndex" = some (.ref (cA "InvalidIndex"))
  mc_InvalidMoment : mg "InvalidMoment" = some (.ref (cA "InvalidMoment"))
  mc_InvalidNet : mg "InvalidNet" = some (.ref (cA "InvalidNet"))
  mc_InvalidNumber : mg "InvalidNumber" = some (.ref (cA "InvalidNumber"))
  mc_InvalidParts : mg "InvalidParts" = some (.ref (cA "InvalidParts"))
  mc_InvalidPassage : mg "InvalidPassage" = some (.ref (cA "InvalidPassage"))
  mc_InvalidPlace : mg "InvalidPlace" = some (.ref (cA "InvalidPlace"))
  mc_InvalidRecords : mg "InvalidRecords" = some (.ref (cA "InvalidRecords"))
  mc_InvalidRoad : mg "InvalidRoad" = some (.ref (cA "InvalidRoad"))
  mc_InvalidRuns : mg "InvalidRuns" = some (.ref (cA "InvalidRuns"))
  mc_InvalidSignal : mg "InvalidSignal" = some (.ref (cA "InvalidSignal"))
  mc_InvalidStep : mg "InvalidStep" = some (.ref (cA "InvalidStep"))
  mc_InvalidStreets : mg "InvalidStreets" = some (.ref (cA "InvalidStreets"))
  mc_InvalidText : mg "InvalidText" = some (.ref (cA "InvalidText"))
  mc_InvalidWindows : mg "InvalidWindows" = some (.ref (cA "InvalidWindows"))
  mc_NotPlain : mg "NotPlain" = some (.ref (cA "NotPlain"))
  mc_Nothing : mg "Nothing" = some (.ref (cA "Nothing"))
  mc_OtherCycle : mg "OtherCycle" = some (.ref (cA "OtherCycle"))
  mc_TooLarge : mg "TooLarge" = some (.ref (cA "TooLarge"))
  oe_Contradiction : Oe1 K (cA "Contradiction") "first"
  oe_InvalidChanges : Oe1 K (cA "InvalidChanges") "row"
  oe_InvalidRecords : Oe1 K (cA "InvalidRecords") "row"
  oe_InvalidStreets : Oe1 K (cA "InvalidStreets") "row"
  oe_InvalidText : Oe1 K (cA "InvalidText") "index"
  oe_TooLarge : Oe1 K (cA "TooLarge") "limit"
  op_Contradiction : Oe1 K (cA "Contradiction") "second"
  xa : XAll K (errR.map fun x => (x, cA x)) (errY.map fun x => (x, cA x)) (cA "GreenError")
  xf_first : XfAll K (errR.map cA) "first"
  xf_index : XfAll K (errR.map cA) "index"
  xf_limit : XfAll K (errR.map cA) "limit"
  xf_row : XfAll K (errR.map cA) "row"
  xf_second : XfAll K (errR.map cA) "second"
  xg : XgAll K (errR.map cA) (cA "GreenError")
  xr_Backward : XR K (cA "Backward")
  xr_GreenError : XR K (cA "GreenError")
  xr_InvalidCommand : XR K (cA "InvalidCommand")
  xr_InvalidCourse : XR K (cA "InvalidCourse")
  xr_InvalidCycle : XR K (cA "InvalidCycle")
  xr_InvalidIndex : XR K (cA "InvalidIndex")
  xr_InvalidMoment : XR K (cA "InvalidMoment")
  xr_InvalidNet : XR K (cA "InvalidNet")
  xr_InvalidNumber : XR K (cA "InvalidNumber")
  xr_InvalidParts : XR K (cA "InvalidParts")
  xr_InvalidPassage : XR K (cA "InvalidPassage")
  xr_InvalidPlace : XR K (cA "InvalidPlace")
  xr_InvalidRoad : XR K (cA "InvalidRoad")
  xr_InvalidRuns : XR K (cA "InvalidRuns")
  xr_InvalidSignal : XR K (cA "InvalidSignal")
  xr_InvalidStep : XR K (cA "InvalidStep")
  xr_InvalidWindows : XR K (cA "InvalidWindows")
  xr_NotPlain : XR K (cA "NotPlain")
  xr_Nothing : XR K (cA "Nothing")
  xr_OtherCycle : XR K (cA "OtherCycle")
abbrev N_l_spring : List Str := ["_law_script", "_law_k", "_law_cell"]
theorem sc_l_spring : FnScope N_l_spring ["_law_script", "_law_k"] (defScope s_l_spring) := ⟨rfl, rfl, rfl, by decide +kernel, rfl, by decide +kernel, by decide +kernel⟩
abbrev N_l_take : List Str := ["_law_spring_here", "_law_many", "_law_found", "_law_mixed"]
theorem sc_l_take : FnScope N_l_take ["_law_spring_here", "_law_many"] (defScope s_l_take) := ⟨rfl, rfl, rfl, by decide +kernel, rfl, by decide +kernel, by decide +kernel⟩
abbrev N_l_flags : List Str := ["_law_e", "_law_flags_here"]
theorem sc_l_flags : FnScope N_l_flags ["_law_e"] (defScope s_l_flags) := ⟨rfl, rfl, rfl, by decide +kernel, rfl, by decide +kernel, by decide +kernel⟩
abbrev N_l_made : List Str := ["_law_thing", "_law_other", "_law_number", "_law_found"]
theorem sc_l_made : FnScope N_l_made ["_law_thing", "_law_other", "_law_number"] (defScope s_l_made) := ⟨rfl, rfl, rfl, by decide +kernel, rfl, by decide +kernel, by decide +kernel⟩
abbrev N_l_kept_right : List Str := ["_law_pairs", "_law_thing", "_law_other", "_law_number", "_law_names", "_law_rows", "_law_spot", "_law_one", "_law_two", "_law_three", "_law_told", "_law_e", "_law_name"]
theorem sc_l_kept_right : FnScope N_l_kept_right ["_law_pairs", "_law_thing", "_law_other", "_law_number"] (defScope s_l_kept_right) := ⟨rfl, rfl, rfl, by decide +kernel, rfl, by decide +kernel, by decide +kernel⟩
abbrev N_law : List Str := ["_law_script", "_law_k", "_law_spring_here", "_law_thing", "_law_other", "_law_number", "_law_pairs", "_law_spot", "_law_pair", "_law_e", "_law_place"]
theorem sc_law : FnScope N_law ["_law_script"] (defScope s_law) := ⟨rfl, rfl, rfl, by decide +kernel, rfl, by decide +kernel, by decide +kernel⟩
abbrev N_InvalidText_init : List Str := ["self", "index"]
theorem sc_InvalidText_init : FnScope N_InvalidText_init ["self", "index"] (defScope s_InvalidText_init) := ⟨rfl, rfl, rfl, by decide +kernel, rfl, by decide +kernel, by decide +kernel⟩
abbrev N_TooLarge_init : List Str := ["self", "limit"]
theorem sc_TooLarge_init : FnScope N_TooLarge_init ["self", "limit"] (defScope s_TooLarge_init) := ⟨rfl, rfl, rfl, by decide +kernel, rfl, by decide +kernel, by decide +kernel⟩
abbrev N_InvalidStreets_init : List Str := ["self", "row"]
theorem sc_InvalidStreets_init : FnScope N_InvalidStreets_init ["self", "row"] (defScope s_InvalidStreets_init) := ⟨rfl, rfl, rfl, by decide +kernel, rfl, by decide +kernel, by decide +kernel⟩
abbrev N_InvalidChanges_init : List Str := ["self", "row"]
theorem sc_InvalidChanges_init : FnScope N_InvalidChanges_init ["self", "row"] (defScope s_InvalidChanges_init) := ⟨rfl, rfl, rfl, by decide +kernel, rfl, by decide +kernel, by decide +kernel⟩
abbrev N_InvalidRecords_init : List Str := ["self", "row"]
theorem sc_InvalidRecords_init : FnScope N_InvalidRecords_init ["self", "row"] (defScope s_InvalidRecords_init) := ⟨rfl, rfl, rfl, by decide +kernel, rfl, by decide +kernel, by decide +kernel⟩
abbrev N_Contradiction_init : List Str := ["self", "first", "second"]
theorem sc_Contradiction_init : FnScope N_Contradiction_init ["self", "first", "second"] (defScope s_Contradiction_init) := ⟨rfl, rfl, rfl, by decide +kernel, rfl, by decide +kernel, by decide +kernel⟩
variable {P : Program} {w : World} {K : PySem.W.Frag} {mg : Str → Option Value} {base : Heap}
theorem ok_l_flags {cA : Str → Addr} (T : DefT K mg "_law_flags" s_l_flags ["_law_e"]) (B : Bt mg) (BC : Bc K mg cA)  : Got P w K mg base "_law_flags" 1 ["_law_e"] (sp_l_flags cA) :=
  Got.mk T sc_l_flags (len_l_flags cA) (t_l_flags cA) (fun f cdv A outer s H hr hg => ⟨_,
      (qss_cons (qs_set 1 sc_l_flags.nd (q_lstC (qa_cons (q_isV (ok := okC cA errR) (fun E h => BC.xa.cls h) (fun E h => BC.xa.own h (by decide)) B.isinstance_ BC.mc_Backward (qv 0)) (qa_cons (q_isV (ok := okC cA errR) (fun E h => BC.xa.cls h) (fun E h => BC.xa.own h (by decide)) B.isinstance_ BC.mc_Contradiction (qv 0)) (qa_cons (q_isV (ok := okC cA errR) (fun E h => BC.xa.cls h) (fun E h => BC.xa.own h (by decide)) B.isinstance_ BC.mc_InvalidChanges (qv 0)) qa_nil)))))
      (qss_cons (qs_expr (q_extend (qv 1) (q_lst (qa_cons (q_isV (ok := okC cA errR) (fun E h => BC.xa.cls h) (fun E h => BC.xa.own h (by decide)) B.isinstance_ BC.mc_InvalidCommand (qv 0)) (qa_cons (q_isV (ok := okC cA errR) (fun E h => BC.xa.cls h) (fun E h => BC.xa.own h (by decide)) B.isinstance_ BC.mc_InvalidCourse (qv 0)) (qa_cons (q_isV (ok := okC cA errR) (fun E h => BC.xa.cls h) (fun E h => BC.xa.own h (by decide)) B.isinstance_ BC.mc_InvalidCycle (qv 0)) qa_nil))))))
      (qss_cons (qs_expr (q_extend (qv 1) (q_lst (qa_cons (q_isV (ok := okC cA errR) (fun E h => BC.xa.cls h) (fun E h => BC.xa.own h (by decide)) B.isinstance_ BC.mc_InvalidIndex (qv 0)) (qa_cons (q_isV (ok := okC cA errR) (fun E h => BC.xa.cls h) (fun E h => BC.xa.own h (by decide)) B.isinstance_ BC.mc_InvalidMoment (qv 0)) (qa_cons (q_isV (ok := okC cA errR) (fun E h => BC.xa.cls h) (fun E h => BC.xa.own h (by decide)) B.isinstance_ BC.mc_InvalidNet (qv 0)) qa_nil))))))
      (qss_cons (qs_expr (q_extend (qv 1) (q_lst (qa_cons (q_isV (ok := okC cA errR) (fun E h => BC.xa.cls h) (fun E h => BC.xa.own h (by decide)) B.isinstance_ BC.mc_InvalidNumber (qv 0)) (qa_cons (q_isV (ok := okC cA errR) (fun E h => BC.xa.cls h) (fun E h => BC.xa.own h (by decide)) B.isinstance_ BC.mc_InvalidParts (qv 0)) (qa_cons (q_isV (ok := okC cA errR) (fun E h => BC.xa.cls h) (fun E h => BC.xa.own h (by decide)) B.isinstance_ BC.mc_InvalidPassage (qv 0)) qa_nil))))))
      (qss_cons (qs_expr (q_extend (qv 1) (q_lst (qa_cons (q_isV (ok := okC cA errR) (fun E h => BC.xa.cls h) (fun E h => BC.xa.own h (by decide)) B.isinstance_ BC.mc_InvalidPlace (qv 0)) (qa_cons (q_isV (ok := okC cA errR) (fun E h => BC.xa.cls h) (fun E h => BC.xa.own h (by decide)) B.isinstance_ BC.mc_InvalidRecords (qv 0)) (qa_cons (q_isV (ok := okC cA errR) (fun E h => BC.xa.cls h) (fun E h => BC.xa.own h (by decide)) B.isinstance_ BC.mc_InvalidRoad (qv 0)) qa_nil))))))
      (qss_cons (qs_expr (q_extend (qv 1) (q_lst (qa_cons (q_isV (ok := okC cA errR) (fun E h => BC.xa.cls h) (fun E h => BC.xa.own h (by decide)) B.isinstance_ BC.mc_InvalidRuns (qv 0)) (qa_cons (q_isV (ok := okC cA errR) (fun E h => BC.xa.cls h) (fun E h => BC.xa.own h (by decide)) B.isinstance_ BC.mc_InvalidSignal (qv 0)) (qa_cons (q_isV (ok := okC cA errR) (fun E h => BC.xa.cls h) (fun E h => BC.xa.own h (by decide)) B.isinstance_ BC.mc_InvalidStep (qv 0)) qa_nil))))))
      (qss_cons (qs_expr (q_extend (qv 1) (q_lst (qa_cons (q_isV (ok := okC cA errR) (fun E h => BC.xa.cls h) (fun E h => BC.xa.own h (by decide)) B.isinstance_ BC.mc_InvalidStreets (qv 0)) (qa_cons (q_isV (ok := okC cA errR) (fun E h => BC.xa.cls h) (fun E h => BC.xa.own h (by decide)) B.isinstance_ BC.mc_InvalidText (qv 0)) (qa_cons (q_isV (ok := okC cA errR) (fun E h => BC.xa.cls h) (fun E h => BC.xa.own h (by decide)) B.isinstance_ BC.mc_InvalidWindows (qv 0)) qa_nil))))))
      (qss_cons (qs_expr (q_extend (qv 1) (q_lst (qa_cons (q_isV (ok := okC cA errR) (fun E h => BC.xa.cls h) (fun E h => BC.xa.own h (by decide)) B.isinstance_ BC.mc_NotPlain (qv 0)) (qa_cons (q_isV (ok := okC cA errR) (fun E h => BC.xa.cls h) (fun E h => BC.xa.own h (by decide)) B.isinstance_ BC.mc_Nothing (qv 0)) (qa_cons (q_isV (ok := okC cA errR) (fun E h => BC.xa.cls h) (fun E h => BC.xa.own h (by decide)) B.isinstance_ BC.mc_OtherCycle (qv 0)) qa_nil))))))
      (qss_cons (qs_expr (q_extend (qv 1) (q_lst (qa_cons (q_isV (ok := okC cA errR) (fun E h => BC.xa.cls h) (fun E h => BC.xa.own h (by decide)) B.isinstance_ BC.mc_TooLarge (qv 0)) qa_nil))))
      (qss_one (qs_ret (qv 1))))))))))))⟩) (rd_l_flags cA fun E hE y hy => BC.xa.dst hE hy)
theorem ok_l_kept_right {cA : Str → Addr} (T : DefT K mg "_law_kept_right" s_l_kept_right ["_law_pairs", "_law_thing", "_law_other", "_law_number"]) (B : Bt mg) (BC : Bc K mg cA)  : Got P w K mg base "_law_kept_right" 1 ["_law_pairs", "_law_thing", "_law_other", "_law_number"] (sp_l_kept_right cA) :=
  Got.mk T sc_l_kept_right (len_l_kept_right cA) (t_l_kept_right cA) (fun f cdv A outer s H hr hg => ⟨_,
      (qss_cons (qs_set 4 sc_l_kept_right.nd q_str)
      (qss_cons (qs_set 4 sc_l_kept_right.nd (q_op op_addU o_add (qv 4) q_str))
      (qss_cons (qs_set 4 sc_l_kept_right.nd (q_op op_addU o_add (qv 4) q_str))
      (qss_cons (qs_set 4 sc_l_kept_right.nd (q_op op_addU o_add (qv 4) q_str))
      (qss_cons (qs_set 4 sc_l_kept_right.nd (q_op op_addU o_add (qv 4) q_str))
      (qss_cons (qs_set 4 sc_l_kept_right.nd (q_split (qv 4) q_str))
      (qss_cons (qs_set 5 sc_l_kept_right.nd (q_dictZip rfl B.dict_ B.zip_ (qv 4) (qv 0)))
      (qss_cons (qs_for PassesOwn.never (qi_seq (q_lst (qa_cons (q_tup (qa_cons q_int (qa_cons (qv 1) (qa_cons (qv 3) (qa_cons (qv 2) qa_nil))))) (qa_cons (q_tup (qa_cons q_int (qa_cons (qv 2) (qa_cons (qv 2) (qa_cons (qv 3) qa_nil))))) qa_nil)))) (qg_tup (qgs_cons (qg_name 6 sc_l_kept_right.nd) (qgs_cons (qg_name 7 sc_l_kept_right.nd) (qgs_cons (qg_name 8 sc_l_kept_right.nd) (qgs_cons (qg_name 9 sc_l_kept_right.nd) qgs_nil))))) (qss_cons (qs_if (q_cmpT (op_neU hr.units) o_neU (q_lst (qa_cons (q_erF (ok := okC cA errR) (fun E h => (BC.xf_index.at h).1) (fun E h => (BC.xf_index.at h).2) (q_ix ix_seq o_ix (q_getK (hu_of hr) (qv 5) q_str (fun _ _ => rfl)) (qv 6) (fun _ _ => rfl))) (qa_cons (q_erF (ok := okC cA errR) (fun E h => (BC.xf_limit.at h).1) (fun E h => (BC.xf_limit.at h).2) (q_ix ix_seq o_ix (q_getK (hu_of hr) (qv 5) q_str (fun _ _ => rfl)) (qv 6) (fun _ _ => rfl))) qa_nil))) (q_lst (qa_cons (qv 7) (qa_cons (qv 8) qa_nil))) (nomark _)) (qss_one (qs_ret q_bl)) qss_nil)
      (qss_cons (qs_setLcH (own := [("_law_name", 12)]) 10 fin_d sc_l_kept_right.nd (sw_true rfl rfl rfl (by decide +kernel)) (qi_seq (q_tup (qa_cons q_str (qa_cons q_str (qa_cons q_str qa_nil))))) (blkOk_by (own := [("_law_name", 12)]) (N := N_l_kept_right) (sc := defScope s_l_kept_right) (by decide +kernel)) s (qg_name 12 sc_l_kept_right.nd) qts_nil (q_erF (ok := okC cA errR) (fun E h => (BC.xf_row.at h).1) (fun E h => (BC.xf_row.at h).2) (q_ix ix_seq o_ix (q_getK (hu_of hr) (qv 5) (qv 12) (fun _ _ => rfl)) (qv 6) (fun _ _ => rfl))) (fun _ _ _ _ _ => (qg_name 12 sc_l_kept_right.nd)) (fun _ _ _ _ _ => qts_nil) (fun _ _ _ _ _ => (q_erF (ok := okC cA errR) (fun E h => (BC.xf_row.at h).1) (fun E h => (BC.xf_row.at h).2) (q_ix ix_seq o_ix (q_getK (hu_of hr) (qv 5) (qv 12) (fun _ _ => rfl)) (qv 6) (fun _ _ => rfl)))) (by decide))
      (qss_cons (qs_set 11 sc_l_kept_right.nd (q_ix ix_seq o_ix (q_getK (hu_of hr) (qv 5) q_str (fun _ _ => rfl)) (qv 6) (fun _ _ => rfl)))
      (qss_one (qs_if (QW.t (q_orT (q_cmpT (op_neU hr.units) o_neU (qv 10) (q_op op_mulU o_mul (q_lst (qa_cons (qv 7) qa_nil)) q_int) (nomark _)) (q_or1 (q_cmpT (op_neU hr.units) o_neU (q_tup (qa_cons (q_erF (ok := okC cA errR) (fun E h => (BC.xf_first.at h).1) (fun E h => (BC.xf_first.at h).2) (qv 11)) (qa_cons (q_erF (ok := okC cA errR) (fun E h => (BC.xf_second.at h).1) (fun E h => (BC.xf_second.at h).2) (qv 11)) qa_nil))) (q_tup (qa_cons (qv 8) (qa_cons (qv 9) qa_nil))) (nomark _))))) (qss_one (qs_ret q_bl)) qss_nil))))))
      (qss_one (qs_ret q_bl))))))))))⟩) (rd_l_kept_right cA)
theorem er1_Contradiction {cA : Str → Addr} (T : MethT K (cA "Contradiction") "__init__" "Contradiction.__init__" s_Contradiction_init ["self", "first", "second"]) (BC : Bc K mg cA) : Er2 P w K mg base (cA "Contradiction") "first" "second" 1 :=
  er2_of T BC.oe_Contradiction BC.op_Contradiction sc_Contradiction_init rfl (fun fI cdv A outer s H E => pss_cons (ps_ost (pe_var rfl (.inl rfl)) (pe_var rfl (.inl rfl))) (pss_one (ps_ost (pe_var rfl (.inl rfl)) (pe_var rfl (.inl rfl)))))
theorem er1_InvalidChanges {cA : Str → Addr} (T : MethT K (cA "InvalidChanges") "__init__" "InvalidChanges.__init__" s_InvalidChanges_init ["self", "row"]) (BC : Bc K mg cA) : Er1 P w K mg base (cA "InvalidChanges") "row" 1 :=
  er1_of T BC.oe_InvalidChanges sc_InvalidChanges_init rfl (fun fI cdv A outer s H E => pss_one (ps_ost (pe_var rfl (.inl rfl)) (pe_var rfl (.inl rfl))))
theorem er1_InvalidRecords {cA : Str → Addr} (T : MethT K (cA "InvalidRecords") "__init__" "InvalidRecords.__init__" s_InvalidRecords_init ["self", "row"]) (BC : Bc K mg cA) : Er1 P w K mg base (cA "InvalidRecords") "row" 1 :=
  er1_of T BC.oe_InvalidRecords sc_InvalidRecords_init rfl (fun fI cdv A outer s H E => pss_one (ps_ost (pe_var rfl (.inl rfl)) (pe_var rfl (.inl rfl))))
theorem er1_InvalidStreets {cA : Str → Addr} (T : MethT K (cA "InvalidStreets") "__init__" "InvalidStreets.__init__" s_InvalidStreets_init ["self", "row"]) (BC : Bc K mg cA) : Er1 P w K mg base (cA "InvalidStreets") "row" 1 :=
  er1_of T BC.oe_InvalidStreets sc_InvalidStreets_init rfl (fun fI cdv A outer s H E => pss_one (ps_ost (pe_var rfl (.inl rfl)) (pe_var rfl (.inl rfl))))
theorem er1_InvalidText {cA : Str → Addr} (T : MethT K (cA "InvalidText") "__init__" "InvalidText.__init__" s_InvalidText_init ["self", "index"]) (BC : Bc K mg cA) : Er1 P w K mg base (cA "InvalidText") "index" 1 :=
  er1_of T BC.oe_InvalidText sc_InvalidText_init rfl (fun fI cdv A outer s H E => pss_one (ps_ost (pe_var rfl (.inl rfl)) (pe_var rfl (.inl rfl))))
theorem er1_TooLarge {cA : Str → Addr} (T : MethT K (cA "TooLarge") "__init__" "TooLarge.__init__" s_TooLarge_init ["self", "limit"]) (BC : Bc K mg cA) : Er1 P w K mg base (cA "TooLarge") "limit" 1 :=
  er1_of T BC.oe_TooLarge sc_TooLarge_init rfl (fun fI cdv A outer s H E => pss_one (ps_ost (pe_var rfl (.inl rfl)) (pe_var rfl (.inl rfl))))
theorem ok_l_made {cA : Str → Addr} (T : DefT K mg "_law_made" s_l_made ["_law_thing", "_law_other", "_law_number"]) (B : Bt mg) (BC : Bc K mg cA) (E_Contradiction : Er2 P w K mg base (cA "Contradiction") "first" "second" 1) (E_InvalidChanges : Er1 P w K mg base (cA "InvalidChanges") "row" 1) (E_InvalidRecords : Er1 P w K mg base (cA "InvalidRecords") "row" 1) (E_InvalidStreets : Er1 P w K mg base (cA "InvalidStreets") "row" 1) (E_InvalidText : Er1 P w K mg base (cA "InvalidText") "index" 1) (E_TooLarge : Er1 P w K mg base (cA "TooLarge") "limit" 1) : Got P w K mg base "_law_made" 5 ["_law_thing", "_law_other", "_law_number"] (sp_l_made cA) :=
  Got.mk T sc_l_made (len_l_made cA) (t_l_made cA) (fun f cdv A outer s H hr hg => ⟨_,
      (qss_cons (qs_set 3 sc_l_made.nd (q_lstC qa_nil))
      (qss_cons (qs_expr (q_append (qv 3) (q_tup (qa_cons (q_err0 BC.xr_Backward BC.mc_Backward) (qa_cons (q_err0 BC.xr_Backward BC.mc_Backward) qa_nil)))))
      (qss_cons (qs_expr (q_append (qv 3) (q_tup (qa_cons (q_err2R E_Contradiction BC.mc_Contradiction (hr.mono (by decide)) (qa_cons (qv 2) (qa_cons (qv 1) qa_nil))).choose_spec (qa_cons (q_err2R E_Contradiction BC.mc_Contradiction (hr.mono (by decide)) (qa_cons (qv 1) (qa_cons (qv 2) qa_nil))).choose_spec qa_nil)))))
      (qss_cons (qs_expr (q_append (qv 3) (q_tup (qa_cons (q_err1R E_InvalidChanges BC.mc_InvalidChanges (hr.mono (by decide)) (qa_cons (qv 0) qa_nil)).choose_spec (qa_cons (q_err1R E_InvalidChanges BC.mc_InvalidChanges (hr.mono (by decide)) (qa_cons (qv 1) qa_nil)).choose_spec qa_nil)))))
      (qss_cons (qs_expr (q_append (qv 3) (q_tup (qa_cons (q_err0 BC.xr_InvalidCommand BC.mc_InvalidCommand) (qa_cons (q_err0 BC.xr_InvalidCommand BC.mc_InvalidCommand) qa_nil)))))
      (qss_cons (qs_expr (q_append (qv 3) (q_tup (qa_cons (q_err0 BC.xr_InvalidCourse BC.mc_InvalidCourse) (qa_cons (q_err0 BC.xr_InvalidCourse BC.mc_InvalidCourse) qa_nil)))))
      (qss_cons (qs_expr (q_append (qv 3) (q_tup (qa_cons (q_err0 BC.xr_InvalidCycle BC.mc_InvalidCycle) (qa_cons (q_err0 BC.xr_InvalidCycle BC.mc_InvalidCycle) qa_nil)))))
      (qss_cons (qs_expr (q_append (qv 3) (q_tup (qa_cons (q_err0 BC.xr_InvalidIndex BC.mc_InvalidIndex) (qa_cons (q_err0 BC.xr_InvalidIndex BC.mc_InvalidIndex) qa_nil)))))
      (qss_cons (qs_expr (q_append (qv 3) (q_tup (qa_cons (q_err0 BC.xr_InvalidMoment BC.mc_InvalidMoment) (qa_cons (q_err0 BC.xr_InvalidMoment BC.mc_InvalidMoment) qa_nil)))))
      (qss_cons (qs_expr (q_append (qv 3) (q_tup (qa_cons (q_err0 BC.xr_InvalidNet BC.mc_InvalidNet) (qa_cons (q_err0 BC.xr_InvalidNet BC.mc_InvalidNet) qa_nil)))))
      (qss_cons (qs_expr (q_append (qv 3) (q_tup (qa_cons (q_err0 BC.xr_InvalidNumber BC.mc_InvalidNumber) (qa_cons (q_err0 BC.xr_InvalidNumber BC.mc_InvalidNumber) qa_nil)))))
      (qss_cons (qs_expr (q_append (qv 3) (q_tup (qa_cons (q_err0 BC.xr_InvalidParts BC.mc_InvalidParts) (qa_cons (q_err0 BC.xr_InvalidParts BC.mc_InvalidParts) qa_nil)))))
      (qss_cons (qs_expr (q_append (qv 3) (q_tup (qa_cons (q_err0 BC.xr_InvalidPassage BC.mc_InvalidPassage) (qa_cons (q_err0 BC.xr_InvalidPassage BC.mc_InvalidPassage) qa_nil)))))
      (qss_cons (qs_expr (q_append (qv 3) (q_tup (qa_cons (q_err0 BC.xr_InvalidPlace BC.mc_InvalidPlace) (qa_cons (q_err0 BC.xr_InvalidPlace BC.mc_InvalidPlace) qa_nil)))))
      (qss_cons (qs_expr (q_append (qv 3) (q_tup (qa_cons (q_err1R E_InvalidRecords BC.mc_InvalidRecords (hr.mono (by decide)) (qa_cons (qv 0) qa_nil)).choose_spec (qa_cons (q_err1R E_InvalidRecords BC.mc_InvalidRecords (hr.mono (by decide)) (qa_cons (qv 1) qa_nil)).choose_spec qa_nil)))))
      (qss_cons (qs_expr (q_append (qv 3) (q_tup (qa_cons (q_err0 BC.xr_InvalidRoad BC.mc_InvalidRoad) (qa_cons (q_err0 BC.xr_InvalidRoad BC.mc_InvalidRoad) qa_nil)))))
      (qss_cons (qs_expr (q_append (qv 3) (q_tup (qa_cons (q_err0 BC.xr_InvalidRuns BC.mc_InvalidRuns) (qa_cons (q_err0 BC.xr_InvalidRuns BC.mc_InvalidRuns) qa_nil)))))
      (qss_cons (qs_expr (q_append (qv 3) (q_tup (qa_cons (q_err0 BC.xr_InvalidSignal BC.mc_InvalidSignal) (qa_cons (q_err0 BC.xr_InvalidSignal BC.mc_InvalidSignal) qa_nil)))))
      (qss_cons (qs_expr (q_append (qv 3) (q_tup (qa_cons (q_err0 BC.xr_InvalidStep BC.mc_InvalidStep) (qa_cons (q_err0 BC.xr_InvalidStep BC.mc_InvalidStep) qa_nil)))))
      (qss_cons (qs_expr (q_append (qv 3) (q_tup (qa_cons (q_err1R E_InvalidStreets BC.mc_InvalidStreets (hr.mono (by decide)) (qa_cons (qv 0) qa_nil)).choose_spec (qa_cons (q_err1R E_InvalidStreets BC.mc_InvalidStreets (hr.mono (by decide)) (qa_cons (qv 1) qa_nil)).choose_spec qa_nil)))))
      (qss_cons (qs_expr (q_append (qv 3) (q_tup (qa_cons (q_err1R E_InvalidText BC.mc_InvalidText (hr.mono (by decide)) (qa_cons (qv 0) qa_nil)).choose_spec (qa_cons (q_err1R E_InvalidText BC.mc_InvalidText (hr.mono (by decide)) (qa_cons (qv 1) qa_nil)).choose_spec qa_nil)))))
      (qss_cons (qs_expr (q_append (qv 3) (q_tup (qa_cons (q_err0 BC.xr_InvalidWindows BC.mc_InvalidWindows) (qa_cons (q_err0 BC.xr_InvalidWindows BC.mc_InvalidWindows) qa_nil)))))
      (qss_cons (qs_expr (q_append (qv 3) (q_tup (qa_cons (q_err0 BC.xr_NotPlain BC.mc_NotPlain) (qa_cons (q_err0 BC.xr_NotPlain BC.mc_NotPlain) qa_nil)))))
      (qss_cons (qs_expr (q_append (qv 3) (q_tup (qa_cons (q_err0 BC.xr_Nothing BC.mc_Nothing) (qa_cons (q_err0 BC.xr_Nothing BC.mc_Nothing) qa_nil)))))
      (qss_cons (qs_expr (q_append (qv 3) (q_tup (qa_cons (q_err0 BC.xr_OtherCycle BC.mc_OtherCycle) (qa_cons (q_err0 BC.xr_OtherCycle BC.mc_OtherCycle) qa_nil)))))
      (qss_cons (qs_expr (q_append (qv 3) (q_tup (qa_cons (q_err1R E_TooLarge BC.mc_TooLarge (hr.mono (by decide)) (qa_cons (qv 2) qa_nil)).choose_spec (qa_cons (q_err1R E_TooLarge BC.mc_TooLarge (hr.mono (by decide)) (qa_cons (qv 1) qa_nil)).choose_spec qa_nil)))))
      (qss_one (qs_ret (qv 3)))))))))))))))))))))))))))))⟩) (rd_l_made cA)
theorem ok_l_spring (T : DefT K mg "_law_spring" s_l_spring ["_law_script", "_law_k"]) (B : Bt mg)  : Got P w K mg base "_law_spring" 1 ["_law_script", "_law_k"] sp_l_spring :=
  Got.mk T sc_l_spring (len_l_spring) (t_l_spring) (fun f cdv A outer s H hr hg => ⟨_,
      (qss_cons (qs_set 2 sc_l_spring.nd q_int)
      (qss_cons (qs_if (q_cmpT op_lt o_cmp (qv 1) (q_callB call_lenU c_len B.len_ PySem.boot_len (qa_cons (qv 0) qa_nil)) (nomark _)) (qss_one (qs_set 2 sc_l_spring.nd (q_ix ix_seq o_ix (qv 0) (qv 1) (fun _ _ => rfl)))) qss_nil)
      (qss_one (qs_ret (q_lstC (qa_cons (q_callB call_maxU c_max B.max_ (by decide +kernel) (qa_cons q_int (qa_cons (q_op op_sub o_sub (qv 2) (q_op op_powW o_pow q_int q_int)) qa_nil))) (qa_cons (q_op op_addU o_add (q_op op_addU o_add (q_op op_mulU o_mul (q_op op_mod o_mod (qv 2) (q_op op_addU o_add (q_op op_powW o_pow q_int q_int) q_int)) q_int) (q_op op_mulU o_mul q_int (qv 1))) q_int) (qa_cons q_int qa_nil))))))))⟩) (rd_l_spring)
theorem ok_l_take (T : DefT K mg "_law_take" s_l_take ["_law_spring_here", "_law_many"]) (B : Bt mg)  : Got P w K mg base "_law_take" 1 ["_law_spring_here", "_law_many"] sp_l_take :=
  Got.mk T sc_l_take (len_l_take) (t_l_take) (fun f cdv A outer s H hr hg => ⟨_,
      (qss_cons (qs_if (q_cmpT op_gt o_cmp (q_ix ix_seq o_ix (qv 0) q_int (fun _ _ => rfl)) q_int (nomark _)) (qss_cons (qs_set 2 sc_l_take.nd (q_op op_mod o_mod (q_ix ix_seq o_ix (qv 0) q_int (fun _ _ => rfl)) (qv 1)))
      (qss_cons (qs_asg (q_op op_fdivW o_fdiv (q_ix ix_seq o_ix (qv 0) q_int (fun _ _ => rfl)) (qv 1)) (qg_set (qv 0) q_int))
      (qss_one (qs_ret (qv 2))))) qss_nil)
      (qss_cons (qs_asg (q_op op_addU o_add (q_ix ix_seq o_ix (qv 0) q_int (fun _ _ => rfl)) q_int) (qg_set (qv 0) q_int))
      (qss_cons (qs_set 3 sc_l_take.nd (q_op op_mod o_mod (q_op op_powW o_pow (q_op op_addU o_add (q_ix ix_seq o_ix (qv 0) q_int (fun _ _ => rfl)) (q_op op_mulU o_mul q_int (q_ix ix_seq o_ix (qv 0) q_int (fun _ _ => rfl)))) q_int) (q_op op_addU o_add (q_op op_powW o_pow q_int q_int) q_int)))
      (qss_cons (qs_set 3 sc_l_take.nd (q_op op_mod o_mod (q_op op_powW o_pow (q_op op_addU o_add (qv 3) (q_op op_mulU o_mul q_int (q_ix ix_seq o_ix (qv 0) q_int (fun _ _ => rfl)))) q_int) (q_op op_addU o_add (q_op op_powW o_pow q_int q_int) q_int)))
      (qss_one (qs_ret (q_op op_mod o_mod (q_op op_fdivW o_fdiv (qv 3) q_int) (qv 1))))))))⟩) (rd_l_take)
theorem h0_law : ∀ zs cs q, sp_law zs cs q → cs = [] := fun zs cs q h => by
  unfold sp_law at h
  split at h
  · rfl
  · exact h.elim
theorem ok_law {cA : Str → Addr} (T : DefT K mg "law" s_law ["_law_script"]) (B : Bt mg) (BC : Bc K mg cA) (G_l_flags : Got P w K mg base "_law_flags" 1 ["_law_e"] (sp_l_flags cA)) (G_l_kept_right : Got P w K mg base "_law_kept_right" 1 ["_law_pairs", "_law_thing", "_law_other", "_law_number"] (sp_l_kept_right cA)) (G_l_made : Got P w K mg base "_law_made" 5 ["_law_thing", "_law_other", "_law_number"] (sp_l_made cA)) (G_l_spring : Got P w K mg base "_law_spring" 1 ["_law_script", "_law_k"] sp_l_spring) (G_l_take : Got P w K mg base "_law_take" 1 ["_law_spring_here", "_law_many"] sp_l_take) : Got P w K mg base "law" 6 ["_law_script"] sp_law :=
  Got.mk0 T sc_law (len_law) h0_law (t_law cA) (fun f cdv A outer s H hr hg => ⟨_,
      (qss0_cons (qs_for PassesOwn.never (qi_range1 B.range_ (q_callB call_maxU c_max B.max_ (by decide +kernel) (qa_cons q_int (qa_cons (q_callB call_minU c_min B.min_ (by decide +kernel) (qa_cons q_int (qa_cons (q_callB call_lenU c_len B.len_ PySem.boot_len (qa_cons (qv 0) qa_nil)) qa_nil))) qa_nil)))) (qg_name 1 sc_law.nd) (qss_cons (qs_set 2 sc_law.nd (qc G_l_spring (hr.mono (by decide)) hg (qa_cons (qv 0) (qa_cons (qv 1) qa_nil))))
      (qss_cons (qs_par 3 4 sc_law.nd (qa_cons (q_ix ix_seq o_ix (q_lst (qa_cons q_non (qa_cons (qc G_l_take (hr.mono (by decide)) hg (qa_cons (qv 2) (qa_cons (q_op op_powW o_pow q_int q_int) qa_nil))) qa_nil))) (qc G_l_take (hr.mono (by decide)) hg (qa_cons (qv 2) (qa_cons q_int qa_nil))) (fun _ _ => rfl)) (qa_cons (qc G_l_take (hr.mono (by decide)) hg (qa_cons (qv 2) (qa_cons q_int qa_nil))) qa_nil)))
      (qss_cons (qs_set 5 sc_law.nd (qc G_l_take (hr.mono (by decide)) hg (qa_cons (qv 2) (qa_cons (q_op op_powW o_pow q_int q_int) qa_nil))))
      (qss_cons (qs_set 6 sc_law.nd (qc G_l_made (hr.mono (by decide)) hg (qa_cons (qv 3) (qa_cons (qv 4) (qa_cons (qv 5) qa_nil)))))
      (qss_cons (qs_for PassesOwn.never (qi_enumU B.enumerate_ (qv 6)) (qg_tup (qgs_cons (qg_name 7 sc_law.nd) (qgs_cons (qg_name 8 sc_law.nd) qgs_nil))) (qss_one (qs_for PassesOwn.never (qi_seq (qv 8)) (qg_name 9 sc_law.nd) (qss_cons (qs_if (QW.t (q_orT (q_notT (q_val (q_isVb (bl := fun _ => true) (ok := okC cA errR) (fun E h => BC.xa.cls h) (fun E h => BC.xg.at h) B.isinstance_ BC.mc_GreenError (qv 9)))) (q_or1 (q_notT (q_val (q_isVt (ok := okC cA errR) (fun E h => BC.xa.cls h) (fun E h => BC.xa.ve h) B.isinstance_ B.ValueError_ boot_ValueError (qv 9))))))) (qss_one (qs_ret q_bl)) qss_nil)
      (qss_one (qs_if (q_cmpT (op_neU hr.units) o_neU (qc G_l_flags (hr.mono (by decide)) hg (qa_cons (qv 9) qa_nil)) (q_lcH (own := [("_law_place", 10)]) fin_d sc_law.nd (qi_range1 B.range_ (q_callB call_lenU c_len B.len_ PySem.boot_len (qa_cons (qv 6) qa_nil))) (blkOk_by (own := [("_law_place", 10)]) (N := N_law) (sc := defScope s_law) (by decide +kernel)) s (qg_name 10 sc_law.nd) qts_nil (q_cmp (op_eqU hr.units) o_eqU (qv 10) (qv 7) (nomark _)) (fun _ _ _ _ _ => (qg_name 10 sc_law.nd)) (fun _ _ _ _ _ => qts_nil) (fun _ _ _ _ _ => (q_cmp (op_eqU hr.units) o_eqU (qv 10) (qv 7) (nomark _))) (by decide)) (nomark _)) (qss_one (qs_ret q_bl)) qss_nil))))))
      (qss_one (qs_if (q_notT (q_val (qc G_l_kept_right (hr.mono (by decide)) hg (qa_cons (qv 6) (qa_cons (qv 3) (qa_cons (qv 4) (qa_cons (qv 5) qa_nil))))))) (qss_one (qs_ret q_bl)) qss_nil))))))))
      (qss0_of (qss_one (qs_ret (q_and (q_cmp (op_eqU hr.units) o_eqU (qc G_l_flags (hr.mono (by decide)) hg (qa_cons (q_err0 BC.xr_GreenError BC.mc_GreenError) qa_nil)) (q_op op_mulU o_mul (q_lst (qa_cons q_bl qa_nil)) q_int) (nomark _)) (q_one (q_isVt (ok := okC cA errR) (fun E h => BC.xa.cls h) (fun E h => BC.xa.ve h) B.isinstance_ B.ValueError_ boot_ValueError (q_err0 BC.xr_GreenError BC.mc_GreenError))))))))⟩) (rd_law cA)
theorem all_G {P : Program} {w : World} {K : PySem.W.Frag} {mg : Str → Option Value} {base : Heap} {C_GreenError : Addr} {C_InvalidText : Addr} {C_TooLarge : Addr} {C_InvalidStreets : Addr} {C_InvalidChanges : Addr} {C_InvalidRecords : Addr} {C_Contradiction : Addr} {C_InvalidCycle : Addr} {C_InvalidSignal : Addr} {C_InvalidMoment : Addr} {C_InvalidNumber : Addr} {C_InvalidIndex : Addr} {C_InvalidRuns : Addr} {C_InvalidPassage : Addr} {C_OtherCycle : Addr} {C_InvalidWindows : Addr} {C_Backward : Addr} {C_InvalidRoad : Addr} {C_NotPlain : Addr} {C_InvalidNet : Addr} {C_InvalidPlace : Addr} {C_InvalidParts : Addr} {C_InvalidCourse : Addr} {C_InvalidStep : Addr} {C_Nothing : Addr} {C_InvalidCommand : Addr} 
     (B : Bt mg)
    (F_mc_Backward : mg "Backward" = some (.ref C_Backward))
    (F_mc_Contradiction : mg "Contradiction" = some (.ref C_Contradiction))
    (F_mc_GreenError : mg "GreenError" = some (.ref C_GreenError))
    (F_mc_InvalidChanges : mg "InvalidChanges" = some (.ref C_InvalidChanges))
    (F_mc_InvalidCommand : mg "InvalidCommand" = some (.ref C_InvalidCommand))
    (F_mc_InvalidCourse : mg "InvalidCourse" = some (.ref C_InvalidCourse))
    (F_mc_InvalidCycle : mg "InvalidCycle" = some (.ref C_InvalidCycle))
    (F_mc_InvalidIndex : mg "InvalidIndex" = some (.ref C_InvalidIndex))
    (F_mc_InvalidMoment : mg "InvalidMoment" = some (.ref C_InvalidMoment))
    (F_mc_InvalidNet : mg "InvalidNet" = some (.ref C_InvalidNet))
    (F_mc_InvalidNumber : mg "InvalidNumber" = some (.ref C_InvalidNumber))
    (F_mc_InvalidParts : mg "InvalidParts" = some (.ref C_InvalidParts))
    (F_mc_InvalidPassage : mg "InvalidPassage" = some (.ref C_InvalidPassage))
    (F_mc_InvalidPlace : mg "InvalidPlace" = some (.ref C_InvalidPlace))
    (F_mc_InvalidRecords : mg "InvalidRecords" = some (.ref C_InvalidRecords))
    (F_mc_InvalidRoad : mg "InvalidRoad" = some (.ref C_InvalidRoad))
    (F_mc_InvalidRuns : mg "InvalidRuns" = some (.ref C_InvalidRuns))
    (F_mc_InvalidSignal : mg "InvalidSignal" = some (.ref C_InvalidSignal))
    (F_mc_InvalidStep : mg "InvalidStep" = some (.ref C_InvalidStep))
    (F_mc_InvalidStreets : mg "InvalidStreets" = some (.ref C_InvalidStreets))
    (F_mc_InvalidText : mg "InvalidText" = some (.ref C_InvalidText))
    (F_mc_InvalidWindows : mg "InvalidWindows" = some (.ref C_InvalidWindows))
    (F_mc_NotPlain : mg "NotPlain" = some (.ref C_NotPlain))
    (F_mc_Nothing : mg "Nothing" = some (.ref C_Nothing))
    (F_mc_OtherCycle : mg "OtherCycle" = some (.ref C_OtherCycle))
    (F_mc_TooLarge : mg "TooLarge" = some (.ref C_TooLarge))
    (F_oe_Contradiction : Oe1 K C_Contradiction "first")
    (F_oe_InvalidChanges : Oe1 K C_InvalidChanges "row")
    (F_oe_InvalidRecords : Oe1 K C_InvalidRecords "row")
    (F_oe_InvalidStreets : Oe1 K C_InvalidStreets "row")
    (F_oe_InvalidText : Oe1 K C_InvalidText "index")
    (F_oe_TooLarge : Oe1 K C_TooLarge "limit")
    (F_op_Contradiction : Oe1 K C_Contradiction "second")
    (F_xa : XAll K [("Backward", C_Backward), ("Contradiction", C_Contradiction), ("InvalidChanges", C_InvalidChanges), ("InvalidCommand", C_InvalidCommand), ("InvalidCourse", C_InvalidCourse), ("InvalidCycle", C_InvalidCycle), ("InvalidIndex", C_InvalidIndex), ("InvalidMoment", C_InvalidMoment), ("InvalidNet", C_InvalidNet), ("InvalidNumber", C_InvalidNumber), ("InvalidParts", C_InvalidParts), ("InvalidPassage", C_InvalidPassage), ("InvalidPlace", C_InvalidPlace), ("InvalidRecords", C_InvalidRecords), ("InvalidRoad", C_InvalidRoad), ("InvalidRuns", C_InvalidRuns), ("InvalidSignal", C_InvalidSignal), ("InvalidStep", C_InvalidStep), ("InvalidStreets", C_InvalidStreets), ("InvalidText", C_InvalidText), ("InvalidWindows", C_InvalidWindows), ("NotPlain", C_NotPlain), ("Nothing", C_Nothing), ("OtherCycle", C_OtherCycle), ("TooLarge", C_TooLarge), ("GreenError", C_GreenError)] [("Backward", C_Backward), ("Contradiction", C_Contradiction), ("InvalidChanges", C_InvalidChanges), ("InvalidCommand", C_InvalidCommand), ("InvalidCourse", C_InvalidCourse), ("InvalidCycle", C_InvalidCycle), ("InvalidIndex", C_InvalidIndex), ("InvalidMoment", C_InvalidMoment), ("InvalidNet", C_InvalidNet), ("InvalidNumber", C_InvalidNumber), ("InvalidParts", C_InvalidParts), ("InvalidPassage", C_InvalidPassage), ("InvalidPlace", C_InvalidPlace), ("InvalidRecords", C_InvalidRecords), ("InvalidRoad", C_InvalidRoad), ("InvalidRuns", C_InvalidRuns), ("InvalidSignal", C_InvalidSignal), ("InvalidStep", C_InvalidStep), ("InvalidStreets", C_InvalidStreets), ("InvalidText", C_InvalidText), ("InvalidWindows", C_InvalidWindows), ("NotPlain", C_NotPlain), ("Nothing", C_Nothing), ("OtherCycle", C_OtherCycle), ("TooLarge", C_TooLarge)] C_GreenError)
    (F_xf_first : XfAll K [C_Backward, C_Contradiction, C_InvalidChanges, C_InvalidCommand, C_InvalidCourse, C_InvalidCycle, C_InvalidIndex, C_InvalidMoment, C_InvalidNet, C_InvalidNumber, C_InvalidParts, C_InvalidPassage, C_InvalidPlace, C_InvalidRecords, C_InvalidRoad, C_InvalidRuns, C_InvalidSignal, C_InvalidStep, C_InvalidStreets, C_InvalidText, C_InvalidWindows, C_NotPlain, C_Nothing, C_OtherCycle, C_TooLarge, C_GreenError] "first")
    (F_xf_index : XfAll K [C_Backward, C_Contradiction, C_InvalidChanges, C_InvalidCommand, C_InvalidCourse, C_InvalidCycle, C_InvalidIndex, C_InvalidMoment, C_InvalidNet, C_InvalidNumber, C_InvalidParts, C_InvalidPassage, C_InvalidPlace, C_InvalidRecords, C_InvalidRoad, C_InvalidRuns, C_InvalidSignal, C_InvalidStep, C_InvalidStreets, C_InvalidText, C_InvalidWindows, C_NotPlain, C_Nothing, C_OtherCycle, C_TooLarge, C_GreenError] "index")
    (F_xf_limit : XfAll K [C_Backward, C_Contradiction, C_InvalidChanges, C_InvalidCommand, C_InvalidCourse, C_InvalidCycle, C_InvalidIndex, C_InvalidMoment, C_InvalidNet, C_InvalidNumber, C_InvalidParts, C_InvalidPassage, C_InvalidPlace, C_InvalidRecords, C_InvalidRoad, C_InvalidRuns, C_InvalidSignal, C_InvalidStep, C_InvalidStreets, C_InvalidText, C_InvalidWindows, C_NotPlain, C_Nothing, C_OtherCycle, C_TooLarge, C_GreenError] "limit")
    (F_xf_row : XfAll K [C_Backward, C_Contradiction, C_InvalidChanges, C_InvalidCommand, C_InvalidCourse, C_InvalidCycle, C_InvalidIndex, C_InvalidMoment, C_InvalidNet, C_InvalidNumber, C_InvalidParts, C_InvalidPassage, C_InvalidPlace, C_InvalidRecords, C_InvalidRoad, C_InvalidRuns, C_InvalidSignal, C_InvalidStep, C_InvalidStreets, C_InvalidText, C_InvalidWindows, C_NotPlain, C_Nothing, C_OtherCycle, C_TooLarge, C_GreenError] "row")
    (F_xf_second : XfAll K [C_Backward, C_Contradiction, C_InvalidChanges, C_InvalidCommand, C_InvalidCourse, C_InvalidCycle, C_InvalidIndex, C_InvalidMoment, C_InvalidNet, C_InvalidNumber, C_InvalidParts, C_InvalidPassage, C_InvalidPlace, C_InvalidRecords, C_InvalidRoad, C_InvalidRuns, C_InvalidSignal, C_InvalidStep, C_InvalidStreets, C_InvalidText, C_InvalidWindows, C_NotPlain, C_Nothing, C_OtherCycle, C_TooLarge, C_GreenError] "second")
    (F_xg : XgAll K [C_Backward, C_Contradiction, C_InvalidChanges, C_InvalidCommand, C_InvalidCourse, C_InvalidCycle, C_InvalidIndex, C_InvalidMoment, C_InvalidNet, C_InvalidNumber, C_InvalidParts, C_InvalidPassage, C_InvalidPlace, C_InvalidRecords, C_InvalidRoad, C_InvalidRuns, C_InvalidSignal, C_InvalidStep, C_InvalidStreets, C_InvalidText, C_InvalidWindows, C_NotPlain, C_Nothing, C_OtherCycle, C_TooLarge, C_GreenError] C_GreenError)
    (F_xr_Backward : XR K C_Backward)
    (F_xr_GreenError : XR K C_GreenError)
    (F_xr_InvalidCommand : XR K C_InvalidCommand)
    (F_xr_InvalidCourse : XR K C_InvalidCourse)
    (F_xr_InvalidCycle : XR K C_InvalidCycle)
    (F_xr_InvalidIndex : XR K C_InvalidIndex)
    (F_xr_InvalidMoment : XR K C_InvalidMoment)
    (F_xr_InvalidNet : XR K C_InvalidNet)
    (F_xr_InvalidNumber : XR K C_InvalidNumber)
    (F_xr_InvalidParts : XR K C_InvalidParts)
    (F_xr_InvalidPassage : XR K C_InvalidPassage)
    (F_xr_InvalidPlace : XR K C_InvalidPlace)
    (F_xr_InvalidRoad : XR K C_InvalidRoad)
    (F_xr_InvalidRuns : XR K C_InvalidRuns)
    (F_xr_InvalidSignal : XR K C_InvalidSignal)
    (F_xr_InvalidStep : XR K C_InvalidStep)
    (F_xr_InvalidWindows : XR K C_InvalidWindows)
    (F_xr_NotPlain : XR K C_NotPlain)
    (F_xr_Nothing : XR K C_Nothing)
    (F_xr_OtherCycle : XR K C_OtherCycle)
    (T_l_spring : DefT K mg "_law_spring" s_l_spring ["_law_script", "_law_k"])
    (T_l_take : DefT K mg "_law_take" s_l_take ["_law_spring_here", "_law_many"])
    (T_l_flags : DefT K mg "_law_flags" s_l_flags ["_law_e"])
    (T_l_made : DefT K mg "_law_made" s_l_made ["_law_thing", "_law_other", "_law_number"])
    (T_l_kept_right : DefT K mg "_law_kept_right" s_l_kept_right ["_law_pairs", "_law_thing", "_law_other", "_law_number"])
    (T_law : DefT K mg "law" s_law ["_law_script"])
    (T_InvalidText_init : MethT K C_InvalidText "__init__" "InvalidText.__init__" s_InvalidText_init ["self", "index"])
    (T_TooLarge_init : MethT K C_TooLarge "__init__" "TooLarge.__init__" s_TooLarge_init ["self", "limit"])
    (T_InvalidStreets_init : MethT K C_InvalidStreets "__init__" "InvalidStreets.__init__" s_InvalidStreets_init ["self", "row"])
    (T_InvalidChanges_init : MethT K C_InvalidChanges "__init__" "InvalidChanges.__init__" s_InvalidChanges_init ["self", "row"])
    (T_InvalidRecords_init : MethT K C_InvalidRecords "__init__" "InvalidRecords.__init__" s_InvalidRecords_init ["self", "row"])
    (T_Contradiction_init : MethT K C_Contradiction "__init__" "Contradiction.__init__" s_Contradiction_init ["self", "first", "second"])
    : Got P w K mg base "law" 6 ["_law_script"] sp_law := by
  obtain ⟨cA, rfl, rfl, rfl, rfl, rfl, rfl, rfl, rfl, rfl, rfl, rfl, rfl, rfl, rfl, rfl, rfl, rfl, rfl, rfl, rfl, rfl, rfl, rfl, rfl, rfl, rfl⟩ : ∃ cA : Str → Addr, cA "GreenError" = C_GreenError ∧ cA "InvalidText" = C_InvalidText ∧ cA "TooLarge" = C_TooLarge ∧ cA "InvalidStreets" = C_InvalidStreets ∧ cA "InvalidChanges" = C_InvalidChanges ∧ cA "InvalidRecords" = C_InvalidRecords ∧ cA "Contradiction" = C_Contradiction ∧ cA "InvalidCycle" = C_InvalidCycle ∧ cA "InvalidSignal" = C_InvalidSignal ∧ cA "InvalidMoment" = C_InvalidMoment ∧ cA "InvalidNumber" = C_InvalidNumber ∧ cA "InvalidIndex" = C_InvalidIndex ∧ cA "InvalidRuns" = C_InvalidRuns ∧ cA "InvalidPassage" = C_InvalidPassage ∧ cA "OtherCycle" = C_OtherCycle ∧ cA "InvalidWindows" = C_InvalidWindows ∧ cA "Backward" = C_Backward ∧ cA "InvalidRoad" = C_InvalidRoad ∧ cA "NotPlain" = C_NotPlain ∧ cA "InvalidNet" = C_InvalidNet ∧ cA "InvalidPlace" = C_InvalidPlace ∧ cA "InvalidParts" = C_InvalidParts ∧ cA "InvalidCourse" = C_InvalidCourse ∧ cA "InvalidStep" = C_InvalidStep ∧ cA "Nothing" = C_Nothing ∧ cA "InvalidCommand" = C_InvalidCommand := ⟨DL.cAof [("GreenError", C_GreenError), ("InvalidText", C_InvalidText), ("TooLarge", C_TooLarge), ("InvalidStreets", C_InvalidStreets), ("InvalidChanges", C_InvalidChanges), ("InvalidRecords", C_InvalidRecords), ("Contradiction", C_Contradiction), ("InvalidCycle", C_InvalidCycle), ("InvalidSignal", C_InvalidSignal), ("InvalidMoment", C_InvalidMoment), ("InvalidNumber", C_InvalidNumber), ("InvalidIndex", C_InvalidIndex), ("InvalidRuns", C_InvalidRuns), ("InvalidPassage", C_InvalidPassage), ("OtherCycle", C_OtherCycle), ("InvalidWindows", C_InvalidWindows), ("Backward", C_Backward), ("InvalidRoad", C_InvalidRoad), ("NotPlain", C_NotPlain), ("InvalidNet", C_InvalidNet), ("InvalidPlace", C_InvalidPlace), ("InvalidParts", C_InvalidParts), ("InvalidCourse", C_InvalidCourse), ("InvalidStep", C_InvalidStep), ("Nothing", C_Nothing), ("InvalidCommand", C_InvalidCommand)], rfl, rfl, rfl, rfl, rfl, rfl, rfl, rfl, rfl, rfl, rfl, rfl, rfl, rfl, rfl, rfl, rfl, rfl, rfl, rfl, rfl, rfl, rfl, rfl, rfl, rfl⟩
  have BC : Bc K mg cA := ⟨F_mc_Backward, F_mc_Contradiction, F_mc_GreenError, F_mc_InvalidChanges, F_mc_InvalidCommand, F_mc_InvalidCourse, F_mc_InvalidCycle, F_mc_InvalidIndex, F_mc_InvalidMoment, F_mc_InvalidNet, F_mc_InvalidNumber, F_mc_InvalidParts, F_mc_InvalidPassage, F_mc_InvalidPlace, F_mc_InvalidRecords, F_mc_InvalidRoad, F_mc_InvalidRuns, F_mc_InvalidSignal, F_mc_InvalidStep, F_mc_InvalidStreets, F_mc_InvalidText, F_mc_InvalidWindows, F_mc_NotPlain, F_mc_Nothing, F_mc_OtherCycle, F_mc_TooLarge, F_oe_Contradiction, F_oe_InvalidChanges, F_oe_InvalidRecords, F_oe_InvalidStreets, F_oe_InvalidText, F_oe_TooLarge, F_op_Contradiction, F_xa, F_xf_first, F_xf_index, F_xf_limit, F_xf_row, F_xf_second, F_xg, F_xr_Backward, F_xr_GreenError, F_xr_InvalidCommand, F_xr_InvalidCourse, F_xr_InvalidCycle, F_xr_InvalidIndex, F_xr_InvalidMoment, F_xr_InvalidNet, F_xr_InvalidNumber, F_xr_InvalidParts, F_xr_InvalidPassage, F_xr_InvalidPlace, F_xr_InvalidRoad, F_xr_InvalidRuns, F_xr_InvalidSignal, F_xr_InvalidStep, F_xr_InvalidWindows, F_xr_NotPlain, F_xr_Nothing, F_xr_OtherCycle⟩
  have G_l_spring := ok_l_spring (P := P) (w := w) (base := base) T_l_spring B 
  have G_l_take := ok_l_take (P := P) (w := w) (base := base) T_l_take B 
  have G_l_flags := ok_l_flags (P := P) (w := w) (base := base) (cA := cA) T_l_flags B BC
  have E_Contradiction := er1_Contradiction (P := P) (w := w) (base := base) (cA := cA) T_Contradiction_init BC
  have E_InvalidChanges := er1_InvalidChanges (P := P) (w := w) (base := base) (cA := cA) T_InvalidChanges_init BC
  have E_InvalidRecords := er1_InvalidRecords (P := P) (w := w) (base := base) (cA := cA) T_InvalidRecords_init BC
  have E_InvalidStreets := er1_InvalidStreets (P := P) (w := w) (base := base) (cA := cA) T_InvalidStreets_init BC
  have E_InvalidText := er1_InvalidText (P := P) (w := w) (base := base) (cA := cA) T_InvalidText_init BC
  have E_TooLarge := er1_TooLarge (P := P) (w := w) (base := base) (cA := cA) T_TooLarge_init BC
  have G_l_made := ok_l_made (P := P) (w := w) (base := base) (cA := cA) T_l_made B BC E_Contradiction E_InvalidChanges E_InvalidRecords E_InvalidStreets E_InvalidText E_TooLarge
  have G_l_kept_right := ok_l_kept_right (P := P) (w := w) (base := base) (cA := cA) T_l_kept_right B BC
  have G_law := ok_law (P := P) (w := w) (base := base) (cA := cA) T_law B BC G_l_flags G_l_kept_right G_l_made G_l_spring G_l_take
  exact G_law
theorem facts {P : Program} {w : World} {K : Hk.FrK} {h : Heap} {mg : Str → Option Value} (X : K.In h) (G : h.Ns mainGlobals mg) (c : Hk.SaysC hfa hck hfn K) (tk : TabsOk h K) (base : Heap) : Got P w K mg base "law" 6 ["_law_script"] sp_law := by
  obtain ⟨fd0, F0⟩ := c.def_ 0 (d := ⟨fun K => He.ga K "_law_spring", "_law_spring", "_law_spring", s_l_spring⟩) rfl
  obtain ⟨fd1, F1⟩ := c.def_ 1 (d := ⟨fun K => He.ga K "_law_take", "_law_take", "_law_take", s_l_take⟩) rfl
  obtain ⟨fd2, F2⟩ := c.def_ 2 (d := ⟨fun K => He.ga K "_law_flags", "_law_flags", "_law_flags", s_l_flags⟩) rfl
  obtain ⟨fd3, F3⟩ := c.def_ 3 (d := ⟨fun K => He.ga K "_law_made", "_law_made", "_law_made", s_l_made⟩) rfl
  obtain ⟨fd4, F4⟩ := c.def_ 4 (d := ⟨fun K => He.ga K "_law_kept_right", "_law_kept_right", "_law_kept_right", s_l_kept_right⟩) rfl
  obtain ⟨fd5, F5⟩ := c.def_ 5 (d := ⟨fun K => He.ga K "law", "law", "law", s_law⟩) rfl
  obtain ⟨fd6, F6⟩ := c.def_ 6 (d := ⟨Hk.mA "InvalidText" "__init__", "__init__", "InvalidText.__init__", s_InvalidText_init⟩) rfl
  obtain ⟨fd7, F7⟩ := c.def_ 7 (d := ⟨Hk.mA "TooLarge" "__init__", "__init__", "TooLarge.__init__", s_TooLarge_init⟩) rfl
  obtain ⟨fd8, F8⟩ := c.def_ 8 (d := ⟨Hk.mA "InvalidStreets" "__init__", "__init__", "InvalidStreets.__init__", s_InvalidStreets_init⟩) rfl
  obtain ⟨fd9, F9⟩ := c.def_ 9 (d := ⟨Hk.mA "InvalidChanges" "__init__", "__init__", "InvalidChanges.__init__", s_InvalidChanges_init⟩) rfl
  obtain ⟨fd10, F10⟩ := c.def_ 10 (d := ⟨Hk.mA "InvalidRecords" "__init__", "__init__", "InvalidRecords.__init__", s_InvalidRecords_init⟩) rfl
  obtain ⟨fd11, F11⟩ := c.def_ 11 (d := ⟨Hk.mA "Contradiction" "__init__", "__init__", "Contradiction.__init__", s_Contradiction_init⟩) rfl
  exact all_G  ⟨He.free_ok X G (c.fact 0 (f := .free "ValueError") rfl), He.free_ok X G (c.fact 1 (f := .free "dict") rfl), He.free_ok X G (c.fact 2 (f := .free "enumerate") rfl), He.free_ok X G (c.fact 3 (f := .free "isinstance") rfl), He.free_ok X G (c.fact 4 (f := .free "len") rfl), He.free_ok X G (c.fact 5 (f := .free "max") rfl), He.free_ok X G (c.fact 6 (f := .free "min") rfl), He.free_ok X G (c.fact 7 (f := .free "range") rfl), He.free_ok X G (c.fact 8 (f := .free "zip") rfl)⟩ (He.glo_ok X G (c.fact 9 (f := .glo "Backward") rfl)) (He.glo_ok X G (c.fact 10 (f := .glo "Contradiction") rfl)) (He.glo_ok X G (c.fact 11 (f := .glo "GreenError") rfl)) (He.glo_ok X G (c.fact 12 (f := .glo "InvalidChanges") rfl)) (He.glo_ok X G (c.fact 13 (f := .glo "InvalidCommand") rfl)) (He.glo_ok X G (c.fact 14 (f := .glo "InvalidCourse") rfl)) (He.glo_ok X G (c.fact 15 (f := .glo "InvalidCycle") rfl)) (He.glo_ok X G (c.fact 16 (f := .glo "InvalidIndex") rfl)) (He.glo_ok X G (c.fact 17 (f := .glo "InvalidMoment") rfl)) (He.glo_ok X G (c.fact 18 (f := .glo "InvalidNet") rfl)) (He.glo_ok X G (c.fact 19 (f := .glo "InvalidNumber") rfl)) (He.glo_ok X G (c.fact 20 (f := .glo "InvalidParts") rfl)) (He.glo_ok X G (c.fact 21 (f := .glo "InvalidPassage") rfl)) (He.glo_ok X G (c.fact 22 (f := .glo "InvalidPlace") rfl)) (He.glo_ok X G (c.fact 23 (f := .glo "InvalidRecords") rfl)) (He.glo_ok X G (c.fact 24 (f := .glo "InvalidRoad") rfl)) (He.glo_ok X G (c.fact 25 (f := .glo "InvalidRuns") rfl)) (He.glo_ok X G (c.fact 26 (f := .glo "InvalidSignal") rfl)) (He.glo_ok X G (c.fact 27 (f := .glo "InvalidStep") rfl)) (He.glo_ok X G (c.fact 28 (f := .glo "InvalidStreets") rfl)) (He.glo_ok X G (c.fact 29 (f := .glo "InvalidText") rfl)) (He.glo_ok X G (c.fact 30 (f := .glo "InvalidWindows") rfl)) (He.glo_ok X G (c.fact 31 (f := .glo "NotPlain") rfl)) (He.glo_ok X G (c.fact 32 (f := .glo "Nothing") rfl)) (He.glo_ok X G (c.fact 33 (f := .glo "OtherCycle") rfl)) (He.glo_ok X G (c.fact 34 (f := .glo "TooLarge") rfl)) (Hk.oe1C_ok (c.chk 0 (f := Hk.oe1C "Contradiction" "first") rfl)) (Hk.oe1C_ok (c.chk 1 (f := Hk.oe1C "InvalidChanges" "row") rfl)) (Hk.oe1C_ok (c.chk 2 (f := Hk.oe1C "InvalidRecords" "row") rfl)) (Hk.oe1C_ok (c.chk 3 (f := Hk.oe1C "InvalidStreets" "row") rfl)) (Hk.oe1C_ok (c.chk 4 (f := Hk.oe1C "InvalidText" "index") rfl)) (Hk.oe1C_ok (c.chk 5 (f := Hk.oe1C "TooLarge" "limit") rfl)) (Hk.oe1C_ok (c.chk 6 (f := Hk.oe1C "Contradiction" "second") rfl)) (Hk.xaC_ok (c.chk 7 (f := Hk.xaC ["Backward", "Contradiction", "InvalidChanges", "InvalidCommand", "InvalidCourse", "InvalidCycle", "InvalidIndex", "InvalidMoment", "InvalidNet", "InvalidNumber", "InvalidParts", "InvalidPassage", "InvalidPlace", "InvalidRecords", "InvalidRoad", "InvalidRuns", "InvalidSignal", "InvalidStep", "InvalidStreets", "InvalidText", "InvalidWindows", "NotPlain", "Nothing", "OtherCycle", "TooLarge", "GreenError"] ["Backward", "Contradiction", "InvalidChanges", "InvalidCommand", "InvalidCourse", "InvalidCycle", "InvalidIndex", "InvalidMoment", "InvalidNet", "InvalidNumber", "InvalidParts", "InvalidPassage", "InvalidPlace", "InvalidRecords", "InvalidRoad", "InvalidRuns", "InvalidSignal", "InvalidStep", "InvalidStreets", "InvalidText", "InvalidWindows", "NotPlain", "Nothing", "OtherCycle", "TooLarge"]) rfl)) (Hk.xfC_ok (c.chk 8 (f := Hk.xfC ["Backward", "Contradiction", "InvalidChanges", "InvalidCommand", "InvalidCourse", "InvalidCycle", "InvalidIndex", "InvalidMoment", "InvalidNet", "InvalidNumber", "InvalidParts", "InvalidPassage", "InvalidPlace", "InvalidRecords", "InvalidRoad", "InvalidRuns", "InvalidSignal", "InvalidStep", "InvalidStreets", "InvalidText", "InvalidWindows", "NotPlain", "Nothing", "OtherCycle", "TooLarge", "GreenError"] "first") rfl)) (Hk.xfC_ok (c.chk 9 (f := Hk.xfC ["Backward", "Contradiction", "InvalidChanges", "InvalidCommand", "InvalidCourse", "InvalidCycle", "InvalidIndex", "InvalidMoment", "InvalidNet", "InvalidNumber", "InvalidParts", "InvalidPassage", "InvalidPlace", "InvalidRecords", "InvalidRoad", "InvalidRuns", "InvalidSignal", "InvalidStep", "InvalidStreets", "InvalidText", "InvalidWindows", "NotPlain", "Nothing", "OtherCycle", "TooLarge", "GreenError"] "index") rfl)) (Hk.xfC_ok (c.chk 10 (f := Hk.xfC ["Backward", "Contradiction", "InvalidChanges", "InvalidCommand", "InvalidCourse", "InvalidCycle", "InvalidIndex", "InvalidMoment", "InvalidNet", "InvalidNumber", "InvalidParts", "InvalidPassage", "InvalidPlace", "InvalidRecords", "InvalidRoad", "InvalidRuns", "InvalidSignal", "InvalidStep", "InvalidStreets", "InvalidText", "InvalidWindows", "NotPlain", "Nothing", "OtherCycle", "TooLarge", "GreenError"] "limit") rfl)) (Hk.xfC_ok (c.chk 11 (f := Hk.xfC ["Backward", "Contradiction", "InvalidChanges", "InvalidCommand", "InvalidCourse", "InvalidCycle", "InvalidIndex", "InvalidMoment", "InvalidNet", "InvalidNumber", "InvalidParts", "InvalidPassage", "InvalidPlace", "InvalidRecords", "InvalidRoad", "InvalidRuns", "InvalidSignal", "InvalidStep", "InvalidStreets", "InvalidText", "InvalidWindows", "NotPlain", "Nothing", "OtherCycle", "TooLarge", "GreenError"] "row") rfl)) (Hk.xfC_ok (c.chk 12 (f := Hk.xfC ["Backward", "Contradiction", "InvalidChanges", "InvalidCommand", "InvalidCourse", "InvalidCycle", "InvalidIndex", "InvalidMoment", "InvalidNet", "InvalidNumber", "InvalidParts", "InvalidPassage", "InvalidPlace", "InvalidRecords", "InvalidRoad", "InvalidRuns", "InvalidSignal", "InvalidStep", "InvalidStreets", "InvalidText", "InvalidWindows", "NotPlain", "Nothing", "OtherCycle", "TooLarge", "GreenError"] "second") rfl)) (Hk.xgC_ok (c.chk 13 (f := Hk.xgC ["Backward", "Contradiction", "InvalidChanges", "InvalidCommand", "InvalidCourse", "InvalidCycle", "InvalidIndex", "InvalidMoment", "InvalidNet", "InvalidNumber", "InvalidParts", "InvalidPassage", "InvalidPlace", "InvalidRecords", "InvalidRoad", "InvalidRuns", "InvalidSignal", "InvalidStep", "InvalidStreets", "InvalidText", "InvalidWindows", "NotPlain", "Nothing", "OtherCycle", "TooLarge", "GreenError"] "GreenError") rfl)) (Hk.xr_ok (c.fact 35 (f := .exc "Backward") rfl)) (Hk.xr_ok (c.fact 36 (f := .exc "GreenError") rfl)) (Hk.xr_ok (c.fact 37 (f := .exc "InvalidCommand") rfl)) (Hk.xr_ok (c.fact 38 (f := .exc "InvalidCourse") rfl)) (Hk.xr_ok (c.fact 39 (f := .exc "InvalidCycle") rfl)) (Hk.xr_ok (c.fact 40 (f := .exc "InvalidIndex") rfl)) (Hk.xr_ok (c.fact 41 (f := .exc "InvalidMoment") rfl)) (Hk.xr_ok (c.fact 42 (f := .exc "InvalidNet") rfl)) (Hk.xr_ok (c.fact 43 (f := .exc "InvalidNumber") rfl)) (Hk.xr_ok (c.fact 44 (f := .exc "InvalidParts") rfl)) (Hk.xr_ok (c.fact 45 (f := .exc "InvalidPassage") rfl)) (Hk.xr_ok (c.fact 46 (f := .exc "InvalidPlace") rfl)) (Hk.xr_ok (c.fact 47 (f := .exc "InvalidRoad") rfl)) (Hk.xr_ok (c.fact 48 (f := .exc "InvalidRuns") rfl)) (Hk.xr_ok (c.fact 49 (f := .exc "InvalidSignal") rfl)) (Hk.xr_ok (c.fact 50 (f := .exc "InvalidStep") rfl)) (Hk.xr_ok (c.fact 51 (f := .exc "InvalidWindows") rfl)) (Hk.xr_ok (c.fact 52 (f := .exc "NotPlain") rfl)) (Hk.xr_ok (c.fact 53 (f := .exc "Nothing") rfl)) (Hk.xr_ok (c.fact 54 (f := .exc "OtherCycle") rfl)) (Hk.defT X G (c.fact 55 (f := .glo "_law_spring") rfl) F0 (fun _ _ _ _ _ _ us hl => match us, hl with | [_, _], _ => rfl))
    (Hk.defT X G (c.fact 56 (f := .glo "_law_take") rfl) F1 (fun _ _ _ _ _ _ us hl => match us, hl with | [_, _], _ => rfl))
    (Hk.defT X G (c.fact 57 (f := .glo "_law_flags") rfl) F2 (fun _ _ _ _ _ _ us hl => match us, hl with | [_], _ => rfl))
    (Hk.defT X G (c.fact 58 (f := .glo "_law_made") rfl) F3 (fun _ _ _ _ _ _ us hl => match us, hl with | [_, _, _], _ => rfl))
    (Hk.defT X G (c.fact 59 (f := .glo "_law_kept_right") rfl) F4 (fun _ _ _ _ _ _ us hl => match us, hl with | [_, _, _, _], _ => rfl))
    (Hk.defT X G (c.fact 60 (f := .glo "law") rfl) F5 (fun _ _ _ _ _ _ us hl => match us, hl with | [_], _ => rfl))
    (Hk.methT (x := "InvalidText") (c.chk 14 (f := Hk.methC "InvalidText" "__init__") rfl) F6 (fun _ _ _ _ _ _ us hl => match us, hl with | [_, _], _ => rfl))
    (Hk.methT (x := "TooLarge") (c.chk 15 (f := Hk.methC "TooLarge" "__init__") rfl) F7 (fun _ _ _ _ _ _ us hl => match us, hl with | [_, _], _ => rfl))
    (Hk.methT (x := "InvalidStreets") (c.chk 16 (f := Hk.methC "InvalidStreets" "__init__") rfl) F8 (fun _ _ _ _ _ _ us hl => match us, hl with | [_, _], _ => rfl))
    (Hk.methT (x := "InvalidChanges") (c.chk 17 (f := Hk.methC "InvalidChanges" "__init__") rfl) F9 (fun _ _ _ _ _ _ us hl => match us, hl with | [_, _], _ => rfl))
    (Hk.methT (x := "InvalidRecords") (c.chk 18 (f := Hk.methC "InvalidRecords" "__init__") rfl) F10 (fun _ _ _ _ _ _ us hl => match us, hl with | [_, _], _ => rfl))
    (Hk.methT (x := "Contradiction") (c.chk 19 (f := Hk.methC "Contradiction" "__init__") rfl) F11 (fun _ _ _ _ _ _ us hl => match us, hl with | [_, _, _], _ => rfl))
end K91
open PySem PySem.W PySem.Calls PyProof.Rows
set_option maxHeartbeats 0 in
theorem PySem.Challenge.cw_greenroads_k91_errors_made_holds : PySem.Challenge.rw_greenroads_k91_errors_made.Holds := by
  w_on; o_law
  refine HandSHeadRun.head_any (r := OpenLaw.row PySem.Challenge.rw_greenroads_k91_errors_made) (q := view (OpenLaw.row PySem.Challenge.rw_greenroads_k91_errors_made).prog [33]) (H := K91.hk) (ob := K91.hob) (M := 20000) (loose := K91.hnames) (d := HandSHeadRun.topDef (OpenLaw.row PySem.Challenge.rw_greenroads_k91_errors_made).prog 33) (kwd := []) K91.hob_eq
    (by kernel_rfl) (fun s => by kernel_rfl) K91.hrun (by kernel_rfl) (by kernel_rfl) (by kernel_rfl) (by rfl) (by first | assumption | decide +kernel) (by decide +kernel) ⟨rfl, rfl, rfl, rfl, rfl, by decide +kernel⟩ ?hw ?hc
  case hw => w_witness2
  case hc =>
    refine DL.walk_H (l := PySem.Challenge.rw_greenroads_k91_errors_made) (n := 63) (k := 6) (x := "_law_script") (sp := K91.sp_law) rfl (by decide) (by kernel_rfl) ⟨rfl, by decide, by decide⟩ ?F K91.law_true
    intro w h Y
    obtain ⟨K, KX, c, tk⟩ := Y
    exact ⟨K, KX, tk, fun mg G base _ _ => K91.facts KX G c tk base⟩

