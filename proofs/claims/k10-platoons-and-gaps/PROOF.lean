import PyProof.Rows.All
import Wide.All
import OpenK.AllK
import HandS.Base
import HandS.Call
import Wide.FinOn
import HandS.Ends
import HandS.Head0
import HandS.Head1
import HandS.Head2
import HandS.HeadEnd
import HandS.HeadHook1
import HandS.HeadHook2
import HandS.HeadHook4
import HandS.Words
import HandS.ForMost
import HandS.Wide
import HandS.WideBits
import HandS.TupAny
import HandS.TupMul
import HandS.IsInst
import HandS.Style
import HandS.Flow
import HandS.Lambda
import HandS.Exc
import HandS.SortRule
import HandS.SortInts
import HandS.Property
import HandS.SlotsOwn
import HandS.Star
import PyProof.InstEq
import HandS.Strs
import HandS.SetFor
import HandS.Zip
import KE.GoesMore
import KE.DataMinMax
import KE.SortData
import HandS.More
import HandS.Conv
import HandS.OwnEq
import PyProof.EqKinds
import HandS.Text
import HandS.Nested
import PySem.Challenge.RW_greenroads_k10_platoons_and_gaps
set_option Elab.async false
set_option linter.all false
set_option maxRecDepth 100000
set_option maxHeartbeats 2000000
set_option autoImplicit false
/-! TBA: tables of the code objects of defs that make lambdas, as K tells them -/
namespace DL
open PySem PySem.Spec PyProof.Rows L2
def LAMS : List Str := ["Road.__call__", "drive", "Net.way_from", "Net.passages_without", "arrival_by_changes", "drive_with", "net_earliest", "net_courses"]
/-- the tables that K tells: the table, the name that the code objects in it bear -/
def tabF (x y : Option Value) : Option (Addr × Str) := match x, y with
  | some (.str q _), some (.ref P) => if LAMS.contains q then some (P, q ++ ".<locals>." ++ "<lambda>") else none
  | _, _ => none
def tabOf (o : Obj) : Option (Addr × Str) := match o.cls, o.data with
  | .type "code", .fields vs => tabF vs[1]? vs[11]?
  | _, _ => none
def tabsK (K : PySem.W.Frag) : List (Addr × Str) := K.filterMap fun p => tabOf p.2
/-- what is known of K's tables at the entry -/
structure TabsOk (h : Heap) (K : PySem.W.Frag) : Prop where
  nice : ∀ p ∈ K, K.lookup p.1 = some p.2
  out : ∀ p ∈ tabsK K, K.lookup p.1 = none
  emp : ∀ p ∈ tabsK K, h.get? p.1 = some { cls := .none, data := .fields #[] }
theorem tabsK_mem {K : PySem.W.Frag} {p : Addr × Str} (hn : ∀ p ∈ K, K.lookup p.1 = some p.2) (h : p ∈ tabsK K) : ∃ (c : Addr) (o : Obj) (vs : Array Value) (q : Str) (t : Tok), K.lookup c = some o ∧ o.cls = .type "code" ∧ o.data = .fields vs ∧ vs[1]? = some (.str q t) ∧ vs[11]? = some (.ref p.1) ∧ LAMS.contains q = true ∧ p.2 = q ++ ".<locals>." ++ "<lambda>" := by
  obtain ⟨x, hm, h2⟩ := List.mem_filterMap.mp h
  have ho := hn x hm
  unfold tabOf at h2
  split at h2
  · rename_i vs e1 e2
    unfold tabF at h2
    split at h2
    · rename_i q t P f1 f2
      split at h2
      · rename_i hq
        cases h2
        exact ⟨_, _, vs, q, t, ho, e1, e2, f1, f2, hq, rfl⟩
      · cases h2
    · cases h2
  · cases h2
/-- the table of a code object -/
def tabP (K : PySem.W.Frag) (cdv : Value) : Addr := match cdv with
  | .ref c => (match K.lookup c with
    | some o => (match tabOf o with
      | some p => p.1
      | none => 0)
    | none => 0)
  | _ => 0
end DL
set_option Elab.async false
set_option linter.all false
set_option maxRecDepth 100000
set_option maxHeartbeats 2000000
set_option autoImplicit false
/-! HKB: what is looked at behind the top, by names; the run itself stands first in the text -/
namespace DL
open PySem PySem.Spec PyProof.Rows L2
namespace Hk
abbrev FrK := PySem.W.Frag
def fdA (K : FrK) (a : Addr) : Option FuncData := (K.lookup a).bind fun o => match o.data with
  | .func fd => some fd
  | _ => none
abbrev Sn := Option ((Str × Str) × (Arguments × FuncBody) × (Scope × Addr) × List (Str × Addr) × Addr)
def seeF (fd : FuncData) : (Str × Str) × (Arguments × FuncBody) × (Scope × Addr) × List (Str × Addr) × Addr := ((fd.name, fd.qualname), (fd.params, fd.body), (fd.scope, fd.globals), fd.closure, fd.builtins)
structure FnC where
  adr : FrK → Addr
  name : Str
  qual : Str
  st : Stmt
def isNo : Value → Bool
  | .none => true
  | _ => false
def FnC.due (d : FnC) : Sn := some ((d.name, d.qual), (defArgs d.st, .stmts (defBody d.st)), (defScope d.st, mainGlobals), [], builtinsNs)
def FnC.seen (K : FrK) (d : FnC) : Sn := (fdA K (d.adr K)).map seeF
def FnC.good (K : FrK) (d : FnC) : Bool := PySem.W.keepIn K (.ref (d.adr K)) && (match fdA K (d.adr K) with
  | some fd => PySem.W.codeIn K fd.code d.qual && isNo fd.defaults
  | none => false)
abbrev ObC := Bool × List Sn
def obsC (fa : List He.Fa) (ck : List (FrK → Bool)) (fn : List FnC) (K : FrK) : ObC := ((fa.all fun f => f.ok K) && ((ck.all fun c => c K) && fn.all fun d => d.good K), fn.map fun d => d.seen K)
def dueC (fn : List FnC) : ObC := (true, fn.map FnC.due)
def SaysC (fa : List He.Fa) (ck : List (FrK → Bool)) (fn : List FnC) (K : FrK) : Prop := obsC fa ck fn K = dueC fn
/-- the tables are empty -/
def tabsB2 (g : Addr → Option Obj) (K : FrK) : Bool := (tabsK K).all fun p => match g p.1 with
  | some o => He.emptyTab o
  | none => false
def obsC2 (g : Addr → Option Obj) (fa : List He.Fa) (ck : List (FrK → Bool)) (fn : List FnC) (K : FrK) : ObC := (((fa.all fun f => f.ok K) && ((ck.all fun c => c K) && fn.all fun d => d.good K)) && tabsB2 g K, fn.map fun d => d.seen K)
/-- which addresses are looked at -/
abbrev AsF := (Addr → Option Obj) → List Addr
def addR : List Addr → Nat → List Addr → List Addr × Nat
  | [], v, acc => (acc, v)
  | a :: r, v, acc => match Nat.beq (Nat.land (Nat.shiftRight v a) 1) 1 with
    | true => addR r v acc
    | false => addR r (Nat.lor v (Nat.shiftLeft 1 a)) (a :: acc)
def stepR (g : Addr → Option Obj) : List Addr → Nat → List Addr → List Addr × Nat
  | [], v, acc => (acc, v)
  | a :: fr, v, acc => match g a with
    | some o => match addR (He.refsD o) v acc with
      | (acc', v') => stepR g fr v' acc'
    | none => stepR g fr v acc
def bfsR (g : Addr → Option Obj) : Nat → List Addr → Nat → List Addr
  | 0, fr, _ => fr
  | n + 1, fr, v => match stepR g fr v [] with
    | (fr', v') => fr ++ bfsR g n fr' v'
/-- the addresses within so many steps of the module's names -/
def asB (n : Nat) : AsF := fun g => bfsR g n [mainGlobals] (Nat.shiftLeft 1 mainGlobals)
def obsCG (n : AsF) (fa : List He.Fa) (ck : List (FrK → Bool)) (fn : List FnC) (g : Addr → Option Obj) : ObC := obsC2 g fa ck fn (He.frT g (n g))
theorem nice_of {g : Addr → Option Obj} : ∀ {l : List (Addr × Obj)}, (∀ p ∈ l, g p.1 = some p.2) → ∀ p ∈ l, l.lookup p.1 = some p.2
  | [], _, p, hp => by cases hp
  | b :: r, h, p, hp => by
    rw [List.lookup_cons]
    cases q : p.1 == b.1 with
    | true =>
      have e := eq_of_beq q
      have h1 := h p hp
      have h2 := h b List.mem_cons_self
      rw [e, h2] at h1
      exact h1
    | false =>
      rcases List.mem_cons.mp hp with z | hp
      · rw [z] at q
        simp at q
      · exact nice_of (fun x hx => h x (List.mem_cons_of_mem _ hx)) p hp
theorem nice_frT {g : Addr → Option Obj} {as : List Addr} : ∀ p ∈ He.frT g as, (He.frT g as).lookup p.1 = some p.2 := nice_of fun p hp => He.frG_mem (List.mem_filter.mp hp).1
theorem tabs_of {n : AsF} {h : Heap} (e : tabsB2 h.get? (He.frT h.get? (n h.get?)) = true) : TabsOk h (He.frT h.get? (n h.get?)) := by
  have key : ∀ p ∈ tabsK (He.frT h.get? (n h.get?)), ∃ o, h.get? p.1 = some o ∧ He.emptyTab o = true := fun p hp => by
    have q := List.all_eq_true.mp e p hp
    split at q
    · rename_i o ho
      exact ⟨o, ho, q⟩
    · cases q
  refine ⟨nice_frT, fun p hp => ?_, fun p hp => ?_⟩
  · obtain ⟨o, h1, h2⟩ := key p hp
    exact He.frT_none h1 h2
  · obtain ⟨o, h1, h2⟩ := key p hp
    rw [h1, He.emptyTab_eq h2]
theorem obsC2_ok {g : Addr → Option Obj} {fa : List He.Fa} {ck : List (FrK → Bool)} {fn : List FnC} {K : FrK} (e : obsC2 g fa ck fn K = dueC fn) : SaysC fa ck fn K ∧ tabsB2 g K = true := by
  obtain ⟨e1, e2⟩ := Prod.mk.inj (show ((((fa.all fun f => f.ok K) && ((ck.all fun c => c K) && fn.all fun d => d.good K)) && tabsB2 g K, fn.map fun d => d.seen K) : ObC) = (true, fn.map FnC.due) from e)
  obtain ⟨h1, h2⟩ := Bool.and_eq_true_iff.mp e1
  refine ⟨?_, h2⟩
  unfold SaysC obsC
  rw [h1, e2]
  rfl
def hookC (n : AsF) (fa : List He.Fa) (ck : List (FrK → Bool)) (fn : List FnC) : PySem.W.Hook where
  α := ObC
  obs := fun s => obsCG n fa ck fn s.heap.get?
  val := fun _ => dueC fn
  says := fun _ h => ∃ K : FrK, K.In h ∧ SaysC fa ck fn K ∧ TabsOk h K
  of := fun _ _ e => ⟨_, He.frT_in, (obsC2_ok e).1, tabs_of (obsC2_ok e).2⟩
  keeps := fun _ _ _ ⟨K, hK, c, t⟩ k => ⟨K, PySem.W.Frag.In.keeps hK k, c, t.nice, t.out, fun p hp => k _ _ (t.emp p hp)⟩
theorem obsCG_eq {n : AsF} {fa : List He.Fa} {ck : List (FrK → Bool)} {fn : List FnC} {g : Addr → Option Obj} {s : Shared} (h : ∀ a, g a = s.heap.get? a) : obsCG n fa ck fn g = (hookC n fa ck fn).obs s := by
  rw [show g = s.heap.get? from funext h]
  rfl
def clsC (x : Str) (K : FrK) : Bool := (He.Fa.cls x).ok K && (He.eqO (PySem.W.findIn K (.ref (He.ga K x)) "__class__") (some (some (.builtin "object.__class__"))) && (He.eqO (PySem.W.specialIn K (.builtin "object.__class__") "__get__") (some (some (.builtin "getset_descriptor.__get__"))) &&
  (decide (PySem.W.takesIn K (.builtin "object.__class__") = some true) && (decide (PySem.W.mroIn K (He.ga K x) (.type "object") = some true) && (PySem.W.selfFirst K (He.ga K x) && (decide (PySem.W.typeIn K (.ref (He.ga K x)) = some (.type "type")) && PySem.W.keepIn K (.ref (He.ga K x))))))))
def othC (x y : Str) (K : FrK) : Bool := clsC y K && (decide (PySem.W.subIn K (.ref (He.ga K y)) (.ref (He.ga K x)) = some false) && decide (He.ga K y ≠ He.ga K x))
/-- a def that makes lambdas: its code object, its table -/
def codeOk (q : Str) (p : Addr × Obj) : Bool := match p.2.data with
  | .fields vs => (match vs.toList with
    | _ :: .str n _ :: _ => (n != q) || (decide (p.2.cls = .type "code") && (PySem.W.codeHdIn [p] p.1 (tabP [p] (.ref p.1)) && decide (tabOf p.2 = some (tabP [p] (.ref p.1), q ++ ".<locals>." ++ "<lambda>"))))
    | _ => true)
  | _ => true
def lamC (q : Str) (K : FrK) : Bool := K.all (codeOk q)
def oneC (K : FrK) : Bool := (tabsK K).all fun p => (tabsK K).all fun r => (p.1 != r.1) || decide (p.2 = r.2)
def bmC (K : FrK) : Bool := match K.lookup (He.ga K "__builtins__") with
  | some ⟨.type c, some d, .plain, _⟩ => decide (c = "module") && (decide (d = builtinsNs) && decide (He.ga K "__builtins__" ≠ builtinsNs))
  | _ => false
def neC (x : Str) (K : FrK) : Bool := He.eqO (PySem.W.findIn K (.ref (He.ga K x)) "__ne__") (some (some (.builtin "object.__ne__")))
def mA (x m : Str) (K : FrK) : Addr := He.ma K (He.ga K x) m
def pA (x m : Str) (K : FrK) : Addr := match PySem.W.recIn K (mA x m K) "property" with
  | some (.ref f :: _) => f
  | _ => 0
def isRec (K : FrK) (p f : Addr) : Bool := match PySem.W.recIn K p "property" with
  | some (.ref g :: _) => decide (g = f)
  | _ => false
def propC (x m : Str) (K : FrK) : Bool := He.eqO (PySem.W.findIn K (.ref (He.ga K x)) m) (some (some (.ref (mA x m K)))) && (He.eqO (PySem.W.specialIn K (.ref (mA x m K)) "__get__") (some (some (.builtin "property.__get__"))) && (decide (PySem.W.takesIn K (.ref (mA x m K)) = some true) && isRec K (mA x m K) (pA x m K)))
def methC (x m : Str) (K : FrK) : Bool := (He.Fa.meth x m).ok K && PySem.W.fnIn K (mA x m K)
/-! the run looked at in parts: each look is a kernel run by itself -/
def KofT (n : AsF) (s : PySem.W.SharedT) : FrK := He.frT (HandSHeadRun.getT s) (n (HandSHeadRun.getT s))
def partA (n : AsF) (fa : List He.Fa) (ck : List (FrK → Bool)) (s : PySem.W.SharedT) : Bool := (fun K => ((fa.all fun f => f.ok K) && ck.all fun c => c K) && tabsB2 (HandSHeadRun.getT s) K) (KofT n s)
def partB (n : AsF) (fn : List FnC) (s : PySem.W.SharedT) : ObC := (fun K => ((fn.all fun d => d.good K), fn.map fun d => d.seen K)) (KofT n s)
theorem partB_join {n : AsF} {fn1 fn2 : List FnC} {X : Option PySem.W.SharedT} (h2 : X.map (partB n fn1) = some (dueC fn1)) (h3 : X.map (partB n fn2) = some (dueC fn2)) : X.map (partB n (fn1 ++ fn2)) = some (dueC (fn1 ++ fn2)) := by
  cases X with
  | none => cases h2
  | some s =>
    have a2 : ((fn1.all fun d => d.good (KofT n s)), fn1.map fun d => d.seen (KofT n s)) = ((true, fn1.map FnC.due) : ObC) := Option.some.inj h2
    have a3 : ((fn2.all fun d => d.good (KofT n s)), fn2.map fun d => d.seen (KofT n s)) = ((true, fn2.map FnC.due) : ObC) := Option.some.inj h3
    obtain ⟨b1, b2⟩ := Prod.mk.inj a2
    obtain ⟨b3, b4⟩ := Prod.mk.inj a3
    show some ((((fn1 ++ fn2).all fun d => d.good (KofT n s)), (fn1 ++ fn2).map fun d => d.seen (KofT n s)) : ObC) = some (true, (fn1 ++ fn2).map FnC.due)
    rw [List.all_append, b1, b3, List.map_append, List.map_append, b2, b4]
    rfl
theorem partA_join {n : AsF} {fa : List He.Fa} {ck : List (FrK → Bool)} {X : Option PySem.W.SharedT} (h1 : X.map (partA n fa []) = some true) (h2 : X.map (partA n [] ck) = some true) : X.map (partA n fa ck) = some true := by
  cases X with
  | none => cases h1
  | some s =>
    have a1 : (((fa.all fun f => f.ok (KofT n s)) && true) && tabsB2 (HandSHeadRun.getT s) (KofT n s)) = true := Option.some.inj h1
    have a2 : ((true && ck.all fun c => c (KofT n s)) && tabsB2 (HandSHeadRun.getT s) (KofT n s)) = true := Option.some.inj h2
    show some (((fa.all fun f => f.ok (KofT n s)) && ck.all fun c => c (KofT n s)) && tabsB2 (HandSHeadRun.getT s) (KofT n s)) = some true
    rw [Bool.and_true] at a1
    rw [Bool.true_and] at a2
    obtain ⟨b1, b2⟩ := Bool.and_eq_true_iff.mp a1
    obtain ⟨b3, _⟩ := Bool.and_eq_true_iff.mp a2
    rw [b1, b2, b3]
    rfl
theorem obs_join {n : AsF} {fa : List He.Fa} {ck : List (FrK → Bool)} {fn : List FnC} {X : Option PySem.W.SharedT} (h1 : X.map (partA n fa ck) = some true) (h2 : X.map (partB n fn) = some (dueC fn)) :
    X.map (fun s => obsCG n fa ck fn (HandSHeadRun.getT s)) = some (dueC fn) := by
  cases X with
  | none => cases h1
  | some s =>
    have a0 : (((fa.all fun f => f.ok (KofT n s)) && ck.all fun c => c (KofT n s)) && tabsB2 (HandSHeadRun.getT s) (KofT n s)) = true := Option.some.inj h1
    obtain ⟨a1, a3⟩ := Bool.and_eq_true_iff.mp a0
    have a2 : ((fn.all fun d => d.good (KofT n s)), fn.map fun d => d.seen (KofT n s)) = ((true, fn.map FnC.due) : ObC) := Option.some.inj h2
    obtain ⟨b1, b2⟩ := Prod.mk.inj a2
    obtain ⟨c1, c2⟩ := Bool.and_eq_true_iff.mp a1
    show some (((((fa.all fun f => f.ok (KofT n s)) && ((ck.all fun c => c (KofT n s)) && fn.all fun d => d.good (KofT n s))) && tabsB2 (HandSHeadRun.getT s) (KofT n s), fn.map fun d => d.seen (KofT n s))) : ObC) = some (true, fn.map FnC.due)
    rw [c1, c2, b1, b2, a3]
    rfl
theorem run_join {α β γ : Type} {X : Option α} {l : α → Bool} {sn : α → β} {g : β} {ob : α → γ} {v : γ} (h0 : X.map (fun s => (l s, sn s)) = some (true, g)) (h1 : X.map ob = some v) : X.map (fun s => (l s, sn s, ob s)) = some (true, g, v) := by
  cases X with
  | none => cases h1
  | some s =>
    obtain ⟨b1, b2⟩ := Prod.mk.inj (Option.some.inj h0)
    have a1 : ob s = v := Option.some.inj h1
    show some (l s, sn s, ob s) = _
    rw [b1, b2, a1]
end Hk
end DL
namespace HandSHeadRun
open PySem PySem.W PySem.Calls PyProof.Rows
/-- the looks ahead of the Hook's -/
noncomputable def see0 (r : OpenRow) (q : Program) (loose : List PySem.Str) (w : World) (s : SharedT) := (looksF r.prog (boot_heap w.params) s.abs, seenQ q loose (importedModules r.prog.main.body) (fun s => xlAt q [] s && recOk r.toRowW.records s) s.abs)
noncomputable def due0 (q : Program) (loose : List PySem.Str) := (true, openGood q loose)
theorem see_join {r : OpenRow} {q : Program} {loose : List PySem.Str} {w : World} {X : Option SharedT} {H : Hook} {ob : SharedT → H.α} (h0 : X.map (see0 r q loose w) = some (due0 q loose)) (h1 : X.map ob = some (H.val w)) :
    X.map (fun s => (looksF r.prog (boot_heap w.params) s.abs, seenQ q loose (importedModules r.prog.main.body) (fun s => xlAt q [] s && recOk r.toRowW.records s) s.abs, ob s)) = some (true, openGood q loose, H.val w) := DL.Hk.run_join h0 h1
end HandSHeadRun
set_option Elab.async false
set_option linter.all false
set_option maxRecDepth 100000
set_option maxHeartbeats 4000000
set_option autoImplicit false
namespace K10
open PySem PySem.Spec PyProof.Rows L2 DL
def topS (i : Nat) : Stmt := PySem.Challenge.pw_greenroads_k10_platoons_and_gaps.main.body.getD i (.Pass ⟨0, 0, 0, 0⟩)
def clsBody (s : Stmt) : List Stmt := match s with
  | .ClassDef _ _ _ b _ _ _ _ _ _ _ => b
  | _ => []
def methS (s : Stmt) (j : Nat) : Stmt := (clsBody s).getD j (.Pass ⟨0, 0, 0, 0⟩)
abbrev s_is_int : Stmt := topS 10
abbrev s_in_range : Stmt := topS 11
abbrev s_require_cycle : Stmt := topS 12
abbrev s_is_row : Stmt := topS 15
abbrev s_are_runs : Stmt := topS 16
abbrev s_moved_row : Stmt := topS 17
abbrev s_joined_rows : Stmt := topS 18
abbrev s_normal_runs : Stmt := topS 19
abbrev s_require_passage : Stmt := topS 31
abbrev s_platoons : Stmt := topS 33
abbrev s_gaps : Stmt := topS 34
abbrev s_l_spring : Stmt := topS 36
abbrev s_l_take : Stmt := topS 37
abbrev s_l_cycle : Stmt := topS 38
abbrev s_l_shares : Stmt := topS 39
abbrev s_l_rows : Stmt := topS 40
abbrev s_l_drawn : Stmt := topS 41
abbrev s_l_to : Stmt := topS 42
abbrev s_l_same : Stmt := topS 43
abbrev s_l_of : Stmt := topS 44
abbrev s_l_table_due : Stmt := topS 45
abbrev s_l_rows_due : Stmt := topS 46
abbrev s_l_right : Stmt := topS 47
abbrev s_law : Stmt := topS 48
abbrev s_Passage_init : Stmt := methS (topS 30) 0
def hfa0 : List He.Fa := [.int "MOST_CYCLE" 1000000000000000000000000000000, .free "all", .free "bool", .free "enumerate", .free "int", .free "isinstance", .free "len", .free "list", .free "max", .free "min", .free "range", .free "repr", .free "sorted", .free "tuple", .free "zip", .glo "Passage", .noat "Passage" "own_cycle", .noat "Passage" "own_runs", .glo "is_int", .glo "in_range", .glo "require_cycle", .glo "is_row", .glo "are_runs", .glo "moved_row", .glo "joined_rows", .glo "normal_runs", .glo "require_passage", .glo "platoons", .glo "gaps", .glo "_law_spring"]
def hfa1 : List He.Fa := [.glo "_law_take", .glo "_law_cycle", .glo "_law_shares", .glo "_law_rows", .glo "_law_drawn", .glo "_law_to", .glo "_law_same", .glo "_law_of", .glo "_law_table_due", .glo "_law_rows_due", .glo "_law_right", .glo "law", .mkr "Passage"]
abbrev hfa : List He.Fa := hfa0 ++ (hfa1)
def hck0 : List (Hk.FrK → Bool) := [Hk.clsC "Passage"]
abbrev hck : List (Hk.FrK → Bool) := hck0
def hfn0 : List Hk.FnC := [⟨fun K => He.ga K "is_int", "is_int", "is_int", s_is_int⟩, ⟨fun K => He.ga K "in_range", "in_range", "in_range", s_in_range⟩, ⟨fun K => He.ga K "require_cycle", "require_cycle", "require_cycle", s_require_cycle⟩, ⟨fun K => He.ga K "is_row", "is_row", "is_row", s_is_row⟩, ⟨fun K => He.ga K "are_runs", "are_runs", "are_runs", s_are_runs⟩, ⟨fun K => He.ga K "moved_row", "moved_row", "moved_row", s_moved_row⟩, ⟨fun K => He.ga K "joined_rows", "joined_rows", "joined_rows", s_joined_rows⟩, ⟨fun K => He.ga K "normal_runs", "normal_runs", "normal_runs", s_normal_runs⟩, ⟨fun K => He.ga K "require_passage", "require_passage", "require_passage", s_require_passage⟩]
def hfn1 : List Hk.FnC := [⟨fun K => He.ga K "platoons", "platoons", "platoons", s_platoons⟩, ⟨fun K => He.ga K "gaps", "gaps", "gaps", s_gaps⟩, ⟨fun K => He.ga K "_law_spring", "_law_spring", "_law_spring", s_l_spring⟩, ⟨fun K => He.ga K "_law_take", "_law_take", "_law_take", s_l_take⟩, ⟨fun K => He.ga K "_law_cycle", "_law_cycle", "_law_cycle", s_l_cycle⟩, ⟨fun K => He.ga K "_law_shares", "_law_shares", "_law_shares", s_l_shares⟩, ⟨fun K => He.ga K "_law_rows", "_law_rows", "_law_rows", s_l_rows⟩, ⟨fun K => He.ga K "_law_drawn", "_law_drawn", "_law_drawn", s_l_drawn⟩, ⟨fun K => He.ga K "_law_to", "_law_to", "_law_to", s_l_to⟩]
def hfn2 : List Hk.FnC := [⟨fun K => He.ga K "_law_same", "_law_same", "_law_same", s_l_same⟩, ⟨fun K => He.ga K "_law_of", "_law_of", "_law_of", s_l_of⟩, ⟨fun K => He.ga K "_law_table_due", "_law_table_due", "_law_table_due", s_l_table_due⟩, ⟨fun K => He.ga K "_law_rows_due", "_law_rows_due", "_law_rows_due", s_l_rows_due⟩, ⟨fun K => He.ga K "_law_right", "_law_right", "_law_right", s_l_right⟩, ⟨fun K => He.ga K "law", "law", "law", s_law⟩, ⟨Hk.mA "Passage" "__init__", "__init__", "Passage.__init__", s_Passage_init⟩]
abbrev hfn : List Hk.FnC := hfn0 ++ (hfn1 ++ (hfn2))
def hnames0 : List Str := ["_wall", "GreenError", "InvalidCycle", "InvalidMoment", "InvalidRuns", "InvalidPassage", "OtherCycle", "MOST_CYCLE", "is_int", "in_range", "require_cycle", "require_moment", "is_row", "are_runs", "moved_row", "joined_rows", "normal_runs", "row_from", "arrival_by", "rows_between", "runs_behind", "borders", "is_rising", "common_pieces", "chosen_pieces", "runs_of", "chosen_runs", "Passage", "require_passage", "require_like"]
def hnames1 : List Str := ["platoons", "gaps", "_law_spring", "_law_take", "_law_cycle", "_law_shares", "_law_rows", "_law_drawn", "_law_to", "_law_same", "_law_of", "_law_table_due", "_law_rows_due", "_law_right"]
abbrev hnames : List Str := hnames0 ++ (hnames1)
abbrev hR : PySem.W.OpenRow := PySem.W.OpenLaw.row PySem.Challenge.rw_greenroads_k10_platoons_and_gaps
abbrev hk : PySem.W.Hook := Hk.hookC (Hk.asB 5) hfa hck hfn
def hob (s : PySem.W.SharedT) : Hk.ObC := Hk.obsCG (Hk.asB 5) hfa hck hfn (HandSHeadRun.getT s)
theorem hob_eq (s : PySem.W.SharedT) : hob s = hk.obs s.abs := Hk.obsCG_eq (HandSHeadRun.getT_eq s)
set_option maxHeartbeats 0 in
theorem hr0 (w : World) : ∀ os : OsState, (HandSHeadRun.endF (HandSHeadRun.stepQ (HandSHeadRun.denQ HandSHeadRun.tabQ) hR.prog w) 20000 hR.prog w os).map (HandSHeadRun.see0 hR (PySem.W.view hR.prog [48]) hnames w) = some (HandSHeadRun.due0 (PySem.W.view hR.prog [48]) hnames) := by
  intro os
  kernel_rfl
set_option maxHeartbeats 0 in
theorem hr1 (w : World) : ∀ os : OsState, (HandSHeadRun.endF (HandSHeadRun.stepQ (HandSHeadRun.denQ HandSHeadRun.tabQ) hR.prog w) 20000 hR.prog w os).map (Hk.partA (Hk.asB 5) hfa []) = some true := by
  intro os
  kernel_rfl
set_option maxHeartbeats 0 in
theorem hr2 (w : World) : ∀ os : OsState, (HandSHeadRun.endF (HandSHeadRun.stepQ (HandSHeadRun.denQ HandSHeadRun.tabQ) hR.prog w) 20000 hR.prog w os).map (Hk.partA (Hk.asB 5) [] hck) = some true := by
  intro os
  kernel_rfl
set_option maxHeartbeats 0 in
theorem hb0 (w : World) : ∀ os : OsState, (HandSHeadRun.endF (HandSHeadRun.stepQ (HandSHeadRun.denQ HandSHeadRun.tabQ) hR.prog w) 20000 hR.prog w os).map (Hk.partB (Hk.asB 5) hfn0) = some (Hk.dueC hfn0) := by
  intro os
  kernel_rfl
set_option maxHeartbeats 0 in
theorem hb1 (w : World) : ∀ os : OsState, (HandSHeadRun.endF (HandSHeadRun.stepQ (HandSHeadRun.denQ HandSHeadRun.tabQ) hR.prog w) 20000 hR.prog w os).map (Hk.partB (Hk.asB 5) hfn1) = some (Hk.dueC hfn1) := by
  intro os
  kernel_rfl
set_option maxHeartbeats 0 in
theorem hb2 (w : World) : ∀ os : OsState, (HandSHeadRun.endF (HandSHeadRun.stepQ (HandSHeadRun.denQ HandSHeadRun.tabQ) hR.prog w) 20000 hR.prog w os).map (Hk.partB (Hk.asB 5) hfn2) = some (Hk.dueC hfn2) := by
  intro os
  kernel_rfl
theorem hrun (w : World) : HandSHeadRun.RunEq hR (PySem.W.view hR.prog [48]) hk hob 20000 hnames w := fun os => HandSHeadRun.see_join (H := hk) (hr0 w os) (Hk.obs_join (Hk.partA_join (hr1 w os) (hr2 w os)) (Hk.partB_join (hb0 w os) (Hk.partB_join (hb1 w os) (hb2 w os))))
end K10
set_option Elab.async false
set_option linter.all false
set_option maxRecDepth 100000
set_option maxHeartbeats 2000000
/-! DL: readings over plain data. D: data; Z: data or a numbered cell (a list or dict of the def's own that changes). -/
namespace DL
open PySem L2

/-- an own error held as a value: its class, its dict -/
def ExO2 (cls : PySem.Value) (d : Option Addr) (a : Addr) : HO := .ext fun h => ∃ (oe : Obj) (vs : Array PySem.Value), h.get? a = some oe ∧ Zc cls d oe ∧ oe.data = .fields vs ∧ vs[1]? = some .none
theorem nd {α : Sort _} {a b : α} (h : a = b) : a = b := h
/-- the greatest length -/
def LIM : Nat := 16000000
theorem lim_le {n : Nat} (h : n ≤ 16000000) : n ≤ LIM := h
theorem lim_lt {n : Nat} (h : n < 16000000) : n < LIM := h
theorem le_lim {n : Nat} (h : n ≤ 100000) : (n ≤ LIM) = True := eq_true (lim_le (by omega))
theorem lt_lim {n : Nat} (h : n < 100000) : (n < LIM) = True := eq_true (lim_lt (by omega))
inductive D where
  | non | bl (b : Bool) | int (i : Int) | str (x : Str)
  | tup (ds : List D) | lst (ds : List D) | dic (kvs : List (Key × D)) | scr (ns : List Int) | ty (n : String) | obj (a : Addr) | ob (C : Addr) (ns : List Str) (ds : List D) | cel (a : Addr) (x : D)
inductive Z where
  | d (x : D) | c (n : Nat)
abbrev Cs := List D
abbrev En := List (Option Z)
abbrev DE := En → Cs → (Z → Cs → Prop) → Prop
abbrev DT := En → Cs → (Bool → Cs → Prop) → Prop
abbrev DA := En → Cs → (List Z → Cs → Prop) → Prop
structure DEnds where
  nx : En → Cs → Prop
  rt : Z → Cs → Prop
  bk : En → Cs → Prop := fun _ _ => False
  ct : En → Cs → Prop := fun _ _ => False
abbrev DS := DEnds → En → Cs → Prop
abbrev DG := Z → En → Cs → (En → Cs → Prop) → Prop
abbrev DGs := List D → En → Cs → (En → Cs → Prop) → Prop
abbrev DI := En → Cs → (List D → (Cs → Prop) → Cs → Prop) → Prop
abbrev DSpec := List Z → Cs → (Z → Cs → Prop) → Prop

mutual
/-- the value v stands for the data, by the objects of S, which never change -/
def Is (K : PySem.W.Frag) (S : Hp) : D → V → Prop
  | .non, v => v = .non
  | .bl b, v => v = .bl b
  | .int i, v => v = .int i
  | .str x, v => v = .str x
  | .tup ds, v => ∃ a vs, v = .ref a ∧ SqT K S a vs ∧ IsL K S ds vs
  | .lst ds, v => ∃ a vs, v = .ref a ∧ S a = some (.lst vs) ∧ IsL K S ds vs
  | .dic kvs, v => ∃ a kv, v = .ref a ∧ S a = some (.dK kv) ∧ IsK K S kvs kv
  | .scr ns, v => ∃ a, v = .ref a ∧ SqL K S a (ns.map V.int)
  | .ty n, v => v = .ty n
  | .obj a, v => v = .ref a
  | .cel a (.tup ds), v => v = .ref a ∧ ∃ vs, S a = some (.tup vs) ∧ IsL K S ds vs
  | .cel a (.dic kvs), v => v = .ref a ∧ IsR K S kvs
  | .cel a (.str q), v => v = .ref a ∧ S a = some (LamX.CodeO a q)
  | .cel a (.obj C), v => v = .ref a ∧ S a = some (ExO2 (.ref C) none a)
  | .cel a (.cel C (.ob _ ns ds)), v => v = .ref a ∧ ∃ dx vs, S a = some (ExO2 (.ref C) (some dx) a) ∧ S dx = some (.xd (ns.zip vs)) ∧ ns.length = ds.length ∧ IsL K S ds vs
  | .cel a _, v => v = .ref a
  | .ob C ns ds, v => ∃ x dx vs, v = .ref x ∧ S x = some (.ins C dx (ns.zip vs)) ∧ S dx = some (.own x) ∧ ns.length = ds.length ∧ IsL K S ds vs
def IsL (K : PySem.W.Frag) (S : Hp) : List D → List V → Prop
  | [], vs => vs = []
  | d :: ds, vs => ∃ v r, vs = v :: r ∧ Is K S d v ∧ IsL K S ds r
def IsK (K : PySem.W.Frag) (S : Hp) : List (Key × D) → List (Key × V) → Prop
  | [], l => l = []
  | kd :: r, l => ∃ v l', l = (kd.1, v) :: l' ∧ Is K S kd.2 v ∧ IsK K S r l'
/-- what a lambda captured: the addresses and what stands there -/
def IsR (K : PySem.W.Frag) (S : Hp) : List (Key × D) → Prop
  | [] => True
  | kd :: r => (∃ x : Nat, kd.1 = .inl (x : Int) ∧ Is K S kd.2 (.ref x)) ∧ IsR K S r
end

/-- all of S stands in H -/
def Sub (S H : Hp) : Prop := ∀ a o, S a = some o → H a = some o
theorem Sub.refl (S : Hp) : Sub S S := fun _ _ h => h
theorem Sub.trans {S T U : Hp} (a : Sub S T) (b : Sub T U) : Sub S U := fun x o h => b x o (a x o h)
theorem Sub.new {S : Hp} {p : Addr} {o : HO} (h : S p = none) : Sub S (upd S p o) := fun a u e => by
  rw [upd_ne (ne_of_none e h)]
  exact e
theorem Sub.both {S H : Hp} {p : Addr} {o : HO} (h : Sub S H) : Sub (upd S p o) (upd H p o) := fun a u e => by
  by_cases ha : a = p
  · subst ha
    rw [upd_same] at e ⊢
    exact e
  · rw [upd_ne ha] at e ⊢
    exact h a u e
theorem Sub.free {S H : Hp} {p : Addr} (h : Sub S H) (n : H p = none) : S p = none := by
  cases q : S p with
  | none => rfl
  | some o => rw [h p o q] at n; cases n
theorem Sub.other {S H : Hp} {p : Addr} {o : HO} (h : Sub S H) (n : S p = none) : Sub S (upd H p o) := fun a u e => by
  rw [upd_ne (ne_of_none e n)]
  exact h a u e
theorem Sub.rd {S H : Hp} {a : Addr} {u : HO} (e : Sub S H) (h : Rd S a u) : Rd H a u := by
  rcases h with h | ⟨o, h⟩
  · exact Or.inl (e a _ h)
  · exact Or.inr ⟨o, e a _ h⟩
theorem Sub.l {K : PySem.W.Frag} {S H : Hp} {a : Addr} {xs : List V} (e : Sub S H) (h : SqL K S a xs) : SqL K H a xs := by
  rcases h with h | h
  · exact Or.inl (e.rd h)
  · exact Or.inr h
theorem Sub.t {K : PySem.W.Frag} {S H : Hp} {a : Addr} {xs : List V} (e : Sub S H) (h : SqT K S a xs) : SqT K H a xs := by
  rcases h with h | h
  · exact Or.inl (e.rd h)
  · exact Or.inr h

mutual
theorem Is.mono {K : PySem.W.Frag} {S T : Hp} (e : Sub S T) : ∀ (d : D) (v : V), Is K S d v → Is K T d v
  | .non, _, h => h
  | .bl _, _, h => h
  | .int _, _, h => h
  | .str _, _, h => h
  | .tup ds, v, h => by
    obtain ⟨a, vs, h1, h2, h3⟩ := h
    exact ⟨a, vs, h1, e.t h2, IsL.mono e ds vs h3⟩
  | .lst ds, v, h => by
    obtain ⟨a, vs, h1, h2, h3⟩ := h
    exact ⟨a, vs, h1, e _ _ h2, IsL.mono e ds vs h3⟩
  | .dic kvs, v, h => by
    obtain ⟨a, kv, h1, h2, h3⟩ := h
    exact ⟨a, kv, h1, e _ _ h2, IsK.mono e kvs kv h3⟩
  | .scr ns, v, h => by
    obtain ⟨a, h1, h2⟩ := h
    exact ⟨a, h1, e.l h2⟩
  | .ty _, _, h => h
  | .obj _, _, h => h
  | .cel _ (.tup ds), _, h => by
    obtain ⟨h0, vs, h1, h2⟩ := h
    exact ⟨h0, vs, e _ _ h1, IsL.mono e ds vs h2⟩
  | .cel _ (.lst _), _, h => h
  | .cel _ (.dic kvs), _, h => ⟨h.1, IsR.mono e kvs h.2⟩
  | .cel _ (.ob _ _ _), _, h => h
  | .cel _ (.scr _), _, h => h
  | .cel _ (.ty _), _, h => h
  | .cel _ (.obj _), _, h => ⟨h.1, e _ _ h.2⟩
  | .cel _ (.cel _ (.ob _ ns ds)), _, h => by
    obtain ⟨h1, dx, vs, h2, h3, h4, h5⟩ := h
    exact ⟨h1, dx, vs, e _ _ h2, e _ _ h3, h4, IsL.mono e ds vs h5⟩
  | .cel _ (.cel _ (.lst _)), _, h => h
  | .cel _ (.cel _ (.dic _)), _, h => h
  | .cel _ (.cel _ (.scr _)), _, h => h
  | .cel _ (.cel _ (.ty _)), _, h => h
  | .cel _ (.cel _ (.obj _)), _, h => h
  | .cel _ (.cel _ (.cel _ _)), _, h => h
  | .cel _ (.cel _ .non), _, h => h
  | .cel _ (.cel _ (.bl _)), _, h => h
  | .cel _ (.cel _ (.int _)), _, h => h
  | .cel _ (.cel _ (.str _)), _, h => h
  | .cel _ (.cel _ (.tup _)), _, h => h
  | .cel _ .non, _, h => h
  | .cel _ (.bl _), _, h => h
  | .cel _ (.int _), _, h => h
  | .cel _ (.str _), _, h => ⟨h.1, e _ _ h.2⟩
  | .ob C ns ds, v, h => by
    obtain ⟨x, dx, vs, h1, h2, h3, h4, h5⟩ := h
    exact ⟨x, dx, vs, h1, e _ _ h2, e _ _ h3, h4, IsL.mono e ds vs h5⟩
theorem IsL.mono {K : PySem.W.Frag} {S T : Hp} (e : Sub S T) : ∀ (ds : List D) (vs : List V), IsL K S ds vs → IsL K T ds vs
  | [], _, h => h
  | d :: ds, vs, h => by
    obtain ⟨v, r, h1, h2, h3⟩ := h
    exact ⟨v, r, h1, Is.mono e d v h2, IsL.mono e ds r h3⟩
theorem IsK.mono {K : PySem.W.Frag} {S T : Hp} (e : Sub S T) : ∀ (kvs : List (Key × D)) (l : List (Key × V)), IsK K S kvs l → IsK K T kvs l
  | [], _, h => h
  | kd :: r, l, h => by
    obtain ⟨v, l', h1, h2, h3⟩ := h
    exact ⟨v, l', h1, Is.mono e kd.2 v h2, IsK.mono e r l' h3⟩
theorem IsR.mono {K : PySem.W.Frag} {S T : Hp} (e : Sub S T) : ∀ (kvs : List (Key × D)), IsR K S kvs → IsR K T kvs
  | [], _ => trivial
  | kd :: r, h => by
    obtain ⟨⟨x, h1, h2⟩, h3⟩ := h
    exact ⟨⟨x, h1, Is.mono e kd.2 (.ref x) h2⟩, IsR.mono e r h3⟩
end

theorem Is.cel {K : PySem.W.Frag} {S : Hp} {a : Addr} : ∀ {x : D} {v : V}, Is K S (.cel a x) v → v = .ref a
  | .tup _, _, h => h.1
  | .lst _, _, h => h
  | .dic _, _, h => h.1
  | .ob _ _ _, _, h => h
  | .scr _, _, h => h
  | .ty _, _, h => h
  | .obj _, _, h => h.1
  | .cel _ (.ob _ _ _), _, h => h.1
  | .cel _ (.lst _), _, h => h
  | .cel _ (.dic _), _, h => h
  | .cel _ (.scr _), _, h => h
  | .cel _ (.ty _), _, h => h
  | .cel _ (.obj _), _, h => h
  | .cel _ (.cel _ _), _, h => h
  | .cel _ .non, _, h => h
  | .cel _ (.bl _), _, h => h
  | .cel _ (.int _), _, h => h
  | .cel _ (.str _), _, h => h
  | .cel _ (.tup _), _, h => h
  | .non, _, h => h
  | .bl _, _, h => h
  | .int _, _, h => h
  | .str _, _, h => h.1
/-- entries of a dict whose keys are tuples -/
def KTD (K : PySem.W.Frag) (S : Hp) : List (List Key × D) → List (List Key × V) → Prop
  | [], l => l = []
  | kd :: r, l => ∃ v l', l = (kd.1, v) :: l' ∧ Is K S kd.2 v ∧ KTD K S r l'
theorem KTD.mono {K : PySem.W.Frag} {S T : Hp} (e : Sub S T) : ∀ {kvs : List (List Key × D)} {l : List (List Key × V)}, KTD K S kvs l → KTD K T kvs l
  | [], _, h => h
  | _ :: _, _, ⟨v, l', h1, h2, h3⟩ => ⟨v, l', h1, Is.mono e _ _ h2, KTD.mono e h3⟩
def kD : Key → D
  | .inl i => .int i
  | .inr x => .str x
def entD (p : List Key × D) : D := .tup [.tup (p.1.map kD), p.2]
/-- the object itself read in H, what lies within by S -/
def Sh (K : PySem.W.Frag) (S H : Hp) : D → V → Prop
  | .lst ds, v => ∃ a vs, v = .ref a ∧ H a = some (.lst vs) ∧ IsL K S ds vs
  | .dic kvs, v => ∃ a kv, v = .ref a ∧ H a = some (.dK kv) ∧ IsK K S kvs kv
  | .ob C ns ds, v => ∃ x dx vs, v = .ref x ∧ H x = some (.ins C dx (ns.zip vs)) ∧ S dx = some (.own x) ∧ ns.length = ds.length ∧ IsL K S ds vs
  | d, v => Is K S d v
theorem Is.sh {K : PySem.W.Frag} {S H : Hp} (e : Sub S H) : ∀ {d : D} {v : V}, Is K S d v → Sh K S H d v
  | .non, _, h => h
  | .bl _, _, h => h
  | .int _, _, h => h
  | .str _, _, h => h
  | .tup _, _, h => h
  | .scr _, _, h => h
  | .ty _, _, h => h
  | .obj _, _, h => h
  | .cel _ _, _, h => h
  | .ob _ _ _, v, h => by
    obtain ⟨x, dx, vs, h1, h2, h3⟩ := h
    exact ⟨x, dx, vs, h1, e _ _ h2, h3⟩
  | .lst ds, v, h => by
    obtain ⟨a, vs, h1, h2, h3⟩ := h
    exact ⟨a, vs, h1, e _ _ h2, h3⟩
  | .dic kvs, v, h => by
    obtain ⟨a, kv, h1, h2, h3⟩ := h
    exact ⟨a, kv, h1, e _ _ h2, h3⟩

/-- a cell at a: a list or dict that this def (or a caller) may change -/
def CelAt (K : PySem.W.Frag) (S H : Hp) (a : Addr) : D → Prop
  | .lst ds => S a = none ∧ ∃ vs, H a = some (.lst vs) ∧ IsL K S ds vs
  | .dic kvs => S a = none ∧ ∃ kv, H a = some (.dK kv) ∧ IsK K S kvs kv
  | .ob C ns ds => S a = none ∧ ∃ dx vs, H a = some (.ins C dx (ns.zip vs)) ∧ S dx = some (.own a) ∧ ns.length = ds.length ∧ IsL K S ds vs
  | .obj b => b = a
  | .cel b (.lst ds) => b = a ∧ S a = none ∧ ∃ vs, H a = some (.lst vs) ∧ IsL K S ds vs
  | .cel b (.ob C ns ds) => b = a ∧ S a = none ∧ ∃ dx vs, H a = some (.ins C dx (ns.zip vs)) ∧ S dx = some (.own a) ∧ ns.length = ds.length ∧ IsL K S ds vs
  | .cel b (.cel c (.lst es)) => b = a ∧ c = a ∧ S a = none ∧ ∃ kd kvs, es = kd.map entD ∧ H a = some (.dT kvs) ∧ KTD K S kd kvs
  | _ => False
/-- a cell that says where it stands -/
theorem CelAt.adr {K : PySem.W.Frag} {S H : Hp} {a b : Addr} : ∀ {x : D}, CelAt K S H a (.cel b x) → b = a
  | .lst _, h => h.1
  | .ob _ _ _, h => h.1
  | .dic _, h => h.elim
  | .scr _, h => h.elim
  | .ty _, h => h.elim
  | .obj _, h => h.elim
  | .non, h => h.elim
  | .bl _, h => h.elim
  | .int _, h => h.elim
  | .str _, h => h.elim
  | .tup _, h => h.elim
  | .cel _ (.lst _), h => h.1
  | .cel _ (.dic _), h => h.elim
  | .cel _ (.ob _ _ _), h => h.elim
  | .cel _ (.scr _), h => h.elim
  | .cel _ (.ty _), h => h.elim
  | .cel _ (.obj _), h => h.elim
  | .cel _ (.cel _ _), h => h.elim
  | .cel _ .non, h => h.elim
  | .cel _ (.bl _), h => h.elim
  | .cel _ (.int _), h => h.elim
  | .cel _ (.str _), h => h.elim
  | .cel _ (.tup _), h => h.elim
theorem CelAt.isC {K : PySem.W.Frag} {S H T : Hp} {a b : Addr} : ∀ {x : D}, CelAt K S H a (.cel b x) → Is K T (.cel b x) (.ref a)
  | .lst _, h => congrArg V.ref h.1.symm
  | .ob _ _ _, h => congrArg V.ref h.1.symm
  | .dic _, h => h.elim
  | .scr _, h => h.elim
  | .ty _, h => h.elim
  | .obj _, h => h.elim
  | .non, h => h.elim
  | .bl _, h => h.elim
  | .int _, h => h.elim
  | .str _, h => h.elim
  | .tup _, h => h.elim
  | .cel _ (.lst _), h => congrArg V.ref h.1.symm
  | .cel _ (.dic _), h => h.elim
  | .cel _ (.ob _ _ _), h => h.elim
  | .cel _ (.scr _), h => h.elim
  | .cel _ (.ty _), h => h.elim
  | .cel _ (.obj _), h => h.elim
  | .cel _ (.cel _ _), h => h.elim
  | .cel _ .non, h => h.elim
  | .cel _ (.bl _), h => h.elim
  | .cel _ (.int _), h => h.elim
  | .cel _ (.str _), h => h.elim
  | .cel _ (.tup _), h => h.elim
/-! ### tables of the code objects of defs that make lambdas -/
structure TabR (H : Hp) (as : List Addr) (P : Addr) (q : Str) : Prop where
  nas : P ∉ as
  ex : ∃ ps : Array Value, H P = some (.tbl ps) ∧ TriplesOk ps.toList ∧ ∀ (pos : Pos) (cv : Value), codeAmong pos ps.toList = some cv → ∃ c, cv = .ref c ∧ c ∉ as ∧ H c = some (LamX.CodeO c q)
theorem TabR.keep {H H' : Hp} {as as' : List Addr} {P : Addr} {q : Str} (t : TabR H as P q) (h : ∀ b o, b ∉ as → H b = some o → b ∉ as' ∧ H' b = some o) : TabR H' as' P q := by
  obtain ⟨n, ps, e, tr, hc⟩ := t
  refine ⟨(h P _ n e).1, ps, (h P _ n e).2, tr, fun pos cv hcv => ?_⟩
  obtain ⟨c, e1, n1, e2⟩ := hc pos cv hcv
  exact ⟨c, e1, (h c _ n1 e2).1, (h c _ n1 e2).2⟩
theorem TabR.ne {H : Hp} {as : List Addr} {P p : Addr} {q : Str} (t : TabR H as P q) (hp : H p = none) : P ≠ p := by
  obtain ⟨n, ps, e, _⟩ := t
  exact ne_of_none e hp
structure Rep (K : PySem.W.Frag) (S H : Hp) (as : List Addr) (cs : Cs) : Prop where
  sub : Sub S H
  len : as.length = cs.length
  nod : as.Nodup
  cel : ∀ (n : Nat) (a : Addr) (c : D), as[n]? = some a → cs[n]? = some c → CelAt K S H a c
  liv : ∀ a ∈ as, H a ≠ none
  tab : ∀ p ∈ tabsK K, S p.1 = none ∧ TabR H as p.1 p.2
theorem Rep.notab {K : PySem.W.Frag} {S H : Hp} {as : List Addr} {cs : Cs} (r : Rep K S H as cs) {a : Addr} (ha : a ∈ as) : ∀ q ∈ tabsK K, q.1 ≠ a := fun q hq z => (r.tab q hq).2.nas (by rw [z]; exact ha)
structure Ext (S : Hp) (as : List Addr) (S' : Hp) (as' : List Addr) : Prop where
  sub : Sub S S'
  pre : ∃ more, as' = as ++ more
theorem Ext.refl {S : Hp} {as : List Addr} : Ext S as S as := ⟨Sub.refl S, [], (List.append_nil as).symm⟩
theorem Ext.trans {S T U : Hp} {as bs cs : List Addr} (a : Ext S as T bs) (b : Ext T bs U cs) : Ext S as U cs := by
  obtain ⟨m1, e1⟩ := a.pre
  obtain ⟨m2, e2⟩ := b.pre
  exact ⟨a.sub.trans b.sub, m1 ++ m2, by rw [e2, e1, List.append_assoc]⟩
theorem Ext.of {S S' : Hp} {as : List Addr} (h : Sub S S') : Ext S as S' as := ⟨h, [], (List.append_nil as).symm⟩
theorem Ext.get {S S' : Hp} {as as' : List Addr} (h : Ext S as S' as') {n : Nat} {a : Addr} (e : as[n]? = some a) : as'[n]? = some a := by
  obtain ⟨m, rfl⟩ := h.pre
  rw [List.getElem?_append_left (List.getElem?_eq_some_iff.mp e).1]
  exact e

def VZ (K : PySem.W.Frag) (S : Hp) (as : List Addr) : Z → V → Prop
  | .d x, v => Is K S x v
  | .c n, v => ∃ a, as[n]? = some a ∧ v = .ref a
theorem VZ.mono {K : PySem.W.Frag} {S S' : Hp} {as as' : List Addr} (e : Ext S as S' as') : ∀ {z : Z} {v : V}, VZ K S as z v → VZ K S' as' z v
  | .d _, _, h => Is.mono e.sub _ _ h
  | .c _, _, ⟨a, h1, h2⟩ => ⟨a, e.get h1, h2⟩
def VZL (K : PySem.W.Frag) (S : Hp) (as : List Addr) : List Z → List V → Prop
  | [], vs => vs = []
  | z :: zs, vs => ∃ v r, vs = v :: r ∧ VZ K S as z v ∧ VZL K S as zs r
theorem VZL.mono {K : PySem.W.Frag} {S S' : Hp} {as as' : List Addr} (e : Ext S as S' as') : ∀ {zs : List Z} {vs : List V}, VZL K S as zs vs → VZL K S' as' zs vs
  | [], _, h => h
  | _ :: _, _, ⟨v, r, h1, h2, h3⟩ => ⟨v, r, h1, h2.mono e, VZL.mono e h3⟩
theorem VZL.len {K : PySem.W.Frag} {S : Hp} {as : List Addr} : ∀ {zs : List Z} {vs : List V}, VZL K S as zs vs → vs.length = zs.length
  | [], _, h => by rw [h]; rfl
  | _ :: zs, _, ⟨v, r, h1, h2, h3⟩ => by rw [h1, List.length_cons, List.length_cons, VZL.len h3]

/-- what a Z holds -/
def look (cs : Cs) : Z → Option D
  | .d x => some x
  | .c n => cs[n]?
theorem look_sh {K : PySem.W.Frag} {S H : Hp} {as : List Addr} {cs : Cs} (r : Rep K S H as cs) : ∀ {z : Z} {v : V} {d : D}, VZ K S as z v → look cs z = some d → Sh K S H d v
  | .d x, v, d, h, e => by
    have e' : x = d := Option.some.inj e
    subst e'
    exact h.sh r.sub
  | .c n, v, d, ⟨a, h1, h2⟩, e => by
    have q := r.cel n a d h1 e
    subst h2
    cases d with
    | lst ds =>
      obtain ⟨_, vs, h3, h4⟩ := q
      exact ⟨a, vs, rfl, h3, h4⟩
    | dic kvs =>
      obtain ⟨_, kv, h3, h4⟩ := q
      exact ⟨a, kv, rfl, h3, h4⟩
    | ob _ _ _ =>
      obtain ⟨_, dx, vs, h3, h4⟩ := q
      exact ⟨a, dx, vs, rfl, h3, h4⟩
    | scr _ => exact q.elim
    | ty _ => exact q.elim
    | obj b => exact congrArg V.ref (show a = b from Eq.symm q)
    | cel b x => exact q.isC
    | non => exact q.elim
    | bl _ => exact q.elim
    | int _ => exact q.elim
    | str _ => exact q.elim
    | tup _ => exact q.elim

/-- the slots -/
structure EnvOk (K : PySem.W.Frag) (S : Hp) (as : List Addr) (en : En) (σ : L2.St) : Prop where
  len : σ.length = en.length
  at_ : ∀ (i : Nat) (z : Z), en[i]? = some (some z) → ∃ v, σ[i]? = some (some v) ∧ VZ K S as z v
theorem EnvOk.mono {K : PySem.W.Frag} {S S' : Hp} {as as' : List Addr} {en : En} {σ : L2.St} (h : EnvOk K S as en σ) (e : Ext S as S' as') : EnvOk K S' as' en σ :=
  ⟨h.len, fun i z q => let ⟨v, h1, h2⟩ := h.at_ i z q; ⟨v, h1, h2.mono e⟩⟩
theorem EnvOk.set {K : PySem.W.Frag} {S : Hp} {as : List Addr} {en : En} {σ : L2.St} (h : EnvOk K S as en σ) {z : Z} {v : V} (q : VZ K S as z v) (i : Nat) : EnvOk K S as (en.set i (some z)) (σ.set i (some v)) := by
  refine ⟨by rw [List.length_set, List.length_set]; exact h.len, fun j y e => ?_⟩
  by_cases hj : i = j
  · subst hj
    by_cases hi : i < en.length
    · rw [List.getElem?_set_self hi] at e
      cases e
      exact ⟨v, List.getElem?_set_self (by rw [h.len]; exact hi), q⟩
    · rw [List.getElem?_eq_none (by rw [List.length_set]; omega)] at e
      cases e
  · rw [List.getElem?_set_ne hj] at e ⊢
    exact h.at_ j y e
theorem EnvOk.forget {K : PySem.W.Frag} {S : Hp} {as : List Addr} {en : En} {σ : L2.St} (h : EnvOk K S as en σ) (i : Nat) : EnvOk K S as (en.set i none) (σ.set i none) := by
  refine ⟨by rw [List.length_set, List.length_set]; exact h.len, fun j y e => ?_⟩
  by_cases hj : i = j
  · subst hj
    by_cases hi : i < en.length
    · rw [List.getElem?_set_self hi] at e
      cases e
    · rw [List.getElem?_eq_none (by rw [List.length_set]; omega)] at e
      cases e
  · rw [List.getElem?_set_ne hj] at e ⊢
    exact h.at_ j y e
/-- slots forgotten -/
def wipeD (en : En) : List Nat → En
  | [] => en
  | i :: is => (wipeD en is).set i none
theorem EnvOk.wipe {K : PySem.W.Frag} {S : Hp} {as : List Addr} {en : En} {σ : L2.St} (h : EnvOk K S as en σ) : ∀ is : List Nat, EnvOk K S as (wipeD en is) (L2.wipe σ is)
  | [] => h
  | i :: is => (EnvOk.wipe h is).forget i

/-! ### the heap's steps -/
section
variable {K : PySem.W.Frag} {S H : Hp} {as : List Addr} {cs : Cs}
theorem CelAt.mono {S' H' : Hp} {a : Addr} (e : Sub S S') (n : S a = none → S' a = none) (k : H' a = H a) : ∀ {c : D}, CelAt K S H a c → CelAt K S' H' a c
  | .lst ds, ⟨h1, vs, h2, h3⟩ => ⟨n h1, vs, k.trans h2, IsL.mono e _ _ h3⟩
  | .dic kvs, ⟨h1, kv, h2, h3⟩ => ⟨n h1, kv, k.trans h2, IsK.mono e _ _ h3⟩
  | .ob _ _ _, ⟨h1, dx, vs, h2, h3, h4, h5⟩ => ⟨n h1, dx, vs, k.trans h2, e _ _ h3, h4, IsL.mono e _ _ h5⟩
  | .cel _ (.lst ds), ⟨h0, h1, vs, h2, h3⟩ => ⟨h0, n h1, vs, k.trans h2, IsL.mono e _ _ h3⟩
  | .cel _ (.ob _ _ _), ⟨h0, h1, dx, vs, h2, h3, h4, h5⟩ => ⟨h0, n h1, dx, vs, k.trans h2, e _ _ h3, h4, IsL.mono e _ _ h5⟩
  | .cel _ (.dic _), h => h.elim
  | .cel _ (.scr _), h => h.elim
  | .cel _ (.ty _), h => h.elim
  | .cel _ (.obj _), h => h.elim
  | .cel _ .non, h => h.elim
  | .cel _ (.bl _), h => h.elim
  | .cel _ (.int _), h => h.elim
  | .cel _ (.str _), h => h.elim
  | .cel _ (.tup _), h => h.elim
  | .cel _ (.cel _ (.lst es)), ⟨h0, h1, h2, kd, kvs, h3, h4, h5⟩ => ⟨h0, h1, n h2, kd, kvs, h3, k.trans h4, KTD.mono e h5⟩
  | .cel _ (.cel _ (.dic _)), h => h.elim
  | .cel _ (.cel _ (.ob _ _ _)), h => h.elim
  | .cel _ (.cel _ (.scr _)), h => h.elim
  | .cel _ (.cel _ (.ty _)), h => h.elim
  | .cel _ (.cel _ (.obj _)), h => h.elim
  | .cel _ (.cel _ (.cel _ _)), h => h.elim
  | .cel _ (.cel _ .non), h => h.elim
  | .cel _ (.cel _ (.bl _)), h => h.elim
  | .cel _ (.cel _ (.int _)), h => h.elim
  | .cel _ (.cel _ (.str _)), h => h.elim
  | .cel _ (.cel _ (.tup _)), h => h.elim
  | .scr _, h => h.elim
  | .ty _, h => h.elim
  | .obj _, h => h
  | .non, h => h.elim
  | .bl _, h => h.elim
  | .int _, h => h.elim
  | .str _, h => h.elim
  | .tup _, h => h.elim
/-- a new object that never changes -/
theorem Rep.lay (r : Rep K S H as cs) {p : Addr} (hp : H p = none) (o : HO) : Rep K (upd S p o) (upd H p o) as cs := by
  refine ⟨r.sub.both, r.len, r.nod, fun n a c e1 e2 => ?_, fun a ha => ?_, fun q hq => ⟨by rw [upd_ne ((r.tab q hq).2.ne hp)]; exact (r.tab q hq).1, (r.tab q hq).2.keep fun b o n e => ⟨n, by rw [upd_ne (ne_of_none e hp)]; exact e⟩⟩⟩
  · have ne : a ≠ p := fun z => by
      subst z
      exact r.liv a (List.mem_of_getElem? e1) hp
    exact CelAt.mono (Sub.new (r.sub.free hp)) (fun q => by rw [upd_ne ne]; exact q) (upd_ne ne) (r.cel n a c e1 e2)
  · by_cases e : a = p
    · subst e; rw [upd_same]; exact fun z => nomatch z
    · rw [upd_ne e]; exact r.liv a ha
theorem Rep.ext (r : Rep K S H as cs) {p : Addr} (hp : H p = none) (o : HO) : Ext S as (upd S p o) as := Ext.of (Sub.new (r.sub.free hp))
/-- a new cell -/
theorem Rep.cell (r : Rep K S H as cs) {p : Addr} (hp : H p = none) {o : HO} {c : D} (h : CelAt K S (upd H p o) p c) : Rep K S (upd H p o) (as ++ [p]) (cs ++ [c]) := by
  have hS := r.sub.free hp
  have np : p ∉ as := fun z => r.liv p z hp
  refine ⟨r.sub.other hS, by rw [List.length_append, List.length_append, r.len]; rfl, ?_, fun n a d e1 e2 => ?_, fun a ha => ?_, fun q hq => ⟨(r.tab q hq).1, (r.tab q hq).2.keep fun b o n e => ⟨fun z => ?_, by rw [upd_ne (ne_of_none e hp)]; exact e⟩⟩⟩
  rotate_right
  · rcases List.mem_append.mp z with z | z
    · exact n z
    · have z : b = p := by simpa using z
      rw [z, hp] at e
      cases e
  · exact List.nodup_append.mpr ⟨r.nod, by simp, fun x hx y hy => by
      have hy' : y = p := by simpa using hy
      subst hy'
      exact fun z => np (z ▸ hx)⟩
  · by_cases hn : n < as.length
    · rw [List.getElem?_append_left hn] at e1
      rw [List.getElem?_append_left (by rw [← r.len]; exact hn)] at e2
      have ne : a ≠ p := fun z => np (z ▸ List.mem_of_getElem? e1)
      exact CelAt.mono (Sub.refl S) (fun q => q) (upd_ne ne) (r.cel n a d e1 e2)
    · rw [List.getElem?_append_right (by omega)] at e1
      rw [List.getElem?_append_right (by rw [← r.len]; omega)] at e2
      rw [← r.len] at e2
      have hz : n - as.length = 0 := by
        have := (List.getElem?_eq_some_iff.mp e1).1
        simp at this
        omega
      rw [hz] at e1 e2
      cases e1
      cases e2
      exact h
  · rcases List.mem_append.mp ha with ha | ha
    · by_cases e : a = p
      · subst e; rw [upd_same]; exact fun z => nomatch z
      · rw [upd_ne e]; exact r.liv a ha
    · have : a = p := by simpa using ha
      subst this
      rw [upd_same]
      exact fun z => nomatch z
/-- a cell is written -/
theorem Rep.put (r : Rep K S H as cs) {n : Nat} {a : Addr} (hn : as[n]? = some a) {o : HO} {c : D} (h : CelAt K S (upd H a o) a c) (hS : S a = none) : Rep K S (upd H a o) as (cs.set n c) := by
  refine ⟨r.sub.other hS, by rw [List.length_set]; exact r.len, r.nod, fun m b d e1 e2 => ?_, fun b hb => ?_, fun q hq => ⟨(r.tab q hq).1, (r.tab q hq).2.keep fun b o n' e => ⟨n', by rw [upd_ne (fun z => n' (by rw [z]; exact List.mem_of_getElem? hn))]; exact e⟩⟩⟩
  · by_cases hm : n = m
    · subst hm
      rw [hn] at e1; cases e1
      have hl : n < cs.length := by rw [← r.len]; exact (List.getElem?_eq_some_iff.mp hn).1
      rw [List.getElem?_set_self hl] at e2; cases e2
      exact h
    · rw [List.getElem?_set_ne hm] at e2
      have ne : b ≠ a := fun z => by
        subst z
        exact hm (nd_ix r.nod hn e1)
      exact CelAt.mono (Sub.refl S) (fun q => q) (upd_ne ne) (r.cel m b d e1 e2)
  · by_cases e : b = a
    · subst e; rw [upd_same]; exact fun z => nomatch z
    · rw [upd_ne e]; exact r.liv b hb
/-- the last cells forgotten -/
theorem Rep.take (r : Rep K S H as cs) (n : Nat) : Rep K S H (as.take n) (cs.take n) := by
  refine ⟨r.sub, by rw [List.length_take, List.length_take, r.len], r.nod.sublist (List.take_sublist _ _), fun m b d e1 e2 => ?_, fun b hb => r.liv b (List.mem_of_mem_take hb), fun q hq => ⟨(r.tab q hq).1, (r.tab q hq).2.keep fun b o n e => ⟨fun z => n (List.mem_of_mem_take z), e⟩⟩⟩
  rw [List.getElem?_take] at e1 e2
  split at e1
  · rename_i hm
    rw [if_pos hm] at e2
    exact r.cel m b d e1 e2
  · cases e1
theorem Ext.take {S S' : Hp} {as as' : List Addr} (e : Ext S as S' as') : Ext S as S' (as'.take as.length) := by
  obtain ⟨m, rfl⟩ := e.pre
  exact ⟨e.sub, [], by rw [List.take_left, List.append_nil]⟩
end

/-! ### lists of data -/
section
variable {K : PySem.W.Frag} {S : Hp}
theorem IsL.len : ∀ {ds : List D} {vs : List V}, IsL K S ds vs → vs.length = ds.length
  | [], _, h => by rw [IsL] at h; rw [h]; rfl
  | _ :: _, _, h => by
    obtain ⟨v, r, h1, h2, h3⟩ := h
    rw [h1, List.length_cons, List.length_cons, IsL.len h3]
theorem IsL.get : ∀ {ds : List D} {vs : List V} {i : Nat} {d : D}, IsL K S ds vs → ds[i]? = some d → ∃ v, vs[i]? = some v ∧ Is K S d v
  | [], _, _, _, _, e => by simp at e
  | _ :: _, _, 0, _, h, e => by
    obtain ⟨v, r, h1, h2, h3⟩ := h
    have e' := Option.some.inj e
    subst e' h1
    exact ⟨v, rfl, h2⟩
  | _ :: _, _, i + 1, _, h, e => by
    obtain ⟨v, r, h1, h2, h3⟩ := h
    subst h1
    exact IsL.get (i := i) h3 e
theorem IsL.back : ∀ {ds : List D} {vs : List V} {i : Nat} {v : V}, IsL K S ds vs → vs[i]? = some v → ∃ d, ds[i]? = some d ∧ Is K S d v
  | [], _, _, _, h, e => by rw [IsL] at h; rw [h] at e; simp at e
  | d :: _, _, 0, _, h, e => by
    obtain ⟨v, r, h1, h2, h3⟩ := h
    subst h1
    have e' := Option.some.inj e
    subst e'
    exact ⟨d, rfl, h2⟩
  | _ :: _, _, i + 1, _, h, e => by
    obtain ⟨v, r, h1, h2, h3⟩ := h
    subst h1
    exact IsL.back (i := i) h3 e
theorem IsL.append : ∀ {ds es : List D} {vs us : List V}, IsL K S ds vs → IsL K S es us → IsL K S (ds ++ es) (vs ++ us)
  | [], _, _, _, h, g => by rw [IsL] at h; rw [h]; exact g
  | _ :: _, _, _, _, h, g => by
    obtain ⟨v, r, h1, h2, h3⟩ := h
    subst h1
    exact ⟨v, _, rfl, h2, IsL.append h3 g⟩
theorem IsL.set : ∀ {ds : List D} {vs : List V} {i : Nat} {d : D} {v : V}, IsL K S ds vs → Is K S d v → IsL K S (ds.set i d) (vs.set i v)
  | [], _, _, _, _, h, _ => by rw [IsL] at h; rw [h]; exact rfl
  | _ :: _, _, 0, _, _, h, g => by
    obtain ⟨v, r, h1, h2, h3⟩ := h
    subst h1
    exact ⟨_, r, rfl, g, h3⟩
  | _ :: _, _, i + 1, _, _, h, g => by
    obtain ⟨v, r, h1, h2, h3⟩ := h
    subst h1
    exact ⟨v, _, rfl, h2, IsL.set (i := i) h3 g⟩
theorem IsL.take : ∀ {ds : List D} {vs : List V} (n : Nat), IsL K S ds vs → IsL K S (ds.take n) (vs.take n)
  | _, _, 0, _ => rfl
  | [], _, n + 1, h => by rw [IsL] at h; rw [h]; exact rfl
  | _ :: _, _, n + 1, h => by
    obtain ⟨v, r, h1, h2, h3⟩ := h
    subst h1
    exact ⟨v, _, rfl, h2, IsL.take n h3⟩
theorem IsL.drop : ∀ {ds : List D} {vs : List V} (n : Nat), IsL K S ds vs → IsL K S (ds.drop n) (vs.drop n)
  | _, _, 0, h => h
  | [], _, n + 1, h => by rw [IsL] at h; rw [h]; exact rfl
  | _ :: _, _, n + 1, h => by
    obtain ⟨v, r, h1, h2, h3⟩ := h
    subst h1
    exact IsL.drop n h3
theorem IsL.ints : ∀ {ns : List Int} {vs : List V}, IsL K S (ns.map D.int) vs → vs = ns.map V.int
  | [], _, h => h
  | n :: ns, _, h => by
    obtain ⟨v, r, h1, h2, h3⟩ := h
    rw [h1, List.map_cons, IsL.ints h3]
    rw [Is] at h2
    rw [h2]
theorem isL_ints : ∀ (ns : List Int), IsL K S (ns.map D.int) (ns.map V.int)
  | [] => rfl
  | n :: ns => ⟨.int n, _, rfl, rfl, isL_ints ns⟩
theorem IsL.bls : ∀ {ns : List Bool} {vs : List V}, IsL K S (ns.map D.bl) vs → vs = ns.map V.bl
  | [], _, h => h
  | n :: ns, _, h => by
    obtain ⟨v, r, h1, h2, h3⟩ := h
    rw [h1, List.map_cons, IsL.bls h3]
    rw [Is] at h2
    rw [h2]
theorem IsL.rep : ∀ {ds : List D} {vs : List V} (n : Nat), IsL K S ds vs → IsL K S (List.replicate n ds).flatten (List.replicate n vs).flatten
  | _, _, 0, _ => rfl
  | ds, vs, n + 1, h => by
    rw [List.replicate_succ, List.replicate_succ, List.flatten_cons, List.flatten_cons]
    exact h.append (IsL.rep n h)
end
/-! ### dicts -/
def getK (kvs : List (Key × D)) (k : Key) : Option D := (kvs.find? fun kv => decide (kv.1 = k)).map (·.2)
def setK (kvs : List (Key × D)) (k : Key) (d : D) : List (Key × D) := if (kvs.any fun kv => decide (kv.1 = k)) = true then kvs.map fun kv => if kv.1 = k then (kv.1, d) else kv else kvs ++ [(k, d)]
end DL
set_option Elab.async false
set_option linter.all false
set_option maxRecDepth 100000
set_option maxHeartbeats 2000000
namespace DL
open PySem L2

/-! ### what a reading over data says of a reading over values -/
def PQ (K : PySem.W.Frag) (S : Hp) (as : List Addr) (k : Z → Cs → Prop) (Q : VK) : Prop :=
  ∀ (z : Z) (v : V) (S' H' : Hp) (as' : List Addr) (cs' : Cs), Ext S as S' as' → Rep K S' H' as' cs' → VZ K S' as' z v → k z cs' → Q v H'
def PB (K : PySem.W.Frag) (S : Hp) (as : List Addr) (k : Bool → Cs → Prop) (Q : Bool → Hp → Prop) : Prop :=
  ∀ (b : Bool) (S' H' : Hp) (as' : List Addr) (cs' : Cs), Ext S as S' as' → Rep K S' H' as' cs' → k b cs' → Q b H'
def PL (K : PySem.W.Frag) (S : Hp) (as : List Addr) (k : List Z → Cs → Prop) (Q : List V → Hp → Prop) : Prop :=
  ∀ (zs : List Z) (vs : List V) (S' H' : Hp) (as' : List Addr) (cs' : Cs), Ext S as S' as' → Rep K S' H' as' cs' → VZL K S' as' zs vs → k zs cs' → Q vs H'
def SemE (K : PySem.W.Frag) (te : TE) (t : DE) : Prop :=
  ∀ (σ : L2.St) (H S : Hp) (as : List Addr) (en : En) (cs : Cs) (k : Z → Cs → Prop) (Q : VK), Rep K S H as cs → EnvOk K S as en σ → t en cs k → PQ K S as k Q → te σ H Q
def SemT (K : PySem.W.Frag) (tt : TT) (t : DT) : Prop :=
  ∀ (σ : L2.St) (H S : Hp) (as : List Addr) (en : En) (cs : Cs) (k : Bool → Cs → Prop) (Q : Bool → Hp → Prop), Rep K S H as cs → EnvOk K S as en σ → t en cs k → PB K S as k Q → tt σ H Q
def SemA (K : PySem.W.Frag) (ta : TA) (t : DA) : Prop :=
  ∀ (σ : L2.St) (H S : Hp) (as : List Addr) (en : En) (cs : Cs) (k : List Z → Cs → Prop) (Q : List V → Hp → Prop), Rep K S H as cs → EnvOk K S as en σ → t en cs k → PL K S as k Q → ta σ H Q
structure QE (X : Cx) (e : Expr) (te : TE) (t : DE) : Prop where
  pe : PE X e te
  sem : SemE X.K te t
structure QT (X : Cx) (e : Expr) (tt : TT) (t : DT) : Prop where
  pt : PT X e tt
  sem : SemT X.K tt t
structure QA (X : Cx) (es : List Expr) (ta : TA) (t : DA) : Prop where
  pa : PA X es ta
  sem : SemA X.K ta t

section
variable {K : PySem.W.Frag} {S T H : Hp} {as bs : List Addr} {cs : Cs}
theorem PQ.mono {k : Z → Cs → Prop} {Q : VK} (e : Ext S as T bs) (h : PQ K S as k Q) : PQ K T bs k Q := fun z v S' H' as' cs' e' => h z v S' H' as' cs' (e.trans e')
theorem PB.mono {k : Bool → Cs → Prop} {Q : Bool → Hp → Prop} (e : Ext S as T bs) (h : PB K S as k Q) : PB K T bs k Q := fun b S' H' as' cs' e' => h b S' H' as' cs' (e.trans e')
theorem PL.mono {k : List Z → Cs → Prop} {Q : List V → Hp → Prop} (e : Ext S as T bs) (h : PL K S as k Q) : PL K T bs k Q := fun z v S' H' as' cs' e' => h z v S' H' as' cs' (e.trans e')
theorem SemE.use {te : TE} {t : DE} (h : SemE K te t) {σ : L2.St} {en : En} {k : Z → Cs → Prop} {Q : VK} (r : Rep K S H as cs) (e : EnvOk K S as en σ) (q : t en cs k) (p : PQ K S as k Q) : te σ H Q := h σ H S as en cs k Q r e q p
end

/-! ### what a Z holds, for an operation -/
def withD (cs : Cs) (z : Z) (k : D → Prop) : Prop :=
  match z with
  | .d x => k x
  | .c n => match cs[n]? with
    | some x => k x
    | none => False
theorem withD_look {cs : Cs} {z : Z} {k : D → Prop} (h : withD cs z k) : ∃ d, look cs z = some d ∧ k d := by
  cases z with
  | d x => exact ⟨x, rfl, h⟩
  | c n =>
    have h' : (match cs[n]? with
      | some x => k x
      | none => False) := h
    show ∃ d, cs[n]? = some d ∧ k d
    cases e : cs[n]? with
    | none => rw [e] at h'; exact h'.elim
    | some x => rw [e] at h'; exact ⟨x, rfl, h'⟩
def withL (cs : Cs) : List Z → (List D → Prop) → Prop
  | [], k => k []
  | z :: zs, k => withD cs z fun x => withL cs zs fun xs => k (x :: xs)
/-- plain data, no cell -/
def datL : List Z → (List D → Prop) → Prop
  | [], k => k []
  | .d x :: zs, k => datL zs fun xs => k (x :: xs)
  | .c _ :: _, _ => False
def ShL (K : PySem.W.Frag) (S H : Hp) : List D → List V → Prop
  | [], vs => vs = []
  | d :: ds, vs => ∃ v r, vs = v :: r ∧ Sh K S H d v ∧ ShL K S H ds r
section
variable {K : PySem.W.Frag} {S H : Hp} {as : List Addr} {cs : Cs}
theorem withL_sh (r : Rep K S H as cs) : ∀ {zs : List Z} {vs : List V} {k : List D → Prop}, VZL K S as zs vs → withL cs zs k → ∃ ds, ShL K S H ds vs ∧ k ds
  | [], _, _, h, q => by rw [h]; exact ⟨[], rfl, q⟩
  | z :: zs, _, _, ⟨v, vr, h1, h2, h3⟩, q => by
    obtain ⟨d, e, q⟩ := withD_look q
    obtain ⟨ds, s, q⟩ := withL_sh r h3 q
    exact ⟨d :: ds, ⟨v, vr, h1, look_sh r h2 e, s⟩, q⟩
theorem datL_is : ∀ {zs : List Z} {vs : List V} {k : List D → Prop}, VZL K S as zs vs → datL zs k → ∃ ds, IsL K S ds vs ∧ k ds
  | [], _, _, h, q => by rw [h]; exact ⟨[], rfl, q⟩
  | .d x :: zs, _, _, ⟨v, vr, h1, h2, h3⟩, q => by
    obtain ⟨ds, s, q⟩ := datL_is h3 q
    exact ⟨x :: ds, ⟨v, vr, h1, h2, s⟩, q⟩
  | .c _ :: _, _, _, _, q => q.elim
end

/-! ### names, constants -/
def dVar (i : Nat) : DE := fun en cs k =>
  match en[i]? with
  | some (some z) => k z cs
  | _ => False
def dC (x : D) : DE := fun _ cs k => k (.d x) cs
section
variable {X : Cx} {pos : Pos}
theorem sem_var {K : PySem.W.Frag} (i : Nat) : SemE K (tVar i) (dVar i) := by
  intro σ H S as en cs k Q r e h p
  unfold dVar at h
  split at h
  · rename_i z hz
    obtain ⟨v, h1, h2⟩ := e.at_ i z hz
    exact ⟨v, h1, p z v S H as cs Ext.refl r h2 h⟩
  · exact h.elim
theorem sem_c {K : PySem.W.Frag} {x : D} {v : V} (h : ∀ S, Is K S x v) : SemE K (tC v) (dC x) := fun σ H S as en cs k Q r e q p => p (.d x) v S H as cs Ext.refl r (h S) q
theorem qv (i : Nat) {x : Str} (hN : X.N[i]? = some x := by rfl) (hv : Vis X.env.scope x := by first | exact Or.inl rfl | exact Or.inr (Or.inl rfl) | exact Or.inr (Or.inr rfl)) (hd : (x == ("__debug__" : Str)) = false := by decide)
    (hcd : (x == ("__classdict__" : Str)) = false := by decide) : QE X (.Name x pos) (tVar i) (dVar i) := ⟨pe_var hN hv hd hcd, sem_var i⟩
theorem q_int {i : Int} {j} : QE X (.Constant (.int i) j pos) (tC (.int i)) (dC (.int i)) := ⟨pe_int, sem_c fun _ => rfl⟩
theorem q_bl {b : Bool} {j} : QE X (.Constant (.bool b) j pos) (tC (.bl b)) (dC (.bl b)) := ⟨pe_bl, sem_c fun _ => rfl⟩
theorem q_non {j} : QE X (.Constant .none j pos) (tC .non) (dC .non) := ⟨pe_non, sem_c fun _ => rfl⟩
/-- a module's int -/
theorem q_gint {x : Str} {n : Int} (hm : ∃ t, X.mg x = some (.int n t)) (hg : Gl X x := by rfl) (hd : (x == ("__debug__" : Str)) = false := by decide) : QE X (.Name x pos) (tC (.int n)) (dC (.int n)) := by
  obtain ⟨t, h⟩ := hm
  exact ⟨pe_glob hg h ⟨t, rfl⟩ hd, sem_c fun _ => rfl⟩

/-! ### two-place operations -/
def Op2 (K : PySem.W.Frag) (r : R2) (f : D → D → (D → Prop) → Prop) : Prop :=
  ∀ (S H : Hp) (as : List Addr) (cs : Cs) (dx dy : D) (x y : V) (k : D → Prop) (Q : VK), Rep K S H as cs → Sh K S H dx x → Sh K S H dy y → f dx dy k →
    (∀ (z : D) (v : V) (S' H' : Hp), Sub S S' → Rep K S' H' as cs → Is K S' z v → k z → Q v H') → r x y H Q
def dOp (f : D → D → (D → Prop) → Prop) (a b : DE) : DE := fun en cs k => a en cs fun x cs1 => b en cs1 fun y cs2 => withD cs2 x fun dx => withD cs2 y fun dy => f dx dy fun z => k (.d z) cs2
theorem sem_op {K : PySem.W.Frag} {r : R2} {f : D → D → (D → Prop) → Prop} {ta tb : TE} {da db : DE} (h : Op2 K r f) (ha : SemE K ta da) (hb : SemE K tb db) : SemE K (tOp r ta tb) (dOp f da db) := by
  intro σ H S as en cs k Q rp e q p
  refine ha.use rp e q fun z v S1 H1 as1 cs1 e1 r1 v1 q1 => ?_
  refine hb.use r1 (e.mono e1) q1 fun z2 v2 S2 H2 as2 cs2 e2 r2 w2 q2 => ?_
  obtain ⟨dx, l1, q2⟩ := withD_look q2
  obtain ⟨dy, l2, q2⟩ := withD_look q2
  refine h S2 H2 as2 cs2 dx dy v v2 _ Q r2 (look_sh r2 (v1.mono e2) l1) (look_sh r2 w2 l2) q2 fun z w S' H' s' r' i' k' => ?_
  exact p (.d z) w S' H' as2 cs2 ((e1.trans e2).trans (Ext.of s')) r' i' k'
theorem q_op {op : Operator} {r : R2} {f : D → D → (D → Prop) → Prop} {a b : Expr} {ta tb : TE} {da db : DE} (ho : OpR X (binaryOp op) r) (h : Op2 X.K r f) (ha : QE X a ta da) (hb : QE X b tb db) : QE X (.BinOp a op b pos) (tOp r ta tb) (dOp f da db) :=
  ⟨pe_op ho ha.pe hb.pe, sem_op h ha.sem hb.sem⟩
theorem q_cmp {op : CmpOp} {r : R2} {f : D → D → (D → Prop) → Prop} {a b : Expr} {ta tb : TE} {da db : DE} (ho : OpR X (compareOp op) r) (h : Op2 X.K r f) (ha : QE X a ta da) (hb : QE X b tb db) (hm : behindInMarks op b = false) : QE X (.Compare a [op] [b] pos) (tOp r ta tb) (dOp f da db) :=
  ⟨pe_cmpR ho ha.pe hb.pe hm, sem_op h ha.sem hb.sem⟩
theorem q_ix {r : R2} {f : D → D → (D → Prop) → Prop} {a b : Expr} {ta tb : TE} {da db : DE} (ho : IxR X r) (h : Op2 X.K r f) (ha : QE X a ta da) (hb : QE X b tb db) (hs : PlainIx b) : QE X (.Subscript a b pos) (tOp r ta tb) (dOp f da db) :=
  ⟨pe_ix ho ha.pe hb.pe hs, sem_op h ha.sem hb.sem⟩
/-- a op b op' c -/
def dChain (f g : D → D → (D → Prop) → Prop) (a b c : DE) : DE := fun en cs k => a en cs fun x cs1 => b en cs1 fun y cs2 => withD cs2 x fun dx => withD cs2 y fun dy => f dx dy fun z => ∃ q, z = .bl q ∧
  if q = true then c en cs2 fun w cs3 => withD cs3 y fun dy => withD cs3 w fun dw => g dy dw fun z => k (.d z) cs3 else k (.d (.bl false)) cs2
theorem q_chain {op op' : CmpOp} {r r' : R2} {f g : D → D → (D → Prop) → Prop} {a b c : Expr} {ta tb tc : TE} {da db dc : DE} (ho : OpR X (compareOp op) r) (ho' : OpR X (compareOp op') r') (h : Op2 X.K r f) (h' : Op2 X.K r' g) (ha : QE X a ta da) (hb : QE X b tb db) (hc : QE X c tc dc) (hm : lastMarks [op, op'] [b, c] = false := by with_unfolding_all rfl) :
    QE X (.Compare a [op, op'] [b, c] pos) (tChain r r' ta tb tc) (dChain f g da db dc) := by
  refine ⟨pe_chain ho ho' ha.pe hb.pe hc.pe (hm := hm), ?_⟩
  intro σ H S as en cs k Q rp e q p
  refine ha.sem.use rp e q fun z v S1 H1 as1 cs1 e1 r1 v1 q1 => ?_
  refine hb.sem.use r1 (e.mono e1) q1 fun z2 v2 S2 H2 as2 cs2 e2 r2 w2 q2 => ?_
  obtain ⟨dx, l1, q2⟩ := withD_look q2
  obtain ⟨dy, l2, q2⟩ := withD_look q2
  refine h S2 H2 as2 cs2 dx dy v v2 _ _ r2 (look_sh r2 (v1.mono e2) l1) (look_sh r2 w2 l2) q2 fun z w S3 H3 s3 r3 i3 k3 => ?_
  obtain ⟨b, eb, k3⟩ := k3
  subst eb
  refine ⟨b, i3, ?_⟩
  cases b with
  | true =>
    rw [if_pos rfl] at k3 ⊢
    have e3 : Ext S2 as2 S3 as2 := Ext.of s3
    refine hc.sem.use r3 ((e.mono (e1.trans e2)).mono e3) k3 fun z4 v4 S4 H4 as4 cs4 e4 r4 w4 q4 => ?_
    obtain ⟨dy', l3, q4⟩ := withD_look q4
    obtain ⟨dw, l4, q4⟩ := withD_look q4
    refine h' S4 H4 as4 cs4 dy' dw v2 v4 _ Q r4 (look_sh r4 (w2.mono (e3.trans e4)) l3) (look_sh r4 w4 l4) q4 fun z w S' H' s' r' i' k' => ?_
    exact p (.d z) w S' H' as4 cs4 ((((e1.trans e2).trans e3).trans e4).trans (Ext.of s')) r' i' k'
  | false =>
    rw [if_neg Bool.false_ne_true] at k3 ⊢
    exact p (.d (.bl false)) (.bl false) S3 H3 as2 cs2 ((e1.trans e2).trans (Ext.of s3)) r3 rfl k3
/-- -a -/
def Op1 (K : PySem.W.Frag) (r : V → Hp → VK → Prop) (f : D → (D → Prop) → Prop) : Prop :=
  ∀ (S H : Hp) (as : List Addr) (cs : Cs) (dx : D) (x : V) (k : D → Prop) (Q : VK), Rep K S H as cs → Sh K S H dx x → f dx k →
    (∀ (z : D) (v : V) (S' H' : Hp), Sub S S' → Rep K S' H' as cs → Is K S' z v → k z → Q v H') → r x H Q
def dUn (f : D → (D → Prop) → Prop) (a : DE) : DE := fun en cs k => a en cs fun x cs1 => withD cs1 x fun dx => f dx fun z => k (.d z) cs1
theorem sem_un {K : PySem.W.Frag} {r : V → Hp → VK → Prop} {f : D → (D → Prop) → Prop} {ta : TE} {da : DE} (h : Op1 K r f) (ha : SemE K ta da) : SemE K (tUn r ta) (dUn f da) := by
  intro σ H S as en cs k Q rp e q p
  refine ha.use rp e q fun z v S1 H1 as1 cs1 e1 r1 v1 q1 => ?_
  obtain ⟨dx, l1, q1⟩ := withD_look q1
  refine h S1 H1 as1 cs1 dx v _ Q r1 (look_sh r1 v1 l1) q1 fun z w S' H' s' r' i' k' => ?_
  exact p (.d z) w S' H' as1 cs1 (e1.trans (Ext.of s')) r' i' k'
theorem q_un {op : UnaryOp} {r : V → Hp → VK → Prop} {f : D → (D → Prop) → Prop} {a : Expr} {ta : TE} {da : DE} (ho : UnR X (unaryOp op) r) (h : Op1 X.K r f) (ha : QE X a ta da) : QE X (.UnaryOp op a pos) (tUn r ta) (dUn f da) := ⟨pe_un ho ha.pe, sem_un h ha.sem⟩

/-! ### tests -/
/-- an expression whose value is a bool, as a test -/
def dB (a : DE) : DT := fun en cs k => a en cs fun x cs1 => ∃ b, x = .d (.bl b) ∧ k b cs1
theorem q_val {a : Expr} {ta : TE} {da : DE} (ha : QE X a ta da) (he : ∀ whole, isTrue a X.env whole = (do let v ← whole; standAt a.pos; holding [v] (truthy v)) := by intro _; rfl) : QT X a (tB ta) (dB da) := by
  refine ⟨pt_val ha.pe he, ?_⟩
  intro σ H S as en cs k Q rp e q p
  refine ha.sem.use rp e q fun z v S1 H1 as1 cs1 e1 r1 v1 q1 => ?_
  obtain ⟨b, rfl, q1⟩ := q1
  exact ⟨b, v1, p b S1 H1 as1 cs1 e1 r1 q1⟩
theorem q_cmpT {op : CmpOp} {r : R2} {f : D → D → (D → Prop) → Prop} {a b : Expr} {ta tb : TE} {da db : DE} (ho : OpR X (compareOp op) r) (h : Op2 X.K r f) (ha : QE X a ta da) (hb : QE X b tb db) (hm : behindInMarks op b = false) : QT X (.Compare a [op] [b] pos) (tTest (tOp r ta tb)) (dB (dOp f da db)) := by
  refine ⟨pt_cmpR ho ha.pe hb.pe hm, ?_⟩
  intro σ H S as en cs k Q rp e q p
  refine (sem_op h ha.sem hb.sem).use rp e q fun z v S1 H1 as1 cs1 e1 r1 v1 q1 => ?_
  obtain ⟨b, rfl, q1⟩ := q1
  exact ⟨b, v1, p b S1 H1 as1 cs1 e1 r1 q1⟩
theorem q_chainT {op op' : CmpOp} {r r' : R2} {f g : D → D → (D → Prop) → Prop} {a b c : Expr} {ta tb tc : TE} {da db dc : DE} (ho : OpR X (compareOp op) r) (ho' : OpR X (compareOp op') r') (h : Op2 X.K r f) (h' : Op2 X.K r' g) (ha : QE X a ta da) (hb : QE X b tb db) (hc : QE X c tc dc) (hm : lastMarks [op, op'] [b, c] = false := by with_unfolding_all rfl) :
    QT X (.Compare a [op, op'] [b, c] pos) (tTest (tChain r r' ta tb tc)) (dB (dChain f g da db dc)) := by
  refine ⟨pt_chain ho ho' ha.pe hb.pe hc.pe (hm := hm), ?_⟩
  intro σ H S as en cs k Q rp e q p
  refine (q_chain (pos := pos) ho ho' h h' ha hb hc hm).sem.use rp e q fun z v S1 H1 as1 cs1 e1 r1 v1 q1 => ?_
  obtain ⟨b, rfl, q1⟩ := q1
  exact ⟨b, v1, p b S1 H1 as1 cs1 e1 r1 q1⟩
def dNot (t : DT) : DT := fun en cs k => t en cs fun b cs1 => k (!b) cs1
theorem q_notT {a : Expr} {ta : TT} {da : DT} (ha : QT X a ta da) : QT X (.UnaryOp .Not a pos) (tNot ta) (dNot da) := by
  refine ⟨pt_not ha.pt, ?_⟩
  intro σ H S as en cs k Q rp e q p
  exact ha.sem σ H S as en cs _ _ rp e q fun b S1 H1 as1 cs1 e1 r1 q1 => p (!b) S1 H1 as1 cs1 e1 r1 q1
/-- and, or within a test -/
structure QW (X : Cx) (e : Expr) (tt : TT) (t : DT) : Prop where
  pw : PW X e tt
  sem : SemT X.K tt t
theorem QW.t {e : Expr} {tt : TT} {t : DT} (h : QW X e tt t) : QT X e tt t := ⟨h.pw.pt, h.sem⟩
def dAnd (t u : DT) : DT := fun en cs k => t en cs fun b cs1 => if b = true then u en cs1 k else k false cs1
def dOr (t u : DT) : DT := fun en cs k => t en cs fun b cs1 => if b = true then k true cs1 else u en cs1 k
theorem q_and1 {a : Expr} {ta : TT} {da : DT} (ha : QT X a ta da) : QW X (.BoolOp .And [a] pos) ta da := ⟨pw_and1 ha.pt, ha.sem⟩
theorem q_or1 {a : Expr} {ta : TT} {da : DT} (ha : QT X a ta da) : QW X (.BoolOp .Or [a] pos) ta da := ⟨pw_or1 ha.pt, ha.sem⟩
theorem q_andT {a b : Expr} {rest : List Expr} {ta tb : TT} {da db : DT} (ha : QT X a ta da) (hb : QW X (.BoolOp .And (b :: rest) pos) tb db) : QW X (.BoolOp .And (a :: b :: rest) pos) (tAnd ta tb) (dAnd da db) := by
  refine ⟨pw_and ha.pt hb.pw, ?_⟩
  intro σ H S as en cs k Q rp e q p
  refine ha.sem σ H S as en cs _ _ rp e q fun b S1 H1 as1 cs1 e1 r1 q1 => ?_
  cases b with
  | true =>
    rw [if_pos rfl] at q1 ⊢
    exact hb.sem σ H1 S1 as1 en cs1 k Q r1 (e.mono e1) q1 (p.mono e1)
  | false =>
    rw [if_neg Bool.false_ne_true] at q1 ⊢
    exact p false S1 H1 as1 cs1 e1 r1 q1
theorem q_orT {a b : Expr} {rest : List Expr} {ta tb : TT} {da db : DT} (ha : QT X a ta da) (hb : QW X (.BoolOp .Or (b :: rest) pos) tb db) : QW X (.BoolOp .Or (a :: b :: rest) pos) (tOr ta tb) (dOr da db) := by
  refine ⟨pw_or ha.pt hb.pw, ?_⟩
  intro σ H S as en cs k Q rp e q p
  refine ha.sem σ H S as en cs _ _ rp e q fun b S1 H1 as1 cs1 e1 r1 q1 => ?_
  cases b with
  | true =>
    rw [if_pos rfl] at q1 ⊢
    exact p true S1 H1 as1 cs1 e1 r1 q1
  | false =>
    rw [if_neg Bool.false_ne_true] at q1 ⊢
    exact hb.sem σ H1 S1 as1 en cs1 k Q r1 (e.mono e1) q1 (p.mono e1)
/-- and, or, not as values: all but the last a bool -/
def dAndV (a b : DE) : DE := fun en cs k => a en cs fun x cs1 => ∃ c, x = .d (.bl c) ∧ if c = true then b en cs1 k else k (.d (.bl false)) cs1
def dOrV (a b : DE) : DE := fun en cs k => a en cs fun x cs1 => ∃ c, x = .d (.bl c) ∧ if c = true then k (.d (.bl true)) cs1 else b en cs1 k
def dNotV (a : DE) : DE := fun en cs k => a en cs fun x cs1 => ∃ c, x = .d (.bl c) ∧ k (.d (.bl (!c))) cs1
theorem q_one {op : BoolOp} {a : Expr} {ta : TE} {da : DE} (ha : QE X a ta da) : QE X (.BoolOp op [a] pos) ta da := ⟨pe_one ha.pe, ha.sem⟩
theorem q_and {a b : Expr} {rest : List Expr} {ta tb : TE} {da db : DE} (ha : QE X a ta da) (hb : QE X (.BoolOp .And (b :: rest) pos) tb db) : QE X (.BoolOp .And (a :: b :: rest) pos) (tAndV ta tb) (dAndV da db) := by
  refine ⟨pe_and ha.pe hb.pe, ?_⟩
  intro σ H S as en cs k Q rp e q p
  refine ha.sem.use rp e q fun z v S1 H1 as1 cs1 e1 r1 v1 q1 => ?_
  obtain ⟨c, rfl, q1⟩ := q1
  refine ⟨c, v1, ?_⟩
  cases c with
  | true =>
    rw [if_pos rfl] at q1 ⊢
    exact hb.sem.use r1 (e.mono e1) q1 (p.mono e1)
  | false =>
    rw [if_neg Bool.false_ne_true] at q1 ⊢
    exact p (.d (.bl false)) (.bl false) S1 H1 as1 cs1 e1 r1 rfl q1
theorem q_not {a : Expr} {ta : TE} {da : DE} (ha : QE X a ta da) : QE X (.UnaryOp .Not a pos) (tNotV ta) (dNotV da) := by
  refine ⟨pe_not ha.pe, ?_⟩
  intro σ H S as en cs k Q rp e q p
  refine ha.sem.use rp e q fun z v S1 H1 as1 cs1 e1 r1 v1 q1 => ?_
  obtain ⟨c, rfl, q1⟩ := q1
  exact ⟨c, v1, p (.d (.bl (!c))) (.bl (!c)) S1 H1 as1 cs1 e1 r1 rfl q1⟩
/-- a if t else b -/
def dIf (t : DT) (a b : DE) : DE := fun en cs k => t en cs fun c cs1 => if c = true then a en cs1 k else b en cs1 k
theorem q_ifExp {c a b : Expr} {tc : TT} {ta tb : TE} {dc : DT} {da db : DE} (hc : QT X c tc dc) (ha : QE X a ta da) (hb : QE X b tb db) : QE X (.IfExp c a b pos) (tIf tc ta tb) (dIf dc da db) := by
  refine ⟨pe_ifExp hc.pt ha.pe hb.pe, ?_⟩
  intro σ H S as en cs k Q rp e q p
  refine hc.sem σ H S as en cs _ _ rp e q fun b S1 H1 as1 cs1 e1 r1 q1 => ?_
  cases b with
  | true =>
    rw [if_pos rfl] at q1 ⊢
    exact ha.sem.use r1 (e.mono e1) q1 (p.mono e1)
  | false =>
    rw [if_neg Bool.false_ne_true] at q1 ⊢
    exact hb.sem.use r1 (e.mono e1) q1 (p.mono e1)

/-! ### arguments, displays -/
def dNil : DA := fun _ cs k => k [] cs
def dCons (a : DE) (r : DA) : DA := fun en cs k => a en cs fun x cs1 => r en cs1 fun xs cs2 => k (x :: xs) cs2
theorem qa_nil : QA X [] tNil dNil := ⟨pa_nil, fun σ H S as en cs k Q r e q p => p [] [] S H as cs Ext.refl r rfl q⟩
theorem qa_cons {a : Expr} {es : List Expr} {ta : TE} {tr : TA} {da : DE} {dr : DA} (ha : QE X a ta da) (hr : QA X es tr dr) (hs : starEach (a :: es) X.env = (false, eval a X.env) :: starEach es X.env := by rfl) : QA X (a :: es) (tCons ta tr) (dCons da dr) := by
  refine ⟨pa_cons ha.pe hr.pa hs, ?_⟩
  intro σ H S as en cs k Q rp e q p
  refine ha.sem.use rp e q fun z v S1 H1 as1 cs1 e1 r1 v1 q1 => ?_
  refine hr.sem σ H1 S1 as1 en cs1 _ _ r1 (e.mono e1) q1 fun zs vs S2 H2 as2 cs2 e2 r2 w2 q2 => ?_
  exact p (z :: zs) (v :: vs) S2 H2 as2 cs2 (e1.trans e2) r2 ⟨v, vs, rfl, v1.mono e2, w2⟩ q2
def dTup (a : DA) : DE := fun en cs k => a en cs fun zs cs1 => datL zs fun ds => ds.length ≤ LIM ∧ k (.d (.tup ds)) cs1
/-- a list display that will not change; one that will -/
def dLst (a : DA) : DE := fun en cs k => a en cs fun zs cs1 => datL zs fun ds => ds.length ≤ LIM ∧ k (.d (.lst ds)) cs1
def dLstC (a : DA) : DE := fun en cs k => a en cs fun zs cs1 => datL zs fun ds => ds.length ≤ LIM ∧ k (.c cs1.length) (cs1 ++ [.lst ds])
theorem size_of {n : Nat} (h : n ≤ LIM) : n ≤ sizeLine := Nat.le_trans h (by decide)
theorem size_lt {n : Nat} (h : n < LIM) : n < sizeLine := Nat.lt_of_lt_of_le h (by decide)
theorem Rep.get_new {K : PySem.W.Frag} {S H : Hp} {as : List Addr} {cs : Cs} (r : Rep K S H as cs) (p : Addr) : (as ++ [p])[cs.length]? = some p := by
  rw [← r.len, List.getElem?_append_right (Nat.le_refl _), Nat.sub_self]
  rfl
theorem q_tup {es : List Expr} {x1} {ta : TA} {da : DA} (ha : QA X es ta da) : QE X (.Tuple es x1 pos) (tTup ta) (dTup da) := by
  refine ⟨pe_tup ha.pa, ?_⟩
  intro σ H S as en cs k Q rp e q p
  refine ha.sem σ H S as en cs _ _ rp e q fun zs vs S1 H1 as1 cs1 e1 r1 v1 q1 => ?_
  obtain ⟨ds, i, hz, q1⟩ := datL_is v1 q1
  refine ⟨by rw [i.len]; exact size_of hz, fun a na => ?_⟩
  refine p (.d (.tup ds)) (.ref a) _ _ as1 cs1 (e1.trans (r1.ext na (.tup vs))) (r1.lay na _) ⟨a, vs, rfl, SqT.of upd_same, IsL.mono (Sub.new (r1.sub.free na)) _ _ i⟩ q1
theorem q_lst {es : List Expr} {ta : TA} {da : DA} (ha : QA X es ta da) : QE X (.List es pos) (tLst ta) (dLst da) := by
  refine ⟨pe_lst ha.pa, ?_⟩
  intro σ H S as en cs k Q rp e q p
  refine ha.sem σ H S as en cs _ _ rp e q fun zs vs S1 H1 as1 cs1 e1 r1 v1 q1 => ?_
  obtain ⟨ds, i, hz, q1⟩ := datL_is v1 q1
  refine ⟨by rw [i.len]; exact size_of hz, fun a na => ?_⟩
  refine p (.d (.lst ds)) (.ref a) _ _ as1 cs1 (e1.trans (r1.ext na (.lst vs))) (r1.lay na _) ⟨a, vs, rfl, upd_same, IsL.mono (Sub.new (r1.sub.free na)) _ _ i⟩ q1
theorem q_lstC {es : List Expr} {ta : TA} {da : DA} (ha : QA X es ta da) : QE X (.List es pos) (tLst ta) (dLstC da) := by
  refine ⟨pe_lst ha.pa, ?_⟩
  intro σ H S as en cs k Q rp e q p
  refine ha.sem σ H S as en cs _ _ rp e q fun zs vs S1 H1 as1 cs1 e1 r1 v1 q1 => ?_
  obtain ⟨ds, i, hz, q1⟩ := datL_is v1 q1
  refine ⟨by rw [i.len]; exact size_of hz, fun a na => ?_⟩
  refine p (.c cs1.length) (.ref a) S1 _ (as1 ++ [a]) _ (e1.trans ⟨Sub.refl _, [a], rfl⟩) (r1.cell na (c := .lst ds) ⟨r1.sub.free na, vs, upd_same, i⟩) ⟨a, r1.get_new a, rfl⟩ q1

/-! ### calls of built-ins by values -/
def Cl (K : PySem.W.Frag) (r : List V → Hp → VK → Prop) (f : List D → (D → Prop) → Prop) : Prop :=
  ∀ (S H : Hp) (as : List Addr) (cs : Cs) (ds : List D) (vs : List V) (k : D → Prop) (Q : VK), Rep K S H as cs → ShL K S H ds vs → f ds k →
    (∀ (z : D) (v : V) (S' H' : Hp), Sub S S' → Rep K S' H' as cs → Is K S' z v → k z → Q v H') → r vs H Q
def dCB (f : List D → (D → Prop) → Prop) (a : DA) : DE := fun en cs k => a en cs fun zs cs1 => withL cs1 zs fun ds => f ds fun z => k (.d z) cs1
theorem sem_cb {K : PySem.W.Frag} {r : List V → Hp → VK → Prop} {f : List D → (D → Prop) → Prop} {ta : TA} {da : DA} (h : Cl K r f) (ha : SemA K ta da) : SemE K (tCB r ta) (dCB f da) := by
  intro σ H S as en cs k Q rp e q p
  refine ha σ H S as en cs _ _ rp e q fun zs vs S1 H1 as1 cs1 e1 r1 v1 q1 => ?_
  obtain ⟨ds, s, q1⟩ := withL_sh r1 v1 q1
  exact h S1 H1 as1 cs1 ds vs _ Q r1 s q1 fun z v S' H' s' r' i' k' => p (.d z) v S' H' as1 cs1 (e1.trans (Ext.of s')) r' i' k'
theorem q_callB {id : String} {x : Str} {p : Pos} {a : Expr} {es : List Expr} {r : List V → Hp → VK → Prop} {f : List D → (D → Prop) → Prop} {ta : TA} {da : DA} (hc : CallR X (.builtin id) r) (h : Cl X.K r f) (hm : X.mg x = none) (hv : bootBuiltins x = some (.builtin id)) (ha : QA X (a :: es) ta da) (hg : Gl X x := by rfl) (hn : x ≠ "__name__" := by decide) (hdb : (x == ("__debug__" : Str)) = false := by decide)
    (he : starEach (a :: es) X.env = (false, eval a X.env) :: starEach es X.env := by rfl) (hpl : (backTo pos (starEach es X.env)).any (·.1) = false := by rfl) : QE X (.Call (.Name x p) (a :: es) [] pos) (tCB r ta) (dCB f da) :=
  ⟨pe_callB hc hg hm hv ha.pa hn hdb he hpl, sem_cb h ha.sem⟩
theorem q_callTy {id : String} {x : Str} {p : Pos} {a : Expr} {es : List Expr} {r : List V → Hp → VK → Prop} {f : List D → (D → Prop) → Prop} {ta : TA} {da : DA} (hc : CallR X (.type id) r) (h : Cl X.K r f) (hm : X.mg x = none) (hv : bootBuiltins x = some (.type id)) (ha : QA X (a :: es) ta da) (hg : Gl X x := by rfl) (hn : x ≠ "__name__" := by decide) (hdb : (x == ("__debug__" : Str)) = false := by decide)
    (he : starEach (a :: es) X.env = (false, eval a X.env) :: starEach es X.env := by rfl) (hpl : (backTo pos (starEach es X.env)).any (·.1) = false := by rfl) : QE X (.Call (.Name x p) (a :: es) [] pos) (tCB r ta) (dCB f da) :=
  ⟨pe_callTy hc hg hm hv ha.pa hn hdb he hpl, sem_cb h ha.sem⟩
end
end DL
set_option Elab.async false
set_option linter.all false
set_option maxRecDepth 100000
set_option maxHeartbeats 2000000
namespace DL
open PySem L2

/-! ### data as the library's data -/
mutual
def py : D → PyData
  | .non => .none
  | .bl b => .bool b
  | .int i => .int i
  | .str x => .str x
  | .tup ds => .tuple (pyL ds)
  | .lst ds => .list (pyL ds)
  | .scr ns => .list (ns.map .int)
  | .dic _ => .none
  | .ty _ => .none
  | .obj _ => .none
  | .ob _ _ _ => .none
  | .cel _ _ => .none
def pyL : List D → List PyData
  | [] => []
  | d :: ds => py d :: pyL ds
end
mutual
/-- no dict, no class within -/
def pyOk : D → Bool
  | .non => true
  | .bl _ => true
  | .int _ => true
  | .str _ => true
  | .tup ds => pyOkL ds
  | .lst ds => pyOkL ds
  | .scr _ => true
  | .dic _ => false
  | .ty _ => false
  | .obj _ => false
  | .ob _ _ _ => false
  | .cel _ _ => false
def pyOkL : List D → Bool
  | [] => true
  | d :: ds => pyOk d && pyOkL ds
end
theorem dp_ints (K : PySem.W.Frag) (H : Hp) : ∀ ns : List Int, DpAll K H (ns.map V.int) (ns.map PyData.int)
  | [] => .nil
  | n :: ns => .cons (.int n) (dp_ints K H ns)
mutual
theorem Is.dp {K : PySem.W.Frag} {S H : Hp} (e : Sub S H) : ∀ (d : D) (v : V), Is K S d v → pyOk d = true → Dp K H v (py d)
  | .non, v, h, _ => by rw [Is] at h; subst h; exact .non
  | .bl b, v, h, _ => by rw [Is] at h; subst h; exact .bl b
  | .int i, v, h, _ => by rw [Is] at h; subst h; exact .int i
  | .str x, v, h, _ => by rw [Is] at h; subst h; exact .str x
  | .tup ds, v, h, o => by
    obtain ⟨a, vs, rfl, h2, h3⟩ := h
    exact .tup (e.t h2) (IsL.dp e ds vs h3 o)
  | .lst ds, v, h, o => by
    obtain ⟨a, vs, rfl, h2, h3⟩ := h
    exact .lst (SqL.of (e _ _ h2)) (IsL.dp e ds vs h3 o)
  | .scr ns, v, h, _ => by
    obtain ⟨a, rfl, h2⟩ := h
    exact .lst (e.l h2) (dp_ints K H ns)
  | .dic _, _, _, o => Bool.noConfusion o
  | .ty _, _, _, o => Bool.noConfusion o
  | .obj _, _, _, o => Bool.noConfusion o
  | .ob _ _ _, _, _, o => Bool.noConfusion o
  | .cel _ _, _, _, o => Bool.noConfusion o
theorem IsL.dp {K : PySem.W.Frag} {S H : Hp} (e : Sub S H) : ∀ (ds : List D) (vs : List V), IsL K S ds vs → pyOkL ds = true → DpAll K H vs (pyL ds)
  | [], _, h, _ => by rw [IsL] at h; subst h; exact .nil
  | d :: ds, _, h, o => by
    obtain ⟨v, r, rfl, h2, h3⟩ := h
    have o' : (pyOk d && pyOkL ds) = true := o
    rw [Bool.and_eq_true] at o'
    exact .cons (Is.dp e d v h2 o'.1) (IsL.dp e ds r h3 o'.2)
end
theorem Sh.dp {K : PySem.W.Frag} {S H : Hp} (e : Sub S H) : ∀ (d : D) (v : V), Sh K S H d v → pyOk d = true → Dp K H v (py d)
  | .lst ds, v, h, o => by
    obtain ⟨a, vs, rfl, h2, h3⟩ := h
    exact .lst (SqL.of h2) (IsL.dp e ds vs h3 o)
  | .tup ds, v, h, o => Is.dp e (.tup ds) v h o
  | .scr ns, v, h, o => Is.dp e (.scr ns) v h o
  | .non, v, h, o => Is.dp e .non v h o
  | .bl b, v, h, o => Is.dp e (.bl b) v h o
  | .int i, v, h, o => Is.dp e (.int i) v h o
  | .str x, v, h, o => Is.dp e (.str x) v h o
  | .dic _, _, _, o => Bool.noConfusion o
  | .ty _, _, _, o => Bool.noConfusion o
  | .obj _, _, _, o => Bool.noConfusion o
  | .ob _ _ _, _, _, o => Bool.noConfusion o
  | .cel _ _, _, _, o => Bool.noConfusion o

/-! ### sizes -/
/-- an int of few bits -/
def Sm (i : Int) : Prop := i.natAbs < 2 ^ 100000
def Dv (j : Int) : Prop := 0 < j ∧ j.natAbs < 2 ^ 8000
/-- an int of at most n bits, either way -/
def Sz (n : Nat) (i : Int) : Prop := i.natAbs < 2 ^ n
theorem Sz.sm {n : Nat} {i : Int} (h : Sz n i) (l : n ≤ 100000) : Sm i := Nat.lt_of_lt_of_le h (Nat.pow_le_pow_right (by decide) l)
theorem Sz.dv {n : Nat} {i : Int} (h : Sz n i) (l : n ≤ 8000) (p : 0 < i) : Dv i := ⟨p, Nat.lt_of_lt_of_le h (Nat.pow_le_pow_right (by decide) l)⟩
theorem Sz.le {m n : Nat} {i : Int} (h : Sz m i) (l : m ≤ n) : Sz n i := Nat.lt_of_lt_of_le h (Nat.pow_le_pow_right (by decide) l)
theorem Sz.sub {m n : Nat} {i j : Int} (h : Sz m i) (g : Sz n j) : Sz (m + n + 1) (i - j) := by
  have h' := h.le (Nat.le_add_right m n)
  have g' := g.le (Nat.le_add_left n m)
  unfold Sz at *
  rw [Nat.pow_succ]
  omega
theorem Sz.of {n : Nat} {i : Int} (h1 : -((2 ^ n : Nat) : Int) < i) (h2 : i < ((2 ^ n : Nat) : Int)) : Sz n i := by
  unfold Sz
  omega
/-- within 10 ^ 200 -/
theorem Sm.of {i : Int} (h1 : -(10 ^ 200) < i) (h2 : i < 10 ^ 200) : Sm i := by
  have e : (10 : Int) ^ 200 ≤ ((2 ^ 700 : Nat) : Int) := by decide +kernel
  exact (Sz.of (n := 700) (by omega) (by omega)).sm (by decide)
theorem Dv.of {i : Int} (h1 : 0 < i) (h2 : i < 10 ^ 200) : Dv i := by
  have e : (10 : Int) ^ 200 ≤ ((2 ^ 700 : Nat) : Int) := by decide +kernel
  exact (Sz.of (n := 700) (by omega) (by omega)).dv (by decide) h1
theorem Sm.mulW {i j : Int} (h : Sm i) (g : Sm j) : CMulW i j := wide_mul h g (by decide) (by decide) (by decide)
theorem Dv.divW {i j : Int} (h : Dv j) : CDivW i j := wide_div h.1 h.2 (by decide) (by decide)

/-! ### operators over data -/
abbrev rOr (r r' : R2) : R2 := fun x y H Q => r x y H Q ∨ r' x y H Q
def rAddS : R2 := fun x y H Q => ∃ i j, x = .str i ∧ y = .str j ∧ i.length + j.length ≤ sizeLine ∧ Q (.str (i ++ j)) H
def rAddU (K : PySem.W.Frag) : R2 := rOr (rI0 fun i j => .int (i + j)) (rOr rAddS (rOr (rCatA K) rCat))
def rMulU (K : PySem.W.Frag) : R2 := rOr (rI CMulW fun i j => .int (i * j)) (rOr (rRepT K) rRep)
def CPowW (i j : Int) : Prop := 0 ≤ j ∧ (Builtin.Int.intBits i : Int) * j ≤ 2 ^ 27
section
variable {X : Cx}
theorem op_addU : OpR X (binaryOp .Add) (rAddU X.K) := OpR.or op_add (OpR.or op_add_str (OpR.or op_catA op_cat))
theorem op_mulU : OpR X (binaryOp .Mult) (rMulU X.K) := OpR.or op_mulW (OpR.or op_repT op_rep)
theorem op_powW : OpR X (binaryOp .Pow) (rI CPowW fun i j => .int (i ^ j.toNat)) := opI fun _ _ _ _ _ _ _ hc q => PyProof.Rows.pow_int hc.1 hc.2 q
end
def addD : D → D → (D → Prop) → Prop
  | .int i, .int j, k => k (.int (i + j))
  | .str a, .str b, k => a.length + b.length ≤ sizeLine ∧ k (.str (a ++ b))
  | .tup a, .tup b, k => a.length + b.length ≤ LIM ∧ k (.tup (a ++ b))
  | .lst a, .lst b, k => a.length + b.length ≤ LIM ∧ k (.lst (a ++ b))
  | _, _, _ => False
def subD : D → D → (D → Prop) → Prop
  | .int i, .int j, k => k (.int (i - j))
  | _, _, _ => False
def mulD : D → D → (D → Prop) → Prop
  | .int i, .int j, k => (Sm i ∧ Sm j) ∧ k (.int (i * j))
  | .tup a, .int n, k => (a ≠ [] ∧ 2 ≤ n ∧ n ≤ 1000 ∧ a.length ≤ 1000) ∧ k (.tup (List.replicate n.toNat a).flatten)
  | .lst a, .int n, k => (0 ≤ n ∧ n ≤ 100000 ∧ a.length ≤ 1000 ∧ a.length * n.toNat ≤ LIM) ∧ k (.lst (List.replicate n.toNat a).flatten)
  | _, _, _ => False
def fdivD : D → D → (D → Prop) → Prop
  | .int i, .int j, k => Dv j ∧ k (.int (i / j))
  | _, _, _ => False
def modD : D → D → (D → Prop) → Prop
  | .int i, .int j, k => 0 < j ∧ k (.int (i % j))
  | _, _, _ => False
def powD : D → D → (D → Prop) → Prop
  | .int i, .int j, k => (0 ≤ j ∧ j ≤ 1000 ∧ Sm i) ∧ k (.int (i ^ j.toNat))
  | _, _, _ => False
def negD : D → (D → Prop) → Prop
  | .int i, k => k (.int (-i))
  | _, _ => False
def cmpI (p : Int → Int → Bool) : D → D → (D → Prop) → Prop
  | .int i, .int j, k => k (.bl (p i j))
  | _, _, _ => False
abbrev ltD := cmpI fun i j => decide (i < j)
abbrev leD := cmpI fun i j => decide (i ≤ j)
abbrev gtD := cmpI fun i j => decide (j < i)
abbrev geD := cmpI fun i j => decide (j ≤ i)
def EqOk (d : D) : Prop := pyOk d = true ∧ SeqAt.shaped (py d) = true
def eqvD (x y : D) : Bool := PyData.eqv (py x) (py y)
def eqD : D → D → (D → Prop) → Prop := fun x y k => (EqOk x ∧ EqOk y) ∧ k (.bl (eqvD x y))
def neD : D → D → (D → Prop) → Prop := fun x y k => (EqOk x ∧ EqOk y) ∧ k (.bl (!eqvD x y))
def isNonD : D → Bool
  | .non => true
  | _ => false
def isD : D → D → (D → Prop) → Prop
  | x, .non, k => k (.bl (isNonD x))
  | .bl a, .bl b, k => k (.bl (decide (a = b)))
  | _, _, _ => False
def isNotD : D → D → (D → Prop) → Prop
  | x, .non, k => k (.bl (!isNonD x))
  | .bl a, .bl b, k => k (.bl (!decide (a = b)))
  | _, _, _ => False
def atD (ds : List D) (i : Int) (k : D → Prop) : Prop :=
  match atI ds i with
  | some d => k d
  | none => False
def ixD : D → D → (D → Prop) → Prop
  | .tup ds, .int i, k => atD ds i k
  | .lst ds, .int i, k => atD ds i k
  | .scr ns, .int i, k => ∃ n, atI ns i = some n ∧ k (.int n)
  | _, _, _ => False

section
variable {K : PySem.W.Frag}
theorem sh_int {S H : Hp} {i : Int} {v : V} (h : Sh K S H (.int i) v) : v = .int i := h
theorem sh_str {S H : Hp} {i : Str} {v : V} (h : Sh K S H (.str i) v) : v = .str i := h
theorem sh_bl {S H : Hp} {i : Bool} {v : V} (h : Sh K S H (.bl i) v) : v = .bl i := h
theorem sh_non {S H : Hp} {v : V} (h : Sh K S H .non v) : v = .non := h
/-- ints to an int -/
theorem o_int {C : Int → Int → Prop} {g : Int → Int → Int} {f : D → D → (D → Prop) → Prop} (hf : ∀ x y k, f x y k → ∃ i j, x = .int i ∧ y = .int j ∧ C i j ∧ k (.int (g i j))) : Op2 K (rI C fun i j => .int (g i j)) f := by
  intro S H as cs dx dy x y k Q r hx hy h q
  obtain ⟨i, j, rfl, rfl, hc, hk⟩ := hf _ _ _ h
  exact ⟨i, j, hx, hy, hc, q (.int (g i j)) _ S H (Sub.refl S) r rfl hk⟩
theorem o_sub : Op2 K (rI0 fun i j => .int (i - j)) subD := by
  intro S H as cs dx dy x y k Q r hx hy h q
  unfold subD at h
  split at h
  · exact ⟨_, _, hx, hy, q (.int _) _ S H (Sub.refl S) r rfl h⟩
  · exact h.elim
theorem o_cmp {p : Int → Int → Bool} : Op2 K (rI0 fun i j => .bl (p i j)) (cmpI p) := by
  intro S H as cs dx dy x y k Q r hx hy h q
  unfold cmpI at h
  split at h
  · exact ⟨_, _, hx, hy, q (.bl _) _ S H (Sub.refl S) r rfl h⟩
  · exact h.elim
theorem o_mod : Op2 K (rI (fun _ j => 0 < j) fun i j => .int (i % j)) modD := o_int fun x y k h => by
  unfold modD at h
  split at h
  · exact ⟨_, _, rfl, rfl, h.1, h.2⟩
  · exact h.elim
theorem o_fdiv : Op2 K (rI CDivW fun i j => .int (i / j)) fdivD := o_int fun x y k h => by
  unfold fdivD at h
  split at h
  · exact ⟨_, _, rfl, rfl, h.1.divW, h.2⟩
  · exact h.elim
theorem o_pow : Op2 K (rI CPowW fun i j => .int (i ^ j.toNat)) powD := o_int fun x y k h => by
  unfold powD at h
  split at h
  · rename_i i j
    obtain ⟨⟨h0, h1, h2⟩, h3⟩ := h
    refine ⟨_, _, rfl, rfl, ⟨h0, ?_⟩, h3⟩
    have b : Builtin.Int.intBits i ≤ i.natAbs.log2 + 1 := by
      unfold Builtin.Int.intBits
      split <;> omega
    have l : i.natAbs.log2 < 100000 := PySem.Flt.log2_lt_of (by decide) h2
    have hb : (Builtin.Int.intBits i : Int) ≤ 100000 := by omega
    have h4 : (Builtin.Int.intBits i : Int) * j ≤ 100000 * j := Int.mul_le_mul_of_nonneg_right hb h0
    have h5 : 100000 * j ≤ 100000 * 1000 := Int.mul_le_mul_of_nonneg_left h1 (by decide)
    have h6 : (100000 * 1000 : Int) ≤ 2 ^ 27 := by decide
    exact Int.le_trans h4 (Int.le_trans h5 h6)
  · exact h.elim
theorem o_neg : Op1 K (rU fun i => .int (-i)) negD := by
  intro S H as cs dx x k Q r hx h q
  unfold negD at h
  split at h
  · exact ⟨_, hx, q (.int _) _ S H (Sub.refl S) r rfl h⟩
  · exact h.elim
theorem o_add : Op2 K (rAddU K) addD := by
  intro S H as cs dx dy x y k Q r hx hy h q
  unfold addD at h
  split at h
  · exact .inl ⟨_, _, hx, hy, q (.int _) _ S H (Sub.refl S) r rfl h⟩
  · exact .inr (.inl ⟨_, _, hx, hy, h.1, q (.str _) _ S H (Sub.refl S) r rfl h.2⟩)
  · obtain ⟨a, vs, rfl, hs, is⟩ := hx
    obtain ⟨b, us, rfl, ht, it⟩ := hy
    obtain ⟨hz, hk⟩ := h
    refine .inr (.inr (.inl ⟨a, b, vs, us, rfl, rfl, r.sub.t hs, r.sub.t ht, by rw [is.len, it.len]; exact size_of hz, fun e => ?_, fun _ e => ?_, fun _ _ p hp => ?_⟩))
    · have i2 := is.append it
      rw [e, List.nil_append] at i2
      exact q (.tup _) _ S H (Sub.refl S) r ⟨b, us, rfl, ht, i2⟩ hk
    · have i2 := is.append it
      rw [e, List.append_nil] at i2
      exact q (.tup _) _ S H (Sub.refl S) r ⟨a, vs, rfl, hs, i2⟩ hk
    · have hn := Sub.new (o := .tup (vs ++ us)) (r.sub.free hp)
      exact q (.tup _) _ _ _ hn (r.lay hp _) ⟨p, vs ++ us, rfl, SqT.of upd_same, IsL.mono hn _ _ (is.append it)⟩ hk
  · obtain ⟨a, vs, rfl, hs, is⟩ := hx
    obtain ⟨b, us, rfl, ht, it⟩ := hy
    obtain ⟨hz, hk⟩ := h
    refine .inr (.inr (.inr ⟨a, b, vs, us, rfl, rfl, hs, ht, by rw [is.len, it.len]; exact size_of hz, fun p hp => ?_⟩))
    have hn := Sub.new (o := .lst (vs ++ us)) (r.sub.free hp)
    exact q (.lst _) _ _ _ hn (r.lay hp _) ⟨p, vs ++ us, rfl, upd_same, IsL.mono hn _ _ (is.append it)⟩ hk
  · exact h.elim
theorem o_mul : Op2 K (rMulU K) mulD := by
  intro S H as cs dx dy x y k Q r hx hy h q
  unfold mulD at h
  split at h
  · exact .inl ⟨_, _, hx, hy, h.1.1.mulW h.1.2, q (.int _) _ S H (Sub.refl S) r rfl h.2⟩
  · rename_i l n
    obtain ⟨a, vs, rfl, hs, is⟩ := hx
    obtain ⟨⟨h1, h2, h3, h4⟩, hk⟩ := h
    refine .inr (.inl ⟨a, _, vs, rfl, hy, r.sub.t hs, fun e => ?_, h2, h3, by rw [is.len]; exact h4, fun p hp => ?_⟩)
    · have := is.len
      rw [e] at this
      exact h1 (List.eq_nil_of_length_eq_zero this.symm)
    · have hn := Sub.new (o := .tup (List.replicate n.toNat vs).flatten) (r.sub.free hp)
      exact q (.tup _) _ _ _ hn (r.lay hp _) ⟨p, _, rfl, SqT.of upd_same, IsL.mono hn _ _ (is.rep _)⟩ hk
  · rename_i l n
    obtain ⟨a, vs, rfl, hs, is⟩ := hx
    obtain ⟨⟨h1, h2, h3, h4⟩, hk⟩ := h
    refine .inr (.inr ⟨a, _, vs, rfl, hy, hs, by omega, by omega, by rw [is.len]; exact size_of h4, fun p hp => ?_⟩)
    have hn := Sub.new (o := .lst (List.replicate n.toNat vs).flatten) (r.sub.free hp)
    exact q (.lst _) _ _ _ hn (r.lay hp _) ⟨p, _, rfl, upd_same, IsL.mono hn _ _ (is.rep _)⟩ hk
  · exact h.elim
theorem o_eq : Op2 K (rEqD K) eqD := by
  intro S H as cs dx dy x y k Q r hx hy h q
  obtain ⟨⟨⟨a1, a2⟩, b1, b2⟩, hk⟩ := h
  exact ⟨py dx, py dy, hx.dp r.sub _ _ a1, hy.dp r.sub _ _ b1, a2, b2, q (.bl _) _ S H (Sub.refl S) r rfl hk⟩
theorem o_ne : Op2 K (rNeD K) neD := by
  intro S H as cs dx dy x y k Q r hx hy h q
  obtain ⟨⟨⟨a1, a2⟩, b1, b2⟩, hk⟩ := h
  exact ⟨py dx, py dy, hx.dp r.sub _ _ a1, hy.dp r.sub _ _ b1, a2, b2, q (.bl _) _ S H (Sub.refl S) r rfl hk⟩
theorem IsL.atI {S : Hp} {ds : List D} {vs : List V} {i : Int} {d : D} (h : IsL K S ds vs) (e : L2.atI ds i = some d) : ∃ v, L2.atI vs i = some v ∧ Is K S d v := by
  unfold L2.atI at e ⊢
  rw [h.len]
  cases q : ixN ds.length i with
  | none => rw [q] at e; exact nomatch e
  | some j =>
    rw [q] at e
    exact h.get e
theorem atI_map {α β : Type} (f : α → β) (xs : List α) (i : Int) : atI (xs.map f) i = (atI xs i).map f := by
  unfold atI
  rw [List.length_map]
  cases ixN xs.length i with
  | none => rfl
  | some j => show (xs.map f)[j]? = (xs[j]?).map f; rw [List.getElem?_map]
theorem o_ix : Op2 K (rIx K) ixD := by
  intro S H as cs dx dy x y k Q r hx hy h q
  unfold ixD at h
  split at h
  · obtain ⟨a, vs, rfl, hs, is⟩ := hx
    unfold atD at h
    split at h
    · rename_i d e
      obtain ⟨v, e2, iv⟩ := is.atI e
      exact .inr (.inl ⟨a, vs, _, v, rfl, hy, r.sub.t hs, e2, q d v S H (Sub.refl S) r iv h⟩)
    · exact h.elim
  · obtain ⟨a, vs, rfl, hs, is⟩ := hx
    unfold atD at h
    split at h
    · rename_i d e
      obtain ⟨v, e2, iv⟩ := is.atI e
      exact .inl ⟨a, vs, _, v, rfl, hy, SqL.of hs, e2, q d v S H (Sub.refl S) r iv h⟩
    · exact h.elim
  · obtain ⟨a, rfl, hs⟩ := hx
    obtain ⟨n, e, hk⟩ := h
    refine .inl ⟨a, _, _, .int n, rfl, hy, r.sub.l hs, by rw [atI_map, e]; rfl, q (.int n) _ S H (Sub.refl S) r rfl hk⟩
  · exact h.elim
end
end DL
set_option Elab.async false
set_option linter.all false
set_option maxRecDepth 100000
set_option maxHeartbeats 2000000
namespace DL
open PySem L2

/-! ### == of texts too -/
def rEqU (K : PySem.W.Frag) : R2 := rOr rEq (rEqD K)
def rNeU (K : PySem.W.Frag) : R2 := rOr rNe (rNeD K)
theorem op_eqU {X : Cx} (hu : X.A.units + 64 < cLine) : OpR X (compareOp .Eq) (rEqU X.K) := OpR.or op_eq (op_eqD hu)
theorem op_neU {X : Cx} (hu : X.A.units + 64 < cLine) : OpR X (compareOp .NotEq) (rNeU X.K) := OpR.or op_ne (op_neD hu)
def eqUD : D → D → (D → Prop) → Prop
  | .str a, .str b, k => k (.bl (decide (a = b)))
  | .int a, .int b, k => k (.bl (decide (a = b)))
  | x, y, k => eqD x y k
def neUD : D → D → (D → Prop) → Prop
  | .str a, .str b, k => k (.bl (!decide (a = b)))
  | .int a, .int b, k => k (.bl (!decide (a = b)))
  | x, y, k => neD x y k
section
variable {K : PySem.W.Frag}
theorem dec_str (a b : Str) : decide (V.str a = V.str b) = decide (a = b) := by
  by_cases e : a = b
  · rw [e, decide_eq_true rfl, decide_eq_true rfl]
  · rw [decide_eq_false e, decide_eq_false fun q => e (V.str.inj q)]
theorem dec_int (a b : Int) : decide (V.int a = V.int b) = decide (a = b) := by
  by_cases e : a = b
  · rw [e, decide_eq_true rfl, decide_eq_true rfl]
  · rw [decide_eq_false e, decide_eq_false fun q => e (V.int.inj q)]
theorem o_eqU : Op2 K (rEqU K) eqUD := by
  intro S H as cs dx dy x y k Q r hx hy h q
  unfold eqUD at h
  split at h
  · rw [sh_str hx, sh_str hy]
    exact .inl ⟨rfl, q (.bl _) _ S H (Sub.refl S) r (by rw [dec_str]; rfl) h⟩
  · rw [sh_int hx, sh_int hy]
    exact .inl ⟨rfl, q (.bl _) _ S H (Sub.refl S) r (by rw [dec_int]; rfl) h⟩
  · exact .inr (o_eq S H as cs _ _ x y k Q r hx hy h q)
theorem o_neU : Op2 K (rNeU K) neUD := by
  intro S H as cs dx dy x y k Q r hx hy h q
  unfold neUD at h
  split at h
  · rw [sh_str hx, sh_str hy]
    exact .inl ⟨rfl, q (.bl _) _ S H (Sub.refl S) r (by rw [dec_str]; rfl) h⟩
  · rw [sh_int hx, sh_int hy]
    exact .inl ⟨rfl, q (.bl _) _ S H (Sub.refl S) r (by rw [dec_int]; rfl) h⟩
  · exact .inr (o_ne S H as cs _ _ x y k Q r hx hy h q)
end

/-! ### built-ins -/
abbrev RC := List V → Hp → VK → Prop
def rLenU (K : PySem.W.Frag) : RC := fun xs H Q => (∃ x n, xs = [x] ∧ LenV K x H n ∧ Q (.int n) H) ∨ ∃ a kvs, xs = [V.ref a] ∧ H a = some (.dK kvs) ∧ Q (.int kvs.length) H
theorem call_lenU {X : Cx} : CallR X (.builtin "len") (rLenU X.K) := CallR.or call_len call_lenD
def lenD : List D → (D → Prop) → Prop
  | [.lst ds], k => k (.int ds.length)
  | [.tup ds], k => k (.int ds.length)
  | [.scr ns], k => k (.int ns.length)
  | [.dic kvs], k => k (.int kvs.length)
  | _, _ => False
section
variable {K : PySem.W.Frag} {S H : Hp}
theorem shL_nil {vs : List V} (h : ShL K S H [] vs) : vs = [] := h
theorem shL_one {d : D} {vs : List V} (h : ShL K S H [d] vs) : ∃ v, vs = [v] ∧ Sh K S H d v := by
  obtain ⟨v, r, h1, h2, h3⟩ := h
  rw [shL_nil h3] at h1
  exact ⟨v, h1, h2⟩
theorem shL_two {d e : D} {vs : List V} (h : ShL K S H [d, e] vs) : ∃ v u, vs = [v, u] ∧ Sh K S H d v ∧ Sh K S H e u := by
  obtain ⟨v, r, h1, h2, h3⟩ := h
  obtain ⟨u, h4, h5⟩ := shL_one h3
  rw [h4] at h1
  exact ⟨v, u, h1, h2, h5⟩
theorem IsK.len : ∀ {kvs : List (Key × D)} {l : List (Key × V)}, IsK K S kvs l → l.length = kvs.length
  | [], _, h => by rw [IsK] at h; rw [h]; rfl
  | _ :: _, _, h => by
    obtain ⟨v, r, h1, h2, h3⟩ := h
    rw [h1, List.length_cons, List.length_cons, IsK.len h3]
theorem c_len : Cl K (rLenU K) lenD := by
  intro S H as cs ds vs k Q r hv h q
  unfold lenD at h
  split at h
  · obtain ⟨v, rfl, a, us, rfl, hs, is⟩ := shL_one hv
    exact .inl ⟨_, _, rfl, .inl ⟨us, SqL.of hs, is.len.symm⟩, q (.int _) _ S H (Sub.refl S) r rfl h⟩
  · obtain ⟨v, rfl, a, us, rfl, hs, is⟩ := shL_one hv
    exact .inl ⟨_, _, rfl, .inr ⟨us, r.sub.t hs, is.len.symm⟩, q (.int _) _ S H (Sub.refl S) r rfl h⟩
  · obtain ⟨v, rfl, a, rfl, hs⟩ := shL_one hv
    exact .inl ⟨_, _, rfl, .inl ⟨_, r.sub.l hs, by rw [List.length_map]⟩, q (.int _) _ S H (Sub.refl S) r rfl h⟩
  · obtain ⟨v, rfl, a, us, rfl, hs, is⟩ := shL_one hv
    exact .inr ⟨a, us, rfl, hs, q (.int _) _ S H (Sub.refl S) r (by rw [is.len]; rfl) h⟩
  · exact h.elim
/-! isinstance(x, T), T a built-in type -/
def tyD : D → String
  | .non => "NoneType"
  | .bl _ => "bool"
  | .int _ => "int"
  | .str _ => "str"
  | .tup _ => "tuple"
  | .lst _ => "list"
  | .scr _ => "list"
  | .dic _ => "dict"
  | _ => ""
theorem sh_ty {d : D} {v : V} (e : Sub S H) (h : Sh K S H d v) {n : String} {b : Bool} (hk : kitB (tyD d) n = some b) (hb : kitB "" n = none) : TyX K H v (.type (tyD d)) := by
  cases d with
  | non => rw [sh_non h]; exact .base .non
  | bl b => rw [sh_bl h]; exact .base (.bl b)
  | int i => rw [sh_int h]; exact .base (.int i)
  | str x => rw [sh_str h]; exact .base (.str x)
  | tup ds =>
    obtain ⟨a, vs, rfl, hs, _⟩ := h
    rcases e.t hs with (h1 | ⟨o, h1⟩) | ⟨o, its, n, h1, h2, _⟩
    · exact .base (.tup h1)
    · exact .fTuple h1
    · exact .kTuple h1 h2
  | lst ds =>
    obtain ⟨a, vs, rfl, hs, _⟩ := h
    exact .base (.lst hs)
  | scr ns =>
    obtain ⟨a, rfl, hs⟩ := h
    rcases e.l hs with (h1 | ⟨o, h1⟩) | ⟨o, its, n, h1, h2, _⟩
    · exact .base (.lst h1)
    · exact .base (.frz h1)
    · exact .kList h1 h2
  | dic ds =>
    obtain ⟨a, vs, rfl, hs, _⟩ := h
    exact .base (.dK hs)
  | ty m => rw [show tyD (.ty m) = "" from rfl, hb] at hk; cases hk
  | obj a => rw [show tyD (.obj a) = "" from rfl, hb] at hk; cases hk
  | ob a b c => rw [show tyD (.ob a b c) = "" from rfl, hb] at hk; cases hk
  | cel a b => rw [show tyD (.cel a b) = "" from rfl, hb] at hk; cases hk
def isiN (n : String) : List D → (D → Prop) → Prop
  | [x, .ty m], k => m = n ∧ ∃ b, kitB (tyD x) n = some b ∧ k (.bl b)
  | _, _ => False
theorem c_isi (n : String) (hb : kitB "" n = none) : Cl K (rIsi K) (isiN n) := by
  intro S H as cs ds vs k Q r hv h q
  unfold isiN at h
  split at h
  · obtain ⟨v, u, rfl, h1, h2⟩ := shL_two hv
    obtain ⟨rfl, b, e, h⟩ := h
    rw [show u = .ty _ from h2]
    exact ⟨v, _, _, _, b, rfl, .ty _, sh_ty r.sub h1 e hb, kit_ty e, q (.bl b) _ S H (Sub.refl S) r rfl h⟩
  · exact h.elim

/-! repr -/
def RpOk (d : D) : Prop := pyOk d = true ∧ (py d).showable = true ∧ (py d).hasDict = false ∧ (py d).depth ≤ 60 ∧ (py d).shown.length ≤ sizeLine
def rReprD (K : PySem.W.Frag) : RC := fun xs H Q => ∃ v d, xs = [v] ∧ Dp K H v d ∧ d.showable = true ∧ d.hasDict = false ∧ d.depth ≤ 60 ∧ d.shown.length ≤ sizeLine ∧ Q (.str d.shown) H
theorem call_reprD {X : Cx} (hg : X.A.guards = some []) (hu : X.A.units + 64 < cLine) : CallR X (.builtin "repr") (rReprD X.K) := by
  intro pins s σ H xs us Q I r h
  obtain ⟨v, d, rfl, hd, hs, hn, hdp, hz, q⟩ := h
  obtain ⟨u, rfl, rv⟩ := vals1 r
  obtain ⟨as, rd⟩ := Dp.reads I d v u hd rv
  have ans : ∀ tk t, EP X pins σ Q (.str d.shown t) { s with toks := tk } := fun tk t => ⟨.str _, H, I.tok tk, ⟨t, rfl⟩, q⟩
  cases hd with
  | non => rw [show u = Value.none from rv]; exact PySem.P.repr_of_none (ans _ _)
  | bl b => rw [show u = Value.bool b from rv]; exact PySem.P.repr_of_bool (by have := ans (s.toks + 1) s.toks; simpa only [PyData.shown] using this)
  | int i =>
    obtain ⟨t, rfl⟩ := rv
    exact PySem.P.repr_of_int (by simpa [PyData.showable] using hs) (ans _ _)
  | str x =>
    obtain ⟨t, rfl⟩ := rv
    exact PySem.P.repr_of_str (ans _ _) hz
  | lst h1 h2 =>
    rw [show u = Value.ref _ from rv] at rd ⊢
    exact repr_of_reads' rd hs (PyData.noDict_hsm hn) hg (by omega) (fun _ _ e => e) (fun h' t tk hk => ⟨.str _, H, I.kept hk, ⟨t, rfl⟩, q⟩) hz
  | tup h1 h2 =>
    rw [show u = Value.ref _ from rv] at rd ⊢
    exact repr_of_reads' rd hs (PyData.noDict_hsm hn) hg (by omega) (fun _ _ e => e) (fun h' t tk hk => ⟨.str _, H, I.kept hk, ⟨t, rfl⟩, q⟩) hz
def reprD : List D → (D → Prop) → Prop
  | [x], k => RpOk x ∧ k (.str (py x).shown)
  | _, _ => False
/-! max, min, abs, sum, all, any, int, tuple, list -/
def rMaxU (K : PySem.W.Frag) : RC := fun xs H Q => (∃ i j, xs = [.int i, .int j] ∧ Q (.int (if j > i then j else i)) H) ∨ rMax K xs H Q
def rMinU (K : PySem.W.Frag) : RC := fun xs H Q => (∃ i j, xs = [.int i, .int j] ∧ Q (.int (if j < i then j else i)) H) ∨ rMin K xs H Q
theorem call_maxU {X : Cx} (hc : X.calm = true := by rfl) : CallR X (.builtin "max") (rMaxU X.K) := CallR.or (call_max2 hc) (cr_max hc)
theorem call_minU {X : Cx} (hc : X.calm = true := by rfl) : CallR X (.builtin "min") (rMinU X.K) := CallR.or (call_min2 hc) (cr_min hc)
def maxD : List D → (D → Prop) → Prop
  | [.int i, .int j], k => k (.int (max i j))
  | [.lst ds], k => ∃ ns : List Int, ds = ns.map D.int ∧ 0 < ns.length ∧ ∀ m, m ∈ ns → (∀ y, y ∈ ns → y ≤ m) → k (.int m)
  | _, _ => False
def minD : List D → (D → Prop) → Prop
  | [.int i, .int j], k => k (.int (min i j))
  | [.lst ds], k => ∃ ns : List Int, ds = ns.map D.int ∧ 0 < ns.length ∧ ∀ m, m ∈ ns → (∀ y, y ∈ ns → m ≤ y) → k (.int m)
  | _, _ => False
theorem c_max : Cl K (rMaxU K) maxD := by
  intro S H as cs ds vs k Q r hv h q
  unfold maxD at h
  split at h
  · rename_i i j
    obtain ⟨v, u, rfl, h1, h2⟩ := shL_two hv
    rw [sh_int h1, sh_int h2]
    refine .inl ⟨_, _, rfl, q (.int (max i j)) _ S H (Sub.refl S) r ?_ h⟩
    show V.int _ = V.int _
    congr 1
    split <;> omega
  · obtain ⟨v, rfl, a, us, rfl, hs, is⟩ := shL_one hv
    obtain ⟨ns, rfl, hl, hk⟩ := h
    have e := is.ints
    subst e
    exact .inr ⟨a, ns, rfl, SqL.of hs, hl, fun m h1 h2 => q (.int m) _ S H (Sub.refl S) r rfl (hk m h1 h2)⟩
  · exact h.elim
theorem c_min : Cl K (rMinU K) minD := by
  intro S H as cs ds vs k Q r hv h q
  unfold minD at h
  split at h
  · rename_i i j
    obtain ⟨v, u, rfl, h1, h2⟩ := shL_two hv
    rw [sh_int h1, sh_int h2]
    refine .inl ⟨_, _, rfl, q (.int (min i j)) _ S H (Sub.refl S) r ?_ h⟩
    show V.int _ = V.int _
    congr 1
    split <;> omega
  · obtain ⟨v, rfl, a, us, rfl, hs, is⟩ := shL_one hv
    obtain ⟨ns, rfl, hl, hk⟩ := h
    have e := is.ints
    subst e
    exact .inr ⟨a, ns, rfl, SqL.of hs, hl, fun m h1 h2 => q (.int m) _ S H (Sub.refl S) r rfl (hk m h1 h2)⟩
  · exact h.elim
def sumD : List D → (D → Prop) → Prop
  | [.lst ds], k => ∃ ns : List Int, ds = ns.map D.int ∧ k (.int ns.sum)
  | _, _ => False
def allD : List D → (D → Prop) → Prop
  | [.lst ds], k => ∃ bs : List Bool, ds = bs.map D.bl ∧ k (.bl (bs.all id))
  | _, _ => False
def anyD : List D → (D → Prop) → Prop
  | [.lst ds], k => ∃ bs : List Bool, ds = bs.map D.bl ∧ k (.bl (bs.any id))
  | _, _ => False
theorem c_all : Cl K (rAll K) allD := by
  intro S H as cs ds vs k Q r hv h q
  unfold allD at h
  split at h
  · obtain ⟨v, rfl, a, us, rfl, hs, is⟩ := shL_one hv
    obtain ⟨bs, rfl, hk⟩ := h
    have e := is.bls
    subst e
    exact ⟨a, bs, rfl, SqL.of hs, q (.bl _) _ S H (Sub.refl S) r rfl hk⟩
  · exact h.elim
def intD : List D → (D → Prop) → Prop
  | [.int i], k => k (.int i)
  | [.bl b], k => k (.int (if b then 1 else 0))
  | _, _ => False
def absD : List D → (D → Prop) → Prop
  | [.int i], k => k (.int (if i < 0 then -i else i))
  | _, _ => False
def rTupOf (K : PySem.W.Frag) : RC := fun xs H Q => ∃ p ys, xs = [.ref p] ∧ ((SqL K H p ys ∧ ∀ l, H l = none → Q (.ref l) (upd H l (.tup ys))) ∨ (SqT K H p ys ∧ Q (.ref p) H))
def tupOfD : List D → (D → Prop) → Prop
  | [.lst ds], k => k (.tup ds)
  | [.tup ds], k => k (.tup ds)
  | [.scr ns], k => k (.tup (ns.map D.int))
  | _, _ => False
theorem c_tupOf : Cl K (rTupOf K) tupOfD := by
  intro S H as cs ds vs k Q r hv h q
  unfold tupOfD at h
  split at h
  · obtain ⟨v, rfl, a, us, rfl, hs, is⟩ := shL_one hv
    refine ⟨a, us, rfl, .inl ⟨SqL.of hs, fun p hp => ?_⟩⟩
    have hn := Sub.new (o := .tup us) (r.sub.free hp)
    exact q (.tup _) _ _ _ hn (r.lay hp _) ⟨p, us, rfl, SqT.of upd_same, IsL.mono hn _ _ is⟩ h
  · obtain ⟨v, rfl, h1⟩ := shL_one hv
    obtain ⟨a, us, rfl, hs, is⟩ := h1
    exact ⟨a, us, rfl, .inr ⟨r.sub.t hs, q (.tup _) _ S H (Sub.refl S) r ⟨a, us, rfl, hs, is⟩ h⟩⟩
  · rename_i ns
    obtain ⟨v, rfl, a, rfl, hs⟩ := shL_one hv
    refine ⟨a, _, rfl, .inl ⟨r.sub.l hs, fun p hp => ?_⟩⟩
    have hn := Sub.new (o := .tup (ns.map V.int)) (r.sub.free hp)
    exact q (.tup _) _ _ _ hn (r.lay hp _) ⟨p, _, rfl, SqT.of upd_same, isL_ints _⟩ h
  · exact h.elim
def rLstOf (K : PySem.W.Frag) : RC := fun xs H Q => ∃ p ys, xs = [.ref p] ∧ (SqL K H p ys ∨ SqT K H p ys) ∧ ∀ l, H l = none → Q (.ref l) (upd H l (.lst ys))
/-- list(x), not changed later -/
def lstOfD : List D → (D → Prop) → Prop
  | [.lst ds], k => k (.lst ds)
  | [.tup ds], k => k (.lst ds)
  | [.scr ns], k => k (.lst (ns.map D.int))
  | _, _ => False
theorem c_lstOf : Cl K (rLstOf K) lstOfD := by
  intro S H as cs ds vs k Q r hv h q
  unfold lstOfD at h
  split at h
  · obtain ⟨v, rfl, a, us, rfl, hs, is⟩ := shL_one hv
    refine ⟨a, us, rfl, .inl (SqL.of hs), fun p hp => ?_⟩
    have hn := Sub.new (o := .lst us) (r.sub.free hp)
    exact q (.lst _) _ _ _ hn (r.lay hp _) ⟨p, us, rfl, upd_same, IsL.mono hn _ _ is⟩ h
  · obtain ⟨v, rfl, a, us, rfl, hs, is⟩ := shL_one hv
    refine ⟨a, us, rfl, .inr (r.sub.t hs), fun p hp => ?_⟩
    have hn := Sub.new (o := .lst us) (r.sub.free hp)
    exact q (.lst _) _ _ _ hn (r.lay hp _) ⟨p, us, rfl, upd_same, IsL.mono hn _ _ is⟩ h
  · rename_i ns
    obtain ⟨v, rfl, a, rfl, hs⟩ := shL_one hv
    refine ⟨a, _, rfl, .inl (r.sub.l hs), fun p hp => ?_⟩
    have hn := Sub.new (o := .lst (ns.map V.int)) (r.sub.free hp)
    exact q (.lst _) _ _ _ hn (r.lay hp _) ⟨p, _, rfl, upd_same, isL_ints _⟩ h
  · exact h.elim
end
end DL
set_option Elab.async false
set_option linter.all false
set_option maxRecDepth 100000
set_option maxHeartbeats 2000000
namespace DL
open PySem L2

/-! ### dicts -/
section
variable {K : PySem.W.Frag} {S : Hp}
theorem getK_cons (p : Key × D) (r : List (Key × D)) (k : Key) : getK (p :: r) k = if p.1 = k then some p.2 else getK r k := by
  unfold getK
  rw [List.find?_cons]
  by_cases e : p.1 = k
  · rw [decide_eq_true e, if_pos e]; rfl
  · rw [decide_eq_false e, if_neg e]
theorem IsK.get : ∀ {kvs : List (Key × D)} {l : List (Key × V)} (k : Key), IsK K S kvs l → (getK kvs k = none ∧ valV l k = none) ∨ ∃ d v, getK kvs k = some d ∧ valV l k = some v ∧ Is K S d v
  | [], _, k, h => by rw [IsK] at h; rw [h]; exact .inl ⟨rfl, rfl⟩
  | kd :: r, _, k, h => by
    obtain ⟨v, l', rfl, h2, h3⟩ := h
    rw [getK_cons]
    by_cases e : kd.1 = k
    · rw [if_pos e]
      exact .inr ⟨kd.2, v, rfl, valV_pos (p := (kd.1, v)) e, h2⟩
    · rw [if_neg e, valV_neg (p := (kd.1, v)) e]
      exact IsK.get k h3
theorem IsK.snoc {d : D} {v : V} {k : Key} (hd : Is K S d v) : ∀ {kvs : List (Key × D)} {l : List (Key × V)}, IsK K S kvs l → IsK K S (kvs ++ [(k, d)]) (l ++ [(k, v)])
  | [], _, h => by rw [IsK] at h; rw [h]; exact ⟨v, [], rfl, hd, rfl⟩
  | kd :: r, _, h => by
    obtain ⟨v', l', rfl, h2, h3⟩ := h
    exact ⟨v', _, rfl, h2, IsK.snoc hd h3⟩
theorem IsK.mapK {d : D} {v : V} {k : Key} (hd : Is K S d v) : ∀ {kvs : List (Key × D)} {l : List (Key × V)}, IsK K S kvs l → IsK K S (kvs.map fun kv => if kv.1 = k then (kv.1, d) else kv) (l.map fun kv => if kv.1 = k then (kv.1, v) else kv)
  | [], _, h => by rw [IsK] at h; rw [h]; exact rfl
  | kd :: r, _, h => by
    obtain ⟨v', l', rfl, h2, h3⟩ := h
    rw [List.map_cons, List.map_cons]
    by_cases e : kd.1 = k
    · rw [if_pos e, if_pos (show (kd.1, v').1 = k from e)]
      exact ⟨v, _, rfl, hd, IsK.mapK hd h3⟩
    · rw [if_neg e, if_neg (show ¬ (kd.1, v').1 = k from e)]
      exact ⟨v', _, rfl, h2, IsK.mapK hd h3⟩
theorem IsK.any {k : Key} : ∀ {kvs : List (Key × D)} {l : List (Key × V)}, IsK K S kvs l → (l.any fun kv => decide (kv.1 = k)) = (kvs.any fun kv => decide (kv.1 = k))
  | [], _, h => by rw [IsK] at h; rw [h]; rfl
  | kd :: r, _, h => by
    obtain ⟨v', l', rfl, h2, h3⟩ := h
    rw [List.any_cons, List.any_cons, IsK.any h3]
theorem IsK.put {d : D} {v : V} {k : Key} {kvs : List (Key × D)} {l : List (Key × V)} (h : IsK K S kvs l) (hd : Is K S d v) : IsK K S (setK kvs k d) (putK l k v) := by
  unfold setK putK
  rw [h.any]
  split
  · exact h.mapK hd
  · exact h.snoc hd
end
def keyD : D → (Key → Prop) → Prop
  | .int i, k => k (.inl i)
  | .str x, k => k (.inr x)
  | _, _ => False
/-- key in dict -/
def dInK (neg : Bool) (a b : DE) : DE := fun en cs k => a en cs fun x cs1 => b en cs1 fun y cs2 => withD cs2 x fun dx => withD cs2 y fun dy =>
  match dy with
  | .dic kvs => keyD dx fun key => k (.d (.bl (if neg = true then !(getK kvs key).isSome else (getK kvs key).isSome))) cs2
  | _ => False
section
variable {X : Cx} {pos : Pos}
/-- d[k] -/
def dGetK (a b : DE) : DE := fun en cs k => a en cs fun x cs1 => b en cs1 fun y cs2 => withD cs2 x fun dx => withD cs2 y fun dy =>
  match dx with
  | .dic kvs => keyD dy fun key => match getK kvs key with
    | some d => k (.d d) cs2
    | none => False
  | _ => False
/-- {} that will be filled -/
def dDicC : DE := fun _ cs k => k (.c cs.length) (cs ++ [.dic []])
/-! ### slices -/
def DO := En → Cs → (Option Int → Cs → Prop) → Prop
structure QO (X : Cx) (e : Option Expr) (to : TO) (t : DO) : Prop where
  po : PO X e to
  sem : ∀ (σ : L2.St) (H S : Hp) (as : List Addr) (en : En) (cs : Cs) (k : Option Int → Cs → Prop) (Q : Option Int → Hp → Prop), Rep X.K S H as cs → EnvOk X.K S as en σ → t en cs k →
    (∀ (o : Option Int) (S' H' : Hp) (as' : List Addr) (cs' : Cs), Ext S as S' as' → Rep X.K S' H' as' cs' → k o cs' → Q o H') → to σ H Q
def dNoPart : DO := fun _ cs k => k none cs
def dPart (a : DE) : DO := fun en cs k => a en cs fun z cs1 => ∃ i, z = .d (.int i) ∧ k (some i) cs1
theorem qo_none : QO X none tNoPart dNoPart := ⟨po_none, fun σ H S as en cs k Q r e q p => p none S H as cs Ext.refl r q⟩
theorem qo_some {a : Expr} {ta : TE} {da : DE} (ha : QE X a ta da) : QO X (some a) (tPart ta) (dPart da) := by
  refine ⟨po_some ha.pe, fun σ H S as en cs k Q r e q p => ?_⟩
  refine ha.sem.use r e q fun z v S1 H1 as1 cs1 e1 r1 v1 q1 => ?_
  obtain ⟨i, rfl, q1⟩ := q1
  exact ⟨i, v1, p (some i) S1 H1 as1 cs1 e1 r1 q1⟩
def cutG {α : Type} (xs : List α) (lo hi : Option Int) : List α := (xs.drop (HT.sIx xs.length 0 lo)).take (HT.sIx xs.length xs.length hi - HT.sIx xs.length 0 lo)
def sliceD : D → Option Int → Option Int → (D → Prop) → Prop
  | .lst ds, lo, hi, k => k (.lst (cutG ds lo hi))
  | .tup ds, lo, hi, k => k (.tup (cutG ds lo hi))
  | _, _, _, _ => False
def rSlU (K : PySem.W.Frag) : V → Option Int → Option Int → Hp → VK → Prop := fun x lo hi H Q => rSlL K x lo hi H Q ∨ rSlA K x lo hi H Q
theorem sl_U : SlR X (rSlU X.K) := SlR.or sl_list sl_tupA
def dSl (a : DE) (lo hi : DO) : DE := fun en cs k => a en cs fun x cs1 => lo en cs1 fun l cs2 => hi en cs2 fun h cs3 => withD cs3 x fun dx => sliceD dx l h fun z => k (.d z) cs3
theorem IsL.cut {K : PySem.W.Frag} {S : Hp} {ds : List D} {vs : List V} (h : IsL K S ds vs) (lo hi : Option Int) : IsL K S (cutG ds lo hi) (cutV vs lo hi) := by
  unfold cutG cutV
  rw [h.len]
  exact (h.drop _).take _
theorem q_slice {a : Expr} {lo hi : Option Expr} {ta : TE} {da : DE} {tl th : TO} {dl dh : DO} {p2 : Pos} (ha : QE X a ta da) (hl : QO X lo tl dl) (hh : QO X hi th dh) : QE X (.Subscript a (.Slice lo hi none p2) pos) (tSl (rSlU X.K) ta tl th) (dSl da dl dh) := by
  refine ⟨pe_slice sl_U ha.pe hl.po hh.po, ?_⟩
  intro σ H S as en cs k Q rp e q p
  refine ha.sem.use rp e q fun z v S1 H1 as1 cs1 e1 r1 v1 q1 => ?_
  refine hl.sem σ H1 S1 as1 en cs1 _ _ r1 (e.mono e1) q1 fun l S2 H2 as2 cs2 e2 r2 q2 => ?_
  refine hh.sem σ H2 S2 as2 en cs2 _ _ r2 (e.mono (e1.trans e2)) q2 fun h S3 H3 as3 cs3 e3 r3 q3 => ?_
  obtain ⟨dx, l1, q3⟩ := withD_look q3
  have hx := look_sh r3 (v1.mono (e2.trans e3)) l1
  have E := (e1.trans e2).trans e3
  cases dx with
  | lst ds =>
    obtain ⟨ad, vs, rfl, hs, is⟩ := hx
    refine .inl ⟨ad, vs, rfl, SqL.of hs, fun b hb => ?_⟩
    have hn := Sub.new (o := .lst (cutV vs l h)) (r3.sub.free hb)
    exact p (.d (.lst _)) _ _ _ as3 cs3 (E.trans (Ext.of hn)) (r3.lay hb _) ⟨b, _, rfl, upd_same, IsL.mono hn _ _ (is.cut l h)⟩ q3
  | tup ds =>
    obtain ⟨ad, vs, rfl, hs, is⟩ := hx
    refine .inr ⟨ad, vs, rfl, r3.sub.t hs, fun w => ?_, fun _ b hb => ?_⟩
    · refine p (.d (.tup _)) _ S3 H3 as3 cs3 E r3 ⟨ad, vs, rfl, hs, ?_⟩ q3
      unfold cutG
      rw [← is.len, w.1, w.2, List.drop_zero, Nat.sub_zero, is.len, List.take_length]
      exact is
    · have hn := Sub.new (o := .tup (cutV vs l h)) (r3.sub.free hb)
      exact p (.d (.tup _)) _ _ _ as3 cs3 (E.trans (Ext.of hn)) (r3.lay hb _) ⟨b, _, rfl, SqT.of upd_same, IsL.mono hn _ _ (is.cut l h)⟩ q3
  | _ => exact q3.elim
/-- n.bit_length() -/
def dBits (a : DE) : DE := fun en cs k => a en cs fun z cs1 => ∃ i, z = .d (.int i) ∧ k (.d (.int (Builtin.Int.intBits i : Nat))) cs1
end
end DL
set_option Elab.async false
set_option linter.all false
set_option maxRecDepth 100000
set_option maxHeartbeats 2000000
namespace DL
open PySem L2

/-! ### targets -/
theorem wipe_set {σ : L2.St} {i : Nat} {o : Option V} : ∀ {own : List Nat}, i ∈ own → L2.wipe (σ.set i o) own = L2.wipe σ own
  | [], h => by simp at h
  | j :: js, h => by
    show (L2.wipe (σ.set i o) js).set j none = (L2.wipe σ js).set j none
    by_cases hj : i ∈ js
    · rw [wipe_set hj]
    · have e : i = j := by
        rcases List.mem_cons.mp h with e | e
        · exact e
        · exact absurd e hj
      subst e
      have far : ∀ (τ : L2.St) (ks : List Nat), i ∉ ks → L2.wipe (τ.set i o) ks = (L2.wipe τ ks).set i o := fun τ ks => by
        induction ks with
        | nil => intro _; rfl
        | cons k ks ih =>
          intro hk
          show (L2.wipe (τ.set i o) ks).set k none = ((L2.wipe τ ks).set k none).set i o
          rw [ih fun z => hk (List.mem_cons_of_mem _ z), List.set_comm _ _ (show i ≠ k from fun z => hk (z ▸ List.mem_cons_self))]
      rw [far σ js hj, List.set_set]
theorem wipe_wipe {σ : L2.St} : ∀ (own js : List Nat), (∀ j ∈ js, j ∈ own) → L2.wipe (L2.wipe σ js) own = L2.wipe σ own
  | _, [], _ => rfl
  | own, j :: js, h => by
    show L2.wipe ((L2.wipe σ js).set j none) own = _
    rw [wipe_set (h j List.mem_cons_self)]
    exact wipe_wipe own js fun k hk => h k (List.mem_cons_of_mem _ hk)
def GQ (K : PySem.W.Frag) (S : Hp) (as : List Addr) (σ : L2.St) (is : List Nat) (k : En → Cs → Prop) (Q : L2.St → Hp → Prop) : Prop :=
  ∀ (σ' : L2.St) (S' H' : Hp) (as' : List Addr) (en' : En) (cs' : Cs), Ext S as S' as' → Rep K S' H' as' cs' → EnvOk K S' as' en' σ' → (∀ own : List Nat, (∀ i ∈ is, i ∈ own) → L2.wipe σ' own = L2.wipe σ own) → k en' cs' → Q σ' H'
def SemG (K : PySem.W.Frag) (g : TG) (dg : DG) (is : List Nat) : Prop :=
  ∀ (z : Z) (v : V) (σ : L2.St) (H S : Hp) (as : List Addr) (en : En) (cs : Cs) (k : En → Cs → Prop) (Q : L2.St → Hp → Prop), Rep K S H as cs → EnvOk K S as en σ → VZ K S as z v → dg z en cs k → GQ K S as σ is k Q → g v σ H Q
def SemGs (K : PySem.W.Frag) (g : TGs) (dg : DGs) (is : List Nat) : Prop :=
  ∀ (ds : List D) (vs : List V) (σ : L2.St) (H S : Hp) (as : List Addr) (en : En) (cs : Cs) (k : En → Cs → Prop) (Q : L2.St → Hp → Prop), Rep K S H as cs → EnvOk K S as en σ → IsL K S ds vs → dg ds en cs k → GQ K S as σ is k Q → g vs σ H Q
structure QG (X : Cx) (tg : Expr) (g : TG) (dg : DG) (is : List Nat) : Prop where
  pg : PG X tg g
  sem : SemG X.K g dg is
structure QGs (X : Cx) (ts : List Expr) (g : TGs) (dg : DGs) (is : List Nat) : Prop where
  pgs : PGs X ts g
  sem : SemGs X.K g dg is
section
variable {X : Cx} {pos : Pos}
def dgName (i : Nat) : DG := fun z en cs k => k (en.set i (some z)) cs
theorem sem_gname {K : PySem.W.Frag} (i : Nat) : SemG K (gName i) (dgName i) [i] := by
  intro z v σ H S as en cs k Q r e vz h p
  exact p (σ.set i (some v)) S H as _ cs Ext.refl r (e.set vz i) (fun own ho => wipe_set (ho i List.mem_cons_self)) h
theorem qg_name (i : Nat) {x : Str} (hN : X.N.Nodup) (hi : X.N[i]? = some x := by rfl) (hx : Loc X.env.scope x := by first | exact Or.inl rfl | exact Or.inr rfl) (hf : X.fn x = true ∨ X.env.scope.names.lookup x = some .local := by first | exact .inl rfl | exact .inr rfl | assumption) : QG X (.Name x pos) (gName i) (dgName i) [i] := ⟨pg_name hN hi hx hf, sem_gname i⟩
def dgsNil : DGs := fun ds en cs k => ds = [] ∧ k en cs
def dgsCons (g : DG) (r : DGs) : DGs := fun ds en cs k => match ds with
  | d :: ds => g (.d d) en cs fun en1 cs1 => r ds en1 cs1 k
  | [] => False
theorem qgs_nil : QGs X [] gNil dgsNil [] := by
  refine ⟨pgs_nil, ?_⟩
  intro ds vs σ H S as en cs k Q r e hv h p
  obtain ⟨rfl, h⟩ := h
  rw [IsL] at hv
  exact ⟨hv, p σ S H as en cs Ext.refl r e (fun _ _ => rfl) h⟩
theorem qgs_cons {e : Expr} {es : List Expr} {g : TG} {gs : TGs} {dg : DG} {dgs : DGs} {is js : List Nat} (h1 : QG X e g dg is) (h2 : QGs X es gs dgs js) (hs : (assignEach (e :: es) X.env).map (·.2) = assign e X.env :: (assignEach es X.env).map (·.2) := by rfl) : QGs X (e :: es) (gCons g gs) (dgsCons dg dgs) (is ++ js) := by
  refine ⟨pgs_cons h1.pg h2.pgs hs, ?_⟩
  intro ds vs σ H S as en cs k Q r e hv h p
  cases ds with
  | nil => exact h.elim
  | cons d ds =>
    obtain ⟨v, vr, rfl, i1, i2⟩ := hv
    refine ⟨v, vr, rfl, h1.sem (.d d) v σ H S as en cs _ _ r e i1 h fun σ1 S1 H1 as1 en1 cs1 e1 r1 ev1 w1 q1 => ?_⟩
    refine h2.sem ds vr σ1 H1 S1 as1 en1 cs1 k Q r1 ev1 (IsL.mono e1.sub _ _ i2) q1 fun σ2 S2 H2 as2 en2 cs2 e2 r2 ev2 w2 q2 => ?_
    exact p σ2 S2 H2 as2 en2 cs2 (e1.trans e2) r2 ev2 (fun own ho => (w2 own fun i hi => ho i (List.mem_append_right _ hi)).trans (w1 own fun i hi => ho i (List.mem_append_left _ hi))) q2
def dgTup (n : Nat) (g : DGs) : DG := fun z en cs k => match z with
  | .d (.tup ds) => ds.length = n ∧ g ds en cs k
  | _ => False
theorem qg_tup {es : List Expr} {kk n : Nat} {g : TGs} {dg : DGs} {is : List Nat} (h : QGs X es g dg is) (hc : X.calm = true := by rfl) (hn : (assignEach es X.env).length = n := by rfl) (hst : (assignEach es X.env).findIdx? (·.1) = none := by rfl) :
    QG X (.Tuple es kk pos) (gTup X.K n g) (dgTup n dg) is := by
  refine ⟨pg_tup hc h.pgs hn hst, ?_⟩
  intro z v σ H S as en cs k Q r e vz hh p
  unfold dgTup at hh
  split at hh
  · obtain ⟨a, vs, rfl, hs, i⟩ := vz
    exact ⟨a, vs, rfl, r.sub.t hs, by rw [i.len]; exact hh.1, h.sem _ vs σ H S as en cs k Q r e i hh.2 p⟩
  · exact hh.elim
/-- xs[i] = v, xs a cell -/
def dgSet (o i : DE) : DG := fun z en cs k => o en cs fun x cs1 => i en cs1 fun y cs2 => match x, y, z with
  | .c n, .d (.int j), .d d => match cs2[n]? with
    | some (.lst ds) => ∃ m, ixN ds.length j = some m ∧ k en (cs2.set n (.lst (ds.set m d)))
    | _ => False
  | _, _, _ => False
theorem Rep.cell_lst {K : PySem.W.Frag} {S H : Hp} {as : List Addr} {cs : Cs} (r : Rep K S H as cs) {n : Nat} {a : Addr} {ds : List D} (h1 : as[n]? = some a) (h2 : cs[n]? = some (.lst ds)) : S a = none ∧ ∃ vs, H a = some (.lst vs) ∧ IsL K S ds vs := r.cel n a _ h1 h2
theorem qg_set {o i : Expr} {to ti : TE} {od id : DE} (ho : QE X o to od) (hi : QE X i ti id)
    (ha : ∀ v, assign (.Subscript o i pos) X.env v = (do
      let ov ← holding [v] (eval o X.env)
      let iv ← holding [v, ov] (eval i X.env)
      standAt pos
      holding [v, ov, iv] (setItem ov iv v)
      release [v, ov, iv] []) := by intro _; rfl) : QG X (.Subscript o i pos) (gSub to ti rSetL) (dgSet od id) [] := by
  refine ⟨pg_sub ho.pe hi.pe set_list ha, ?_⟩
  intro z v σ H S as en cs k Q r e vz hh p
  refine ho.sem.use r e hh fun z1 v1 S1 H1 as1 cs1 e1 r1 w1 q1 => ?_
  refine hi.sem.use r1 (e.mono e1) q1 fun z2 v2 S2 H2 as2 cs2 e2 r2 w2 q2 => ?_
  split at q2
  · rename_i n j d
    split at q2
    · rename_i ds hc
      obtain ⟨m, hm, q2⟩ := q2
      obtain ⟨a, ha1, rfl⟩ := w1.mono e2
      obtain ⟨hS, vs, hl, is⟩ := r2.cell_lst ha1 hc
      have vd : Is X.K S2 d v := Is.mono (e1.trans e2).sub _ _ vz
      refine ⟨a, vs, j, m, rfl, w2, hl, by rw [is.len]; exact hm, ?_⟩
      exact p σ S2 _ as2 en _ (e1.trans e2) (r2.put ha1 (c := .lst (ds.set m d)) ⟨hS, _, upd_same, is.set vd⟩ hS) (e.mono (e1.trans e2)) (fun _ _ => rfl) q2
    · exact q2.elim
  · exact q2.elim

/-! ### what is walked -/
structure Wk (K : PySem.W.Frag) (J : It) (S : Hp) (as : List Addr) (ds : List D) (keep : Cs → Prop) : Prop where
  stop : ∀ (S' H : Hp) (as' : List Addr) (cs : Cs) (i : Nat), Ext S as S' as' → Rep K S' H as' cs → keep cs → ds.length ≤ i → J.stop i H
  go : ∀ (S' H : Hp) (as' : List Addr) (cs : Cs) (i : Nat) (d : D), Ext S as S' as' → Rep K S' H as' cs → keep cs → ds[i]? = some d →
    J.go i H ∧ ∀ x H', J.yld i H x H' → ∃ S'', Sub S' S'' ∧ Rep K S'' H' as' cs ∧ Is K S'' d x
structure QI (X : Cx) (tg iter : Expr) (wi : TI) (it : DI) : Prop where
  pi : PI X tg iter wi
  sem : ∀ (σ : L2.St) (H S : Hp) (as : List Addr) (en : En) (cs : Cs) (k : List D → (Cs → Prop) → Cs → Prop) (R : It → Hp → Prop), Rep X.K S H as cs → EnvOk X.K S as en σ → it en cs k →
    (∀ (J : It) (S' H' : Hp) (as' : List Addr) (ds : List D) (keep : Cs → Prop) (cs' : Cs), Ext S as S' as' → Rep X.K S' H' as' cs' → Wk X.K J S' as' ds keep → k ds keep cs' → R J H') → wi σ H R
def yes : Cs → Prop := fun _ => True
/-- a list or tuple, and which cells must stay -/
def seqD (cs : Cs) (z : Z) (k : List D → (Cs → Prop) → Prop) : Prop :=
  match z with
  | .d (.lst ds) => k ds yes
  | .d (.tup ds) => k ds yes
  | .d (.scr ns) => k (ns.map D.int) yes
  | .c n => match cs[n]? with
    | some (.lst ds) => k ds fun c => c[n]? = some (.lst ds)
    | _ => False
  | _ => False
def diSeq (a : DE) : DI := fun en cs k => a en cs fun z cs1 => seqD cs1 z fun ds keep => k ds keep cs1
def iSeq (K : PySem.W.Frag) (tl : TE) : TI := fun σ H R => tl σ H fun x H1 => ∃ a, x = .ref a ∧ ((∃ xs, SqL K H1 a xs ∧ R (Itl K a) H1) ∨ ∃ xs, SqT K H1 a xs ∧ R (Itt K a) H1)
theorem pi_seq {tg l : Expr} {tl : TE} (hl : PE X l tl) : PI X tg l (iSeq X.K tl) := by
  refine ⟨fun pins s σ H R I h => thn (hl.run pins s σ H _ I h) fun v s1 ⟨x, H1, I1, r1, a, e, q⟩ => ?_⟩
  subst e
  cases r1
  have fp : ∀ {c : String} (b : Addr), b ∈ [s1.heap.objs.size] → FpOk X pins H1 b := fun b hb => by
    have e : b = s1.heap.objs.size := by simpa using hb
    subst e
    exact I1.fpOk (Nat.le_refl _) (I1.hok.fresh (Nat.le_refl _))
  rcases q with ⟨xs, hq, q⟩ | ⟨xs, hq, q⟩
  · obtain ⟨its, rv, pl, hz⟩ := I1.list hq
    exact wpAny_pyIter_list pl.isList ⟨_, [s1.heap.objs.size], _, _, H1, rfl, I1.kept (t' := s1.toks) fun b o e => Heap.get?_push_of_some _ e, turn_list a _, ⟨_, Heap.get?_push_size _ rfl, rfl, rfl⟩, fp (c := ""), q⟩
  · obtain ⟨its, rv, pl, hz⟩ := I1.tuple hq
    exact wpAny_pyIter_tuple pl ⟨_, [s1.heap.objs.size], _, _, H1, rfl, I1.kept (t' := s1.toks) fun b o e => Heap.get?_push_of_some _ e, turn_tuple a _, ⟨_, Heap.get?_push_size _ rfl, rfl, rfl⟩, fp (c := ""), q⟩
theorem wk_l {K : PySem.W.Frag} {S : Hp} {as : List Addr} {ds : List D} {keep : Cs → Prop} {a : Addr}
    (h : ∀ (S' H : Hp) (as' : List Addr) (cs : Cs), Ext S as S' as' → Rep K S' H as' cs → keep cs → ∃ vs, SqL K H a vs ∧ IsL K S' ds vs) : Wk K (Itl K a) S as ds keep := by
  refine ⟨fun S' H as' cs i e r kp hi => ?_, fun S' H as' cs i d e r kp hi => ?_⟩
  · obtain ⟨vs, h1, h2⟩ := h S' H as' cs e r kp
    exact ⟨vs, h1, by rw [h2.len]; exact hi⟩
  · obtain ⟨vs, h1, h2⟩ := h S' H as' cs e r kp
    obtain ⟨v, hv, iv⟩ := h2.get hi
    refine ⟨⟨vs, v, h1, hv⟩, fun x H' y => ?_⟩
    obtain ⟨rfl, f⟩ := y
    have ex : v = x := Option.some.inj (hv.symm.trans (f vs h1))
    subst ex
    exact ⟨S', Sub.refl S', r, iv⟩
theorem wk_t {K : PySem.W.Frag} {S : Hp} {as : List Addr} {ds : List D} {a : Addr} {vs : List V} (h1 : SqT K S a vs) (h2 : IsL K S ds vs) : Wk K (Itt K a) S as ds yes := by
  refine ⟨fun S' H as' cs i e r kp hi => ⟨vs, r.sub.t (e.sub.t h1), by rw [h2.len]; exact hi⟩, fun S' H as' cs i d e r kp hi => ?_⟩
  obtain ⟨v, hv, iv⟩ := h2.get hi
  have ht := r.sub.t (e.sub.t h1)
  refine ⟨⟨vs, v, ht, hv⟩, fun x H' y => ?_⟩
  obtain ⟨rfl, f⟩ := y
  have ex : v = x := Option.some.inj (hv.symm.trans (f vs ht))
  subst ex
  exact ⟨S', Sub.refl S', r, Is.mono e.sub _ _ iv⟩
theorem qi_seq {tg l : Expr} {tl : TE} {dl : DE} (hl : QE X l tl dl) : QI X tg l (iSeq X.K tl) (diSeq dl) := by
  refine ⟨pi_seq hl.pe, fun σ H S as en cs k R r e h p => ?_⟩
  refine hl.sem.use r e h fun z v S1 H1 as1 cs1 e1 r1 v1 q1 => ?_
  unfold seqD at q1
  split at q1
  · obtain ⟨a, vs, rfl, hs, is⟩ := v1
    exact ⟨a, rfl, .inl ⟨vs, SqL.of (r1.sub _ _ hs), p _ S1 H1 as1 _ yes cs1 e1 r1 (wk_l fun S' H as' cs e r _ => ⟨vs, SqL.of (r.sub _ _ (e.sub _ _ hs)), IsL.mono e.sub _ _ is⟩) q1⟩⟩
  · obtain ⟨a, vs, rfl, hs, is⟩ := v1
    exact ⟨a, rfl, .inr ⟨vs, r1.sub.t hs, p _ S1 H1 as1 _ yes cs1 e1 r1 (wk_t hs is) q1⟩⟩
  · obtain ⟨a, rfl, hs⟩ := v1
    exact ⟨a, rfl, .inl ⟨_, r1.sub.l hs, p _ S1 H1 as1 _ yes cs1 e1 r1 (wk_l fun S' H as' cs e r _ => ⟨_, r.sub.l (e.sub.l hs), isL_ints _⟩) q1⟩⟩
  · rename_i n
    obtain ⟨a, ha, rfl⟩ := v1
    split at q1
    · rename_i ds hc
      obtain ⟨hS, vs, hl, is⟩ := r1.cell_lst ha hc
      refine ⟨a, rfl, .inl ⟨vs, SqL.of hl, p _ S1 H1 as1 _ _ cs1 e1 r1 (wk_l fun S' H as' cs e r kp => ?_) q1⟩⟩
      obtain ⟨_, vs', hl', is'⟩ := r.cell_lst (e.get ha) kp
      exact ⟨vs', SqL.of hl', is'⟩
    · exact q1.elim
  · exact q1.elim
/-- range(n), range(a, b) -/
def rgD (lo : Int) (n : Nat) : List D := (List.range n).map fun (i : Nat) => D.int (lo + (i : Int))
theorem rgD_len (lo : Int) (n : Nat) : (rgD lo n).length = n := by unfold rgD; rw [List.length_map, List.length_range]
theorem rgD_get {lo : Int} {n i : Nat} {d : D} (h : (rgD lo n)[i]? = some d) : i < n ∧ d = .int (lo + (i : Int)) := by
  unfold rgD at h
  rw [List.getElem?_map] at h
  cases q : (List.range n)[i]? with
  | none => rw [q] at h; cases h
  | some j =>
    rw [q] at h
    have hl := (List.getElem?_eq_some_iff.mp q)
    obtain ⟨h1, h2⟩ := hl
    rw [List.getElem_range] at h2
    subst h2
    rw [List.length_range] at h1
    exact ⟨h1, (Option.some.inj h).symm⟩
def Rg (i : Int) : Prop := -(2 ^ 62) ≤ i ∧ i < 2 ^ 62
theorem wk_r {K : PySem.W.Frag} {S : Hp} {as : List Addr} {lo : Int} {n : Nat} : Wk K (Itr lo n) S as (rgD lo n) yes := by
  refine ⟨fun S' H as' cs i e r kp hi => by rw [rgD_len] at hi; exact hi, fun S' H as' cs i d e r kp hi => ?_⟩
  obtain ⟨h1, rfl⟩ := rgD_get hi
  exact ⟨h1, fun x H' y => ⟨S', Sub.refl S', by rw [y.1]; exact r, y.2⟩⟩
def diR1 (a : DE) : DI := fun en cs k => a en cs fun z cs1 => ∃ j, z = .d (.int j) ∧ Rg j ∧ k (rgD 0 j.toNat) yes cs1
def diR2 (a b : DE) : DI := fun en cs k => a en cs fun z cs1 => b en cs1 fun w cs2 => ∃ i j, z = .d (.int i) ∧ w = .d (.int j) ∧ (Rg i ∧ Rg j) ∧ k (rgD i (j - i).toNat) yes cs2
theorem qi_range1 {tg a : Expr} {ta : TE} {da : DE} {p : Pos} (hm : X.mg "range" = none) (ha : QE X a ta da) (hg : Gl X "range" := by rfl) (hs : starEach [a] X.env = [(false, eval a X.env)] := by rfl) : QI X tg (.Call (.Name "range" p) [a] [] pos) (iRng1 (tCons ta tNil)) (diR1 da) := by
  refine ⟨pi_range1 hg hm (pa_cons ha.pe pa_nil hs) hs, fun σ H S as en cs k R r e h p => ?_⟩
  refine ha.sem.use r e h fun z v S1 H1 as1 cs1 e1 r1 v1 q1 => ?_
  obtain ⟨j, rfl, ⟨b1, b2⟩, q1⟩ := q1
  rw [show v = .int j from v1]
  exact ⟨j, rfl, b1, b2, p _ S1 H1 as1 _ yes cs1 e1 r1 wk_r q1⟩
/-- enumerate(xs) -/
def enumD (ds : List D) : List D := ds.zipIdx.map fun p => D.tup [.int (p.2 : Int), p.1]
theorem enumD_get {ds : List D} {i : Nat} {x : D} (h : (enumD ds)[i]? = some x) : ∃ d, ds[i]? = some d ∧ x = .tup [.int (i : Int), d] := by
  unfold enumD at h
  rw [List.getElem?_map, List.getElem?_zipIdx] at h
  cases q : ds[i]? with
  | none => rw [q] at h; cases h
  | some d =>
    rw [q] at h
    have e := Option.some.inj h
    refine ⟨d, rfl, ?_⟩
    rw [← e]
    simp
theorem enumD_len (ds : List D) : (enumD ds).length = ds.length := by unfold enumD; rw [List.length_map, List.length_zipIdx]
def diEnum (a : DE) : DI := fun en cs k => a en cs fun z cs1 => match z with
  | .d (.tup _) => False
  | z => seqD cs1 z fun ds keep => k (enumD ds) keep cs1
theorem wk_e {K : PySem.W.Frag} {S : Hp} {as : List Addr} {ds : List D} {keep : Cs → Prop} {a : Addr}
    (h : ∀ (S' H : Hp) (as' : List Addr) (cs : Cs), Ext S as S' as' → Rep K S' H as' cs → keep cs → ∃ vs, SqL K H a vs ∧ IsL K S' ds vs) : Wk K (Ite K a) S as (enumD ds) keep := by
  refine ⟨fun S' H as' cs i e r kp hi => ?_, fun S' H as' cs i d e r kp hi => ?_⟩
  · obtain ⟨vs, h1, h2⟩ := h S' H as' cs e r kp
    rw [enumD_len] at hi
    exact ⟨vs, h1, by rw [h2.len]; exact hi⟩
  · obtain ⟨d', hd, rfl⟩ := enumD_get hi
    obtain ⟨vs, h1, h2⟩ := h S' H as' cs e r kp
    obtain ⟨v, hv, iv⟩ := h2.get hd
    refine ⟨⟨vs, v, h1, hv⟩, fun x H' y => ?_⟩
    obtain ⟨T, x', rfl, nT, rfl, f⟩ := y
    have ex : v = x' := Option.some.inj (hv.symm.trans (f vs h1))
    subst ex
    have hn := Sub.new (o := .tup [.int (i : Nat), v]) (r.sub.free nT)
    exact ⟨_, hn, r.lay nT _, T, _, rfl, SqT.of upd_same, ⟨_, _, rfl, rfl, ⟨_, _, rfl, Is.mono hn _ _ iv, rfl⟩⟩⟩
end
end DL
set_option Elab.async false
set_option linter.all false
set_option maxRecDepth 100000
set_option maxHeartbeats 2000000
namespace DL
open PySem L2

/-! ### list comprehensions -/
/-- a clause's test -/
structure QTs (X : Cx) (ifs : List Expr) (tt : TT) (t : DT) : Prop where
  pts : PTs X ifs tt
  sem : SemT X.K tt t
def dYes : DT := fun _ cs k => k true cs
section
variable {X : Cx} {pos : Pos}
theorem qts_nil : QTs X [] tYes dYes := ⟨pts_nil, fun σ H S as en cs k Q r e q p => p true S H as cs Ext.refl r q⟩
/-- fin: what is made of the list -/
def dLcG (fin : (Z → Cs → Prop) → List D → Cs → Prop) (it : DI) (g : DG) (tt : DT) (te : DE) (own : List Nat) : DE := fun en cs k => it en cs fun ds keep cs1 => ∃ I : Nat → List D → Cs → Prop,
  I 0 [] cs1 ∧ (∀ i acc c, I i acc c → c.length = cs1.length ∧ keep (c ++ [.lst acc])) ∧
  (∀ i d acc c, ds[i]? = some d → I i acc c → g (.d d) (wipeD en own) (c ++ [.lst acc]) fun en2 cs2 => tt en2 cs2 fun b cs3 =>
    if b = true then te en2 cs3 fun z cs4 => ∃ y c', z = .d y ∧ cs4.take (c.length + 1) = c' ++ [.lst acc] ∧ c'.length = c.length ∧ acc.length < LIM ∧ I (i + 1) (acc ++ [y]) c'
    else ∃ c', cs3.take (c.length + 1) = c' ++ [.lst acc] ∧ c'.length = c.length ∧ I (i + 1) acc c') ∧
  ∀ acc c, I ds.length acc c → fin k acc c
/-- the list does not change; it will -/
def finD (k : Z → Cs → Prop) (acc : List D) (c : Cs) : Prop := k (.d (.lst acc)) c
def finC (k : Z → Cs → Prop) (acc : List D) (c : Cs) : Prop := k (.c c.length) (c ++ [.lst acc])
abbrev dLc := dLcG finD
def FinOk (K : PySem.W.Frag) (fin : (Z → Cs → Prop) → List D → Cs → Prop) : Prop :=
  ∀ (S H : Hp) (as : List Addr) (c : Cs) (p : Addr) (acc : List D) (k : Z → Cs → Prop) (Q : VK), Rep K S H (as ++ [p]) (c ++ [.lst acc]) → fin k acc c → PQ K S as k Q → Q (.ref p) H
theorem Rep.last {K : PySem.W.Frag} {S H : Hp} {as : List Addr} {c : Cs} {p : Addr} {acc : List D} (r : Rep K S H (as ++ [p]) (c ++ [.lst acc])) : as.length = c.length ∧ S p = none ∧ ∃ vs, H p = some (.lst vs) ∧ IsL K S acc vs := by
  have hl : as.length = c.length := by
    have := r.len
    simp only [List.length_append, List.length_cons, List.length_nil] at this
    omega
  have h := r.cell_lst (n := c.length) (a := p) (ds := acc) (by rw [← hl, List.getElem?_append_right (Nat.le_refl _), Nat.sub_self]; rfl) (by rw [List.getElem?_append_right (Nat.le_refl _), Nat.sub_self]; rfl)
  exact ⟨hl, h⟩
theorem Rep.init {K : PySem.W.Frag} {S H : Hp} {as : List Addr} {c : Cs} {p : Addr} {x : D} (r : Rep K S H (as ++ [p]) (c ++ [x])) : Rep K S H as c := by
  have hl : as.length = c.length := by
    have := r.len
    simp only [List.length_append, List.length_cons, List.length_nil] at this
    omega
  have t := r.take as.length
  rw [List.take_left, hl, List.take_left] at t
  exact t
/-- a cell's list is known from now on -/
theorem Rep.freeze {K : PySem.W.Frag} {S H : Hp} {as : List Addr} {c : Cs} {p : Addr} {o : HO} (r : Rep K S H as c) (np : p ∉ as) (hp : H p = some o) (hS : S p = none) (hn : ∀ q ∈ tabsK K, q.1 ≠ p) : Rep K (upd S p o) H as c := by
  refine ⟨fun a u e => ?_, r.len, r.nod, fun n a d e1 e2 => ?_, r.liv, fun q hq => ⟨by rw [upd_ne (hn q hq)]; exact (r.tab q hq).1, (r.tab q hq).2⟩⟩
  · by_cases ha : a = p
    · subst ha
      rw [upd_same] at e
      rw [hp]; exact e
    · rw [upd_ne ha] at e
      exact r.sub a u e
  · have ne : a ≠ p := fun z => np (z ▸ List.mem_of_getElem? e1)
    exact CelAt.mono (Sub.new hS) (fun q => by rw [upd_ne ne]; exact q) rfl (r.cel n a d e1 e2)
theorem fin_d {K : PySem.W.Frag} : FinOk K finD := by
  intro S H as c p acc k Q r h q
  obtain ⟨hl, hS, vs, hp, is⟩ := r.last
  have np : p ∉ as := by
    have := r.nod
    rw [List.nodup_append] at this
    exact fun z => this.2.2 p z p (by simp) rfl
  have hn := Sub.new (o := .lst vs) hS
  exact q (.d (.lst acc)) (.ref p) (upd S p (.lst vs)) H as c (Ext.of hn) (r.init.freeze np hp hS (r.notab (by simp))) ⟨p, vs, rfl, upd_same, IsL.mono hn _ _ is⟩ h
theorem sem_lc {K : PySem.W.Frag} {fin : (Z → Cs → Prop) → List D → Cs → Prop} {wi : TI} {g : TG} {tt : TT} {te : TE} {it : DI} {dg : DG} {dt : DT} {de : DE} {is own : List Nat} (hf : FinOk K fin)
    (hi : ∀ (σ : L2.St) (H S : Hp) (as : List Addr) (en : En) (cs : Cs) (k : List D → (Cs → Prop) → Cs → Prop) (R : It → Hp → Prop), Rep K S H as cs → EnvOk K S as en σ → it en cs k →
      (∀ (J : It) (S' H' : Hp) (as' : List Addr) (ds : List D) (keep : Cs → Prop) (cs' : Cs), Ext S as S' as' → Rep K S' H' as' cs' → Wk K J S' as' ds keep → k ds keep cs' → R J H') → wi σ H R)
    (hg : SemG K g dg is) (ht : SemT K tt dt) (he : SemE K te de) (hw : ∀ i ∈ is, i ∈ own) : SemE K (tLc wi g tt te own) (dLcG fin it dg dt de own) := by
  intro σ H S as en cs k Q rp ev q p
  refine hi σ H S as en cs _ _ rp ev q fun J S1 H1 as1 ds keep cs1 e1 r1 wk q1 => ?_
  obtain ⟨I, i0, ik, step, done⟩ := q1
  intro Dl hD
  have rc : Rep K S1 (upd H1 Dl (.lst [])) (as1 ++ [Dl]) (cs1 ++ [.lst []]) := r1.cell hD (c := .lst []) ⟨r1.sub.free hD, [], upd_same, rfl⟩
  refine ⟨fun i m H' => m = ds.length - i ∧ i ≤ ds.length ∧ ∃ S' acc c, Sub S1 S' ∧ Rep K S' H' (as1 ++ [Dl]) (c ++ [.lst acc]) ∧ I i acc c, ⟨ds.length, by omega, Nat.zero_le _, S1, [], cs1, Sub.refl _, rc, i0⟩, ?_⟩
  rintro i m H' ⟨rfl, hi', S', acc, c, s', r', hI⟩
  have ex : Ext S1 as1 S' (as1 ++ [Dl]) := ⟨s', [Dl], rfl⟩
  have kp := (ik i acc c hI).2
  have lc := r'.last
  by_cases hlt : i < ds.length
  · obtain ⟨d, hd⟩ : ∃ d, ds[i]? = some d := ⟨ds[i], List.getElem?_eq_getElem hlt⟩
    obtain ⟨go, yl⟩ := wk.go S' H' (as1 ++ [Dl]) _ i d ex r' kp hd
    refine .inr ⟨go, fun H'' => ∃ S'' acc' c', Sub S1 S'' ∧ Rep K S'' H'' (as1 ++ [Dl]) (c' ++ [.lst acc']) ∧ I (i + 1) acc' c', fun H'' ⟨S'', acc', c', a1, a2, a3⟩ => ⟨ds.length - (i + 1), by omega, rfl, hlt, S'', acc', c', a1, a2, a3⟩, fun x H'' y => ?_⟩
    obtain ⟨S2, s2, r2, ix⟩ := yl x H'' y
    have ex2 : Ext S as S2 (as1 ++ [Dl]) := e1.trans (ex.trans (Ext.of s2))
    refine hg (.d d) x _ H'' S2 (as1 ++ [Dl]) (wipeD en own) _ _ _ r2 ((ev.mono ex2).wipe own) ix (step i d acc c hd hI) fun σ3 S3 H3 as3 en3 cs3 e3 r3 ev3 w3 q3 => ?_
    refine ⟨by rw [w3 own hw, wipe_wipe own own fun _ h => h], ?_⟩
    refine ht σ3 H3 S3 as3 en3 cs3 _ _ r3 ev3 q3 fun b S4 H4 as4 cs4 e4 r4 q4 => ?_
    have back : ∀ {S5 H5 : Hp} {as5 : List Addr} {cs5 : Cs} {c' : Cs}, Ext S2 (as1 ++ [Dl]) S5 as5 → Rep K S5 H5 as5 cs5 → cs5.take (c.length + 1) = c' ++ [.lst acc] → c'.length = c.length → Rep K S5 H5 (as1 ++ [Dl]) (c' ++ [.lst acc]) := fun {S5 H5 as5 cs5 c'} e5 r5 t5 l5 => by
      have t := r5.take (c.length + 1)
      rw [t5] at t
      obtain ⟨mr, rfl⟩ := e5.pre
      have hz : (as1 ++ [Dl]).length = c.length + 1 := by rw [List.length_append, lc.1]; rfl
      rw [← hz, List.take_left] at t
      exact t
    cases b with
    | false =>
      rw [if_neg Bool.false_ne_true] at q4 ⊢
      obtain ⟨c', t4, l4, hI'⟩ := q4
      exact ⟨S4, acc, c', (s'.trans s2).trans (e3.sub.trans e4.sub), back (e3.trans e4) r4 t4 l4, hI'⟩
    | true =>
      rw [if_pos rfl] at q4 ⊢
      refine he.use r4 (ev3.mono e4) q4 fun z v S5 H5 as5 cs5 e5 r5 v5 q5 => ?_
      obtain ⟨y, c', rfl, t5, l5, hz, hI'⟩ := q5
      have r6 := back ((e3.trans e4).trans e5) r5 t5 l5
      obtain ⟨hl6, hS6, vs, hp6, is6⟩ := r6.last
      refine ⟨vs, hp6, by rw [is6.len]; exact size_lt hz, S5, acc ++ [y], c', (s'.trans s2).trans ((e3.sub.trans e4.sub).trans e5.sub), ?_, hI'⟩
      have r7 := r6.put (n := c'.length) (a := Dl) (o := .lst (vs ++ [v])) (c := .lst (acc ++ [y])) (by rw [← hl6, List.getElem?_append_right (Nat.le_refl _), Nat.sub_self]; rfl) ⟨hS6, _, upd_same, is6.append ⟨v, [], rfl, v5, rfl⟩⟩ hS6
      rw [List.set_append_right _ _ (Nat.le_refl _), Nat.sub_self] at r7
      exact r7
  · have ei : i = ds.length := by omega
    subst ei
    refine .inl ⟨wk.stop S' H' (as1 ++ [Dl]) _ _ ex r' kp (Nat.le_refl _), ?_⟩
    exact hf S' H' as1 c Dl acc k Q r' (done acc c hI) (p.mono (e1.trans (Ext.of s')))
theorem q_lcG {elt tg iter : Expr} {ifs : List Expr} {scope : Scope} {own : List (Str × Nat)} {fin : (Z → Cs → Prop) → List D → Cs → Prop} {wi : TI} {g : TG} {tt : TT} {te : TE} {it : DI} {dg : DG} {dt : DT} {de : DE} {is : List Nat} (hf : FinOk X.K fin) (hN : X.N.Nodup) (hi : QI X tg iter wi it) (ok : BlkOk X.N X.env.scope scope own)
    (hg : ∀ (s : Shared) (H : Hp) (C : Addr) (cl : List (Str × Addr)) (fp : List Addr), QG (X.blk s H scope (compEnvC scope cl C X.env) fp) tg g dg is) (ht : ∀ (s : Shared) (H : Hp) (C : Addr) (cl : List (Str × Addr)) (fp : List Addr), QTs (X.blk s H scope (compEnvC scope cl C X.env) fp) ifs tt dt)
    (he : ∀ (s : Shared) (H : Hp) (C : Addr) (cl : List (Str × Addr)) (fp : List Addr), QE (X.blk s H scope (compEnvC scope cl C X.env) fp) elt te de) (s0 : Shared) (hw : ∀ i ∈ is, i ∈ own.map (·.2)) (hc : X.calm = true := by rfl) (hs : ∀ x, foldedSetIterable iter X.env x = pure x := by intro _; rfl) :
    QE X (.ListComp elt [⟨tg, iter, ifs, 0⟩] scope pos) (tLc wi g tt te (own.map (·.2))) (dLcG fin it dg dt de (own.map (·.2))) :=
  ⟨pe_lc hc hN hi.pi ok (fun s H C cl fp => (hg s H C cl fp).pg) (fun s H C cl fp => (ht s H C cl fp).pts) (fun s H C cl fp => (he s H C cl fp).pe) hs,
    sem_lc hf hi.sem (hg s0 (fun _ => none) 0 [] []).sem (ht s0 (fun _ => none) 0 [] []).sem (he s0 (fun _ => none) 0 [] []).sem hw⟩

/-! ### statements -/
structure EnK (K : PySem.W.Frag) (S : Hp) (as : List Addr) (D : DEnds) (E : Ends) : Prop where
  nx : ∀ (σ' : L2.St) (S' H' : Hp) (as' : List Addr) (en' : En) (cs' : Cs), Ext S as S' as' → Rep K S' H' as' cs' → EnvOk K S' as' en' σ' → D.nx en' cs' → E.nx σ' H'
  rt : PQ K S as D.rt E.rt
  bk : ∀ (σ' : L2.St) (S' H' : Hp) (as' : List Addr) (en' : En) (cs' : Cs), Ext S as S' as' → Rep K S' H' as' cs' → EnvOk K S' as' en' σ' → D.bk en' cs' → E.bk σ' H'
  ct : ∀ (σ' : L2.St) (S' H' : Hp) (as' : List Addr) (en' : En) (cs' : Cs), Ext S as S' as' → Rep K S' H' as' cs' → EnvOk K S' as' en' σ' → D.ct en' cs' → E.ct σ' H'
theorem EnK.mono {K : PySem.W.Frag} {S T : Hp} {as bs : List Addr} {D : DEnds} {E : Ends} (e : Ext S as T bs) (h : EnK K S as D E) : EnK K T bs D E :=
  ⟨fun σ' S' H' as' en' cs' e' => h.nx σ' S' H' as' en' cs' (e.trans e'), h.rt.mono e, fun σ' S' H' as' en' cs' e' => h.bk σ' S' H' as' en' cs' (e.trans e'), fun σ' S' H' as' en' cs' e' => h.ct σ' S' H' as' en' cs' (e.trans e')⟩
def SemS (K : PySem.W.Frag) (ts : TS) (t : DS) : Prop :=
  ∀ (σ : L2.St) (H S : Hp) (as : List Addr) (en : En) (cs : Cs) (D : DEnds) (E : Ends), Rep K S H as cs → EnvOk K S as en σ → t D en cs → EnK K S as D E → ts E σ H
structure QS (X : Cx) (st : Stmt) (ts : TS) (t : DS) : Prop where
  ps : PS X st ts
  sem : SemS X.K ts t
structure QSs (X : Cx) (st : List Stmt) (ts : TS) (t : DS) : Prop where
  pss : PSs X st ts
  sem : SemS X.K ts t
def dNext : DS := fun D en cs => D.nx en cs
def dSeq (t u : DS) : DS := fun D en cs => t { D with nx := u D } en cs
theorem qss_nil : QSs X [] tNext dNext := ⟨pss_nil, fun σ H S as en cs D E r e q p => p.nx σ S H as en cs Ext.refl r e q⟩
theorem qss_one {st : Stmt} {ts : TS} {t : DS} (h : QS X st ts t) : QSs X [st] ts t := ⟨pss_one h.ps, h.sem⟩
theorem qss_cons {st : Stmt} {rest : List Stmt} {ts us : TS} {t u : DS} (h1 : QS X st ts t) (h2 : QSs X rest us u) : QSs X (st :: rest) (tSeq ts us) (dSeq t u) := by
  refine ⟨pss_cons h1.ps h2.pss, ?_⟩
  intro σ H S as en cs D E r e q p
  exact h1.sem σ H S as en cs { D with nx := u D } { E with nx := us E } r e q ⟨fun σ' S' H' as' en' cs' e' r' ev' q' => h2.sem σ' H' S' as' en' cs' D E r' ev' q' (p.mono e'), p.rt, p.bk, p.ct⟩
def dBreak : DS := fun D en cs => D.bk en cs
def dCont : DS := fun D en cs => D.ct en cs
def dDrop (a : DE) : DS := fun D en cs => a en cs fun _ cs1 => D.nx en cs1
theorem qs_expr {e : Expr} {te : TE} {de : DE} (he : QE X e te de) (hs : swapsWith e none pos.line X.env = pure false := by rfl) : QS X (.Expr e pos) (tDrop te) (dDrop de) := by
  refine ⟨ps_expr he.pe hs, ?_⟩
  intro σ H S as en cs D E r e q p
  exact he.sem.use r e q fun z v S1 H1 as1 cs1 e1 r1 v1 q1 => p.nx σ S1 H1 as1 en cs1 e1 r1 (e.mono e1) q1
def dRet (a : DE) : DS := fun D en cs => a en cs D.rt
theorem qs_ret {e : Expr} {te : TE} {de : DE} (he : QE X e te de) : QS X (.Return (some e) pos) (tRet te) (dRet de) := ⟨ps_ret he.pe, fun σ H S as en cs D E r e q p => he.sem.use r e q p.rt⟩
def dRetN : DS := fun D _ cs => D.rt (.d .non) cs
def dIfS (c : DT) (t u : DS) : DS := fun D en cs => c en cs fun b cs1 => if b = true then t D en cs1 else u D en cs1
theorem qs_if {c : Expr} {a b : List Stmt} {tc : TT} {ta tb : TS} {dc : DT} {da db : DS} (hc : QT X c tc dc) (ha : QSs X a ta da) (hb : QSs X b tb db) : QS X (.If c a b pos) (tIfS tc ta tb) (dIfS dc da db) := by
  refine ⟨ps_if hc.pt ha.pss hb.pss, ?_⟩
  intro σ H S as en cs D E r e q p
  refine hc.sem σ H S as en cs _ _ r e q fun b S1 H1 as1 cs1 e1 r1 q1 => ?_
  cases b with
  | true =>
    rw [if_pos rfl] at q1 ⊢
    exact ha.sem σ H1 S1 as1 en cs1 D E r1 (e.mono e1) q1 (p.mono e1)
  | false =>
    rw [if_neg Bool.false_ne_true] at q1 ⊢
    exact hb.sem σ H1 S1 as1 en cs1 D E r1 (e.mono e1) q1 (p.mono e1)
/-- never reached -/
def dNever : DS := fun _ _ _ => False
theorem qs_never {st : Stmt} : QS X st tNever dNever := ⟨ps_never, fun _ _ _ _ _ _ _ _ _ _ q _ => q.elim⟩
def dAsg (a : DE) (g : DG) : DS := fun D en cs => a en cs fun z cs1 => g z en cs1 D.nx
theorem sem_asg {K : PySem.W.Frag} {te : TE} {g : TG} {de : DE} {dg : DG} {is : List Nat} (he : SemE K te de) (hg : SemG K g dg is) : SemS K (tAsg te g) (dAsg de dg) := by
  intro σ H S as en cs D E r e q p
  refine he.use r e q fun z v S1 H1 as1 cs1 e1 r1 v1 q1 => ?_
  exact hg z v σ H1 S1 as1 en cs1 _ _ r1 (e.mono e1) v1 q1 fun σ' S' H' as' en' cs' e' r' ev' _ q' => p.nx σ' S' H' as' en' cs' (e1.trans e') r' ev' q'
theorem qs_asg {tg e : Expr} {te : TE} {g : TG} {de : DE} {dg : DG} {is : List Nat} (he : QE X e te de) (hg : QG X tg g dg is) (hs : swapsWithSole [tg] e pos.line X.env = pure false := by rfl) (hw : swappedStores [tg] e X.env = pure none := by rfl)
    (h1 : (assignEach [tg] X.env).map (·.2) = [assign tg X.env] := by rfl) : QS X (.Assign [tg] e pos) (tAsg te g) (dAsg de dg) := ⟨ps_asg he.pe hg.pg hs hw h1, sem_asg he.sem hg.sem⟩
theorem qs_set (i : Nat) {x : Str} {e : Expr} {te : TE} {de : DE} {pos' : Pos} (hN : X.N.Nodup) (he : QE X e te de) (hi : X.N[i]? = some x := by rfl) (hx : Loc X.env.scope x := by first | exact Or.inl rfl | exact Or.inr rfl) (hs : swapsWith e (some (.Name x pos')) pos.line X.env = pure false := by rfl) (hf : X.fn x = true ∨ X.env.scope.names.lookup x = some .local := by first | exact .inl rfl | exact .inr rfl | assumption) :
    QS X (.Assign [.Name x pos'] e pos) (tAsg te (gName i)) (dAsg de (dgName i)) := ⟨ps_set hN hi hx he.pe hs hf, sem_asg he.sem (sem_gname i)⟩
/-- a, b = x, y -/
def dPar (i j : Nat) (a : DA) : DS := fun D en cs => a en cs fun zs cs1 => match zs with
  | [z, w] => D.nx ((en.set i (some z)).set j (some w)) cs1
  | _ => False
theorem qs_par (i j : Nat) {x y : Str} {a b : Expr} {ta : TA} {da : DA} {px py pt : Pos} {kt k2 pt2} (hN : X.N.Nodup) (ha : QA X [a, b] ta da) (hi : X.N[i]? = some x := by rfl) (hj : X.N[j]? = some y := by rfl) (hij : i ≠ j := by decide)
    (hx : X.env.scope.names.lookup x = some .local := by rfl) (hy : X.env.scope.names.lookup y = some .local := by rfl) (hw : swappedStores [.Tuple [.Name x px, .Name y py] kt pt] (.Tuple [a, b] k2 pt2) X.env = pure (some [x, y]) := by rfl)
    (hs : swapsWithSole [.Tuple [.Name x px, .Name y py] kt pt] (.Tuple [a, b] k2 pt2) pos.line X.env = pure false := by rfl) (hc : X.calm = true := by rfl) :
    QS X (.Assign [.Tuple [.Name x px, .Name y py] kt pt] (.Tuple [a, b] k2 pt2) pos) (tPar i j ta) (dPar i j da) := by
  refine ⟨ps_par hc hN hi hj hij hx hy ha.pa hw hs, ?_⟩
  intro σ H S as en cs D E r e q p
  refine ha.sem σ H S as en cs _ _ r e q fun zs vs S1 H1 as1 cs1 e1 r1 v1 q1 => ?_
  split at q1
  · obtain ⟨v, _, rfl, h1, u, _, rfl, h2, h3⟩ := v1
    exact ⟨v, u, by rw [h3], p.nx _ S1 H1 as1 _ cs1 e1 r1 (((e.mono e1).set h1 i).set h2 j) q1⟩
  · exact q1.elim
/-- d[k] = v, d a cell -/
def dPutK (a b c : DE) : DS := fun D en cs => c en cs fun z cs1 => a en cs1 fun x cs2 => b en cs2 fun y cs3 => match x, y, z with
  | .c n, .d dy, .d dz => (match cs3[n]? with
    | some (.dic kvs) => keyD dy fun key => kvs.length < LIM ∧ D.nx en (cs3.set n (.dic (setK kvs key dz)))
    | _ => False)
  | _, _, _ => False
/-- xs.append(v), xs a cell -/
def dAppend (o v : DE) : DE := fun en cs k => o en cs fun x cs1 => match x with
  | .c n => (match cs1[n]? with
    | some (.lst _) => v en cs1 fun y cs2 => (match y with
      | .d d => (match cs2[n]? with
        | some (.lst ds) => ds.length < LIM ∧ k (.d .non) (cs2.set n (.lst (ds ++ [d])))
        | _ => False)
      | _ => False)
    | _ => False)
  | _ => False
theorem q_append {o v : Expr} {to tv : TE} {od vd : DE} {apos cpos : Pos} (ho : QE X o to od) (hv : QE X v tv vd)
    (hbase : attributeBase o "append" X.env (eval o X.env) = eval o X.env := by rfl)
    (hfew : ((backTo cpos (starEach [v] X.env)).all (fun x => !x.1) && (backToKw cpos (keywordEach [] X.env)).all (fun x => x.1.isSome)
      && decide ([v].length + ([] : List Keyword).length + (if ([] : List Keyword).isEmpty then 0 else 1) < 30)) = true := by rfl)
    (hline : (apos.endLine == cpos.line) = true := by rfl) (hs : starEach [v] X.env = (false, eval v X.env) :: starEach [] X.env := by rfl) (hplain : (backTo cpos (starEach [] X.env)).any (·.1) = false := by rfl) :
    QE X (.Call (.Attribute o "append" apos) [v] [] cpos) (tBM X.K "list" rAppend to (tCons tv tNil)) (dAppend od vd) := by
  refine ⟨pe_bm PySem.F.plainAttrs_list PySem.F.slot_list_append PySem.F.type_list_append mt_append ho.pe (pa_cons hv.pe pa_nil hs) hbase hfew hline hs hplain, ?_⟩
  intro σ H S as en cs k Q r e q p
  refine ho.sem.use r e q fun z v S1 H1 as1 cs1 e1 r1 w1 q1 => ?_
  split at q1
  · rename_i n
    split at q1
    · rename_i ds1 hc1
      obtain ⟨a, ha, rfl⟩ := w1
      obtain ⟨_, vs1, hl1, _⟩ := r1.cell_lst ha hc1
      refine ⟨.inl ⟨rfl, vs1, SqL.of hl1⟩, ?_⟩
      refine hv.sem.use r1 (e.mono e1) q1 fun z2 v2 S2 H2 as2 cs2 e2 r2 w2 q2 => ?_
      split at q2
      · rename_i d
        split at q2
        · rename_i ds hc
          have ha2 := e2.get ha
          obtain ⟨hS, vs, hl, is⟩ := r2.cell_lst ha2 hc
          exact ⟨a, vs, v2, rfl, rfl, hl, by rw [is.len]; exact size_lt q2.1, p (.d .non) .non S2 _ as2 _ (e1.trans e2) (r2.put ha2 (c := .lst (ds ++ [d])) ⟨hS, _, upd_same, is.append ⟨v2, [], rfl, w2, rfl⟩⟩ hS) rfl q2.2⟩
        · exact q2.elim
      · exact q2.elim
    · exact q1.elim
  · exact q1.elim
/-- xs.extend(ys) -/
def dExtend (o v : DE) : DE := fun en cs k => o en cs fun x cs1 => match x with
  | .c n => (match cs1[n]? with
    | some (.lst _) => v en cs1 fun y cs2 => withD cs2 y fun dy => (match dy with
      | .lst es => (match cs2[n]? with
        | some (.lst ds) => ds.length + es.length < LIM ∧ k (.d .non) (cs2.set n (.lst (ds ++ es)))
        | _ => False)
      | _ => False)
    | _ => False)
  | _ => False
/-! ### loops -/
/-- cells from n on forgotten -/
def forgetZ (n : Nat) : Option Z → Option Z
  | some (.c m) => if m < n then some (.c m) else none
  | o => o
def forget (n : Nat) (en : En) : En := en.map (forgetZ n)
def Wkn (n0 : Nat) (P : En → Cs → Prop) (en : En) (cs : Cs) : Prop := P en cs ∨ ∃ n, n0 ≤ n ∧ P (forget n en) (cs.take n)
theorem EnvOk.cut {K : PySem.W.Frag} {S : Hp} {as : List Addr} {en : En} {σ : L2.St} (h : EnvOk K S as en σ) (n : Nat) : EnvOk K S (as.take n) (DL.forget n en) σ := by
  refine ⟨by rw [h.len, DL.forget, List.length_map], fun i z e => ?_⟩
  unfold DL.forget at e
  rw [List.getElem?_map] at e
  cases q : en[i]? with
  | none => rw [q] at e; cases e
  | some o =>
    rw [q] at e
    have e' : forgetZ n o = some z := Option.some.inj e
    cases o with
    | none => cases e'
    | some y =>
      cases y with
      | d x =>
        cases e'
        obtain ⟨v, h1, h2⟩ := h.at_ i (.d x) q
        exact ⟨v, h1, h2⟩
      | c m =>
        have e2 : (if m < n then some (Z.c m) else none) = some z := e'
        split at e2
        · rename_i hm
          cases e2
          obtain ⟨v, h1, a, h2, h3⟩ := h.at_ i (.c m) q
          exact ⟨v, h1, a, by rw [List.getElem?_take_of_lt hm]; exact h2, h3⟩
        · cases e2
theorem Ext.cut {S S' : Hp} {as as' : List Addr} (e : Ext S as S' as') {n : Nat} (h : as.length ≤ n) : Ext S as S' (as'.take n) := by
  obtain ⟨m, rfl⟩ := e.pre
  refine ⟨e.sub, m.take (n - as.length), ?_⟩
  rw [List.take_append, List.take_of_length_le h]
theorem Wkn.out {K : PySem.W.Frag} {S0 S H : Hp} {as0 as : List Addr} {n0 : Nat} {P : En → Cs → Prop} {en : En} {cs : Cs} {σ : L2.St} (h : Wkn n0 P en cs) (x : Ext S0 as0 S as) (hn : as0.length = n0) (r : Rep K S H as cs) (e : EnvOk K S as en σ) :
    ∃ S' as' en' cs', Ext S0 as0 S' as' ∧ Rep K S' H as' cs' ∧ EnvOk K S' as' en' σ ∧ P en' cs' := by
  rcases h with h | ⟨n, h0, h⟩
  · exact ⟨S, as, en, cs, x, r, e, h⟩
  · exact ⟨S, _, _, _, x.cut (by omega), r.take n, e.cut n, h⟩
def dFor (it : DI) (g : DG) (b : DS) : DS := fun D en cs => it en cs fun ds keep cs1 => ∃ I : Nat → En → Cs → Prop, I 0 en cs1 ∧ (∀ i en cs, I i en cs → keep cs) ∧
  (∀ i d en cs, ds[i]? = some d → I i en cs → g (.d d) en cs fun en2 cs2 => b { D with nx := Wkn cs1.length (I (i + 1)), ct := Wkn cs1.length (I (i + 1)), bk := D.nx } en2 cs2) ∧ ∀ en cs, I ds.length en cs → D.nx en cs
theorem qs_for {tg iter : Expr} {body : List Stmt} {wi : TI} {g : TG} {tb : TS} {it : DI} {dg : DG} {db : DS} {is : List Nat} (hp : PassesOwn (model X.prog X.w) X.A X.env X.xe) (hi : QI X tg iter wi it) (hg : QG X tg g dg is) (hb : QSs X body tb db) (hc : X.calm = true := by rfl)
    (hs : ∀ x, foldedSetIterable iter X.env x = pure x := by intro _; rfl) : QS X (.For tg iter body [] pos) (tFor wi g tb) (dFor it dg db) := by
  refine ⟨ps_for hp hc hi.pi hg.pg hb.pss hs, ?_⟩
  intro σ H S as en cs D E r e q p
  refine hi.sem σ H S as en cs _ _ r e q fun J S1 H1 as1 ds keep cs1 e1 r1 wk q1 => ?_
  obtain ⟨I, i0, ik, step, done⟩ := q1
  refine ⟨fun i m σ' H' => m = ds.length - i ∧ i ≤ ds.length ∧ ∃ S' as' en' cs', Ext S1 as1 S' as' ∧ Rep X.K S' H' as' cs' ∧ EnvOk X.K S' as' en' σ' ∧ I i en' cs', ⟨ds.length, by omega, Nat.zero_le _, S1, as1, en, cs1, Ext.refl, r1, e.mono e1, i0⟩, ?_⟩
  rintro i m σ' H' ⟨rfl, hi', S', as', en', cs', ex, r', ev', hI⟩
  have kp := ik i en' cs' hI
  by_cases hlt : i < ds.length
  · obtain ⟨d, hd⟩ : ∃ d, ds[i]? = some d := ⟨ds[i], List.getElem?_eq_getElem hlt⟩
    obtain ⟨go, yl⟩ := wk.go S' H' as' cs' i d ex r' kp hd
    refine .inr ⟨go, fun σ2 H2 => ∃ S2 as2 en2 cs2, Ext S1 as1 S2 as2 ∧ Rep X.K S2 H2 as2 cs2 ∧ EnvOk X.K S2 as2 en2 σ2 ∧ I (i + 1) en2 cs2, fun σ2 H2 h2 => ⟨ds.length - (i + 1), by omega, rfl, hlt, h2⟩, fun x H'' y => ?_⟩
    obtain ⟨S2, s2, r2, ix⟩ := yl x H'' y
    have e2 : Ext S1 as1 S2 as' := ex.trans (Ext.of s2)
    refine hg.sem (.d d) x σ' H'' S2 as' en' cs' _ _ r2 (ev'.mono (Ext.of s2)) ix (step i d en' cs' hd hI) fun σ3 S3 H3 as3 en3 cs3 e3 r3 ev3 _ q3 => ?_
    have e4 := e2.trans e3
    refine hb.sem σ3 H3 S3 as3 en3 cs3 _ _ r3 ev3 q3 ⟨fun σ4 S4 H4 as4 en4 cs4 e5 r4 ev4 q4 => ?_, p.rt.mono (e1.trans e4), fun σ4 S4 H4 as4 en4 cs4 e5 r4 ev4 q4 => ?_, fun σ4 S4 H4 as4 en4 cs4 e5 r4 ev4 q4 => ?_⟩
    · exact Wkn.out q4 (e4.trans e5) r1.len r4 ev4
    · exact p.nx σ4 S4 H4 as4 en4 cs4 (e1.trans (e4.trans e5)) r4 ev4 q4
    · exact Wkn.out q4 (e4.trans e5) r1.len r4 ev4
  · have ei : i = ds.length := by omega
    subst ei
    exact .inl ⟨wk.stop S' H' as' cs' _ ex r' kp (Nat.le_refl _), p.nx σ' S' H' as' en' cs' (e1.trans ex) r' ev' (done en' cs' hI)⟩
def dWhile (c : DT) (b : DS) : DS := fun D en0 cs0 => ∃ I : Nat → En → Cs → Prop, (∃ m, I m en0 cs0) ∧
  ∀ m en cs, I m en cs → c en cs fun k cs1 => if k = true then b { D with nx := Wkn cs0.length fun en2 cs2 => ∃ m', m' < m ∧ I m' en2 cs2, ct := Wkn cs0.length fun en2 cs2 => ∃ m', m' < m ∧ I m' en2 cs2, bk := D.nx } en cs1 else D.nx en cs1
theorem qs_while {c : Expr} {body : List Stmt} {tc : TT} {tb : TS} {dc : DT} {db : DS} (hp : PassesOwn (model X.prog X.w) X.A X.env X.xe) (hc : QT X c tc dc) (hb : QSs X body tb db) : QS X (.While c body [] pos) (tWhile tc tb) (dWhile dc db) := by
  refine ⟨ps_while hp hc.pt hb.pss, ?_⟩
  intro σ H S as en cs D E r e q p
  obtain ⟨I, ⟨m0, i0⟩, step⟩ := q
  refine ⟨fun m σ' H' => ∃ S' as' en' cs', Ext S as S' as' ∧ Rep X.K S' H' as' cs' ∧ EnvOk X.K S' as' en' σ' ∧ I m en' cs', ⟨m0, S, as, en, cs, Ext.refl, r, e, i0⟩, ?_⟩
  rintro m σ' H' ⟨S', as', en', cs', ex, r', ev', hI⟩
  refine hc.sem σ' H' S' as' en' cs' _ _ r' ev' (step m en' cs' hI) fun b S1 H1 as1 cs1 e1 r1 q1 => ?_
  cases b with
  | true =>
    rw [if_pos rfl] at q1 ⊢
    refine ⟨fun σ2 H2 => ∃ m', m' < m ∧ ∃ S2 as2 en2 cs2, Ext S as S2 as2 ∧ Rep X.K S2 H2 as2 cs2 ∧ EnvOk X.K S2 as2 en2 σ2 ∧ I m' en2 cs2, fun σ2 H2 h => h, ?_⟩
    have e2 := ex.trans e1
    refine hb.sem σ' H1 S1 as1 en' cs1 _ _ r1 (ev'.mono e1) q1 ⟨fun σ4 S4 H4 as4 en4 cs4 e5 r4 ev4 q4 => ?_, p.rt.mono e2, fun σ4 S4 H4 as4 en4 cs4 e5 r4 ev4 q4 => ?_, fun σ4 S4 H4 as4 en4 cs4 e5 r4 ev4 q4 => ?_⟩
    · obtain ⟨S5, as5, en5, cs5, e6, r6, ev6, m', hm, q6⟩ := Wkn.out (P := fun en2 cs2 => ∃ m', m' < m ∧ I m' en2 cs2) q4 (e2.trans e5) r.len r4 ev4
      exact ⟨m', hm, S5, as5, en5, cs5, e6, r6, ev6, q6⟩
    · exact p.nx σ4 S4 H4 as4 en4 cs4 (e2.trans e5) r4 ev4 q4
    · obtain ⟨S5, as5, en5, cs5, e6, r6, ev6, m', hm, q6⟩ := Wkn.out (P := fun en2 cs2 => ∃ m', m' < m ∧ I m' en2 cs2) q4 (e2.trans e5) r.len r4 ev4
      exact ⟨m', hm, S5, as5, en5, cs5, e6, r6, ev6, q6⟩
  | false =>
    rw [if_neg Bool.false_ne_true] at q1 ⊢
    exact p.nx σ' S1 H1 as1 en' cs1 (ex.trans e1) r1 (ev'.mono e1) q1
end
end DL
set_option Elab.async false
set_option linter.all false
set_option maxRecDepth 100000
set_option maxHeartbeats 2000000
set_option autoImplicit false
namespace DL
open PySem PySem.Spec PyProof.Rows L2

/-! ### what a def promises, over data -/
def spD (K : PySem.W.Frag) (sp : DSpec) (vs : List V) (H : Hp) (Q : VK) : Prop :=
  ∃ (S : Hp) (as : List Addr) (zs : List Z) (cs : Cs) (k : Z → Cs → Prop), Rep K S H as cs ∧ VZL K S as zs vs ∧ sp zs cs k ∧ PQ K S as k Q
structure FnD (P : Program) (w : World) (K : PySem.W.Frag) (mg : Str → Option Value) (base : Heap) (k : Nat) (f : Addr) (fd : FuncData) (ps : List Str) (sp : DSpec) : Prop where
  len : ∀ zs cs q, sp zs cs q → zs.length = ps.length
  run : ∀ (A : Around) (outer : List Env) (s : Shared) (H : Hp) (args : Args) (us : List Value) (vs : List V) (Q : VK), Room k A → A.guards = some [] → Env0 P w K mg base A outer s H → BindsTo s fd args (ps.zip us) → Vals vs us → spD K sp vs H Q →
    codeAny (model P w) A (.call (.ref f) args) (CR CX0 outer P w H s Q E0) s
theorem FnD.mono {P : Program} {w : World} {K : PySem.W.Frag} {mg : Str → Option Value} {base : Heap} {j k : Nat} {f : Addr} {fd : FuncData} {ps : List Str} {sp : DSpec} (F : FnD P w K mg base j f fd ps sp) (h : j ≤ k) : FnD P w K mg base k f fd ps sp :=
  ⟨F.len, fun A outer s H args us vs Q hr => F.run A outer s H args us vs Q (hr.mono h)⟩
theorem FnD.imp {P : Program} {w : World} {K : PySem.W.Frag} {mg : Str → Option Value} {base : Heap} {k : Nat} {f : Addr} {fd : FuncData} {ps : List Str} {sp sp' : DSpec} (F : FnD P w K mg base k f fd ps sp) (h : ∀ zs cs q, sp' zs cs q → sp zs cs q) : FnD P w K mg base k f fd ps sp' :=
  ⟨fun zs cs q h' => F.len zs cs q (h zs cs q h'), fun A outer s H args us vs Q hr hg e0 hb hv ⟨S, as, zs, cs, q, a1, a2, a3, a4⟩ => F.run A outer s H args us vs Q hr hg e0 hb hv ⟨S, as, zs, cs, q, a1, a2, h _ _ _ a3, a4⟩⟩
section
variable {X : Cx} {k : Nat} {f : Addr} {fd : FuncData} {ps : List Str} {sp : DSpec} {x : Str} {p pos : Pos} {e : Expr} {es : List Expr} {ta : TA} {da : DA}
theorem run_fnD {pins : List (Addr × Obj)} {σ : L2.St} {H : Hp} {s : Shared} {Q : VK} {us : List Value} {vs : List V} (F : FnD X.prog X.w X.K X.mg X.base k f fd ps sp) (hr : Room k X.A) (hg : X.A.guards = some []) (hb : L2.Binds X.K fd ps [])
    (I : Inv X pins σ H s) (r : Vals vs us) (h : spD X.K sp vs H Q) : wpAny (model X.prog X.w) X.A (call (.ref f) us) (EP X pins σ Q) X.xe s := by
  have hl : (us ++ []).length = ps.length := by
    obtain ⟨S, as, zs, cs, q, a1, a2, a3, a4⟩ := h
    rw [List.append_nil, ← r.length, a2.len, F.len _ _ _ a3]
  have b := hb s us I.kIn hl
  rw [List.append_nil] at b
  refine wpAny_call (codeAny_mono (F.run X.A X.stack s H ⟨us, []⟩ us vs Q hr hg I.env0 b r h) fun r s' hq => ?_)
  cases r with
  | error e => exact hq.elim
  | ok fl =>
    cases fl with
    | ret u => exact I.after hq
    | next => exact hq.elim
    | brk => exact hq.elim
    | cont => exact hq.elim
def tCallD (K : PySem.W.Frag) (sp : DSpec) (t : TA) : TE := fun σ H Q => t σ H fun vs H1 => spD K sp vs H1 Q
def dCall (sp : DSpec) (a : DA) : DE := fun en cs k => a en cs fun zs cs1 => sp zs cs1 k
theorem q_call (F : FnD X.prog X.w X.K X.mg X.base k f fd ps sp) (hr : Room k X.A) (hgd : X.A.guards = some []) (hm : X.mg x = some (.ref f)) (hk : PySem.W.keepIn X.K (.ref f) = true) (hb : L2.Binds X.K fd ps []) (ha : QA X (e :: es) ta da) (hg : Gl X x := by rfl)
    (hdb : (x == ("__debug__" : Str)) = false := by decide) (he : starEach (e :: es) X.env = (false, eval e X.env) :: starEach es X.env := by rfl) (hpl : (backTo pos (starEach es X.env)).any (·.1) = false := by rfl) :
    QE X (.Call (.Name x p) (e :: es) [] pos) (tCallD X.K sp ta) (dCall sp da) := by
  refine ⟨⟨fun pins s σ H Q I h => ?_⟩, ?_⟩
  · refine wpAny_Call_Name_kw (ld_glob I hg hm ?_ hdb)
    refine PySem.W.callWith_K (h₀ := X.base) I.ok.mod.kin hk (thn (ha.pa.run pos pins s σ H _ I h) fun us s1 ⟨vs, H1, I1, r, q⟩ => ⟨I1.kIn, ?_⟩) he hpl
    exact run_fnD F hr hgd hb I1 r q
  · intro σ H S as en cs k Q rp ev q pq
    refine ha.sem σ H S as en cs _ _ rp ev q fun zs vs S1 H1 as1 cs1 e1 r1 v1 q1 => ?_
    exact ⟨S1, as1, zs, cs1, k, r1, v1, q1, pq.mono e1⟩
end

/-! ### a def by its body -/
/-- what a def hands back: n cells were there at the call -/
def FinZ (n : Nat) (k : Z → Cs → Prop) : Z → Cs → Prop := fun z cs => match z with
  | .d x => k (.d x) (cs.take n)
  | .c m => (m < n ∧ k (.c m) (cs.take n)) ∨ (n ≤ m ∧ match cs[m]? with
    | some x => k (.d x) (cs.take n) ∨ k (.c n) (cs.take n ++ [x])
    | none => False)
def startD (N : List Str) (zs : List Z) : En := zs.map some ++ List.replicate (N.length - zs.length) none
theorem VZL.get {K : PySem.W.Frag} {S : Hp} {as : List Addr} : ∀ {zs : List Z} {vs : List V} {i : Nat} {z : Z}, VZL K S as zs vs → zs[i]? = some z → ∃ v, vs[i]? = some v ∧ VZ K S as z v
  | [], _, _, _, _, e => by simp at e
  | _ :: _, _, 0, _, ⟨v, r, h1, h2, h3⟩, e => by
    have e' := Option.some.inj e
    subst e' h1
    exact ⟨v, rfl, h2⟩
  | _ :: _, _, i + 1, _, ⟨v, r, h1, h2, h3⟩, e => by
    subst h1
    exact VZL.get (i := i) h3 e
theorem env_start {K : PySem.W.Frag} {S : Hp} {as : List Addr} {N : List Str} {zs : List Z} {vs : List V} (h : VZL K S as zs vs) : EnvOk K S as (startD N zs) (L2.start N vs) := by
  unfold startD L2.start
  refine ⟨by simp only [List.length_append, List.length_map, List.length_replicate, h.len], fun i z e => ?_⟩
  by_cases hi : i < zs.length
  · rw [List.getElem?_append_left (by simpa using hi), List.getElem?_map] at e
    obtain ⟨y, hy⟩ : ∃ y, zs[i]? = some y := ⟨zs[i], List.getElem?_eq_getElem hi⟩
    rw [hy] at e
    cases e
    obtain ⟨v, h1, h2⟩ := h.get hy
    refine ⟨v, ?_, h2⟩
    rw [List.getElem?_append_left (by simpa [h.len] using hi), List.getElem?_map, h1]
    rfl
  · rw [List.getElem?_append_right (by simpa using hi), List.getElem?_replicate] at e
    split at e <;> cases e
theorem Rep.pick {K : PySem.W.Frag} {S H : Hp} {as : List Addr} {cs : Cs} (r : Rep K S H as cs) {n m : Nat} {a : Addr} {x : D} (hm : n ≤ m) (ha : as[m]? = some a) (hx : cs[m]? = some x) : Rep K S H (as.take n ++ [a]) (cs.take n ++ [x]) := by
  have t := r.take n
  have np : a ∉ as.take n := fun z => by
    obtain ⟨i, hi, e⟩ := List.getElem_of_mem z
    rw [List.getElem_take] at e
    have hl : i < n := by
      have := hi
      rw [List.length_take] at this
      omega
    have := nd_ix r.nod (i := i) (j := m) (by rw [← e]; exact List.getElem?_eq_getElem _) ha
    omega
  refine ⟨r.sub, by rw [List.length_append, List.length_append, t.len]; rfl, ?_, fun j b d e1 e2 => ?_, fun b hb => ?_, fun q hq => ⟨(r.tab q hq).1, (r.tab q hq).2.keep fun b o nb e => ⟨fun z => ?_, e⟩⟩⟩
  rotate_right
  · rcases List.mem_append.mp z with z | z
    · exact nb (List.mem_of_mem_take z)
    · have z : b = a := by simpa using z
      exact nb (by rw [z]; exact List.mem_of_getElem? ha)
  · exact List.nodup_append.mpr ⟨t.nod, by simp, fun y hy w hw => by
      have hw' : w = a := by simpa using hw
      subst hw'
      exact fun z => np (z ▸ hy)⟩
  · by_cases hj : j < (as.take n).length
    · rw [List.getElem?_append_left hj] at e1
      rw [List.getElem?_append_left (by rw [← t.len]; exact hj)] at e2
      exact t.cel j b d e1 e2
    · rw [List.getElem?_append_right (by omega)] at e1
      rw [List.getElem?_append_right (by rw [← t.len]; omega), ← t.len] at e2
      have hz : j - (as.take n).length = 0 := by
        have := (List.getElem?_eq_some_iff.mp e1).1
        simp only [List.length_cons, List.length_nil] at this
        omega
      rw [hz] at e1 e2
      cases e1
      cases e2
      exact r.cel m a x ha hx
  · rcases List.mem_append.mp hb with hb | hb
    · exact t.liv b hb
    · have : b = a := by simpa using hb
      subst this
      exact r.liv b (List.mem_of_getElem? ha)
theorem CelAt.obj {K : PySem.W.Frag} {S H : Hp} {a : Addr} : ∀ {x : D}, (∀ b, x ≠ .obj b ∧ ∀ y, x ≠ .cel b y) → CelAt K S H a x → ∃ o, H a = some o ∧ S a = none ∧ Is K (upd S a o) x (.ref a)
  | .lst ds, _, ⟨h1, vs, h2, h3⟩ => ⟨_, h2, h1, a, vs, rfl, upd_same, IsL.mono (Sub.new h1) _ _ h3⟩
  | .dic kvs, _, ⟨h1, kv, h2, h3⟩ => ⟨_, h2, h1, a, kv, rfl, upd_same, IsK.mono (Sub.new h1) _ _ h3⟩
  | .ob _ _ _, _, ⟨h1, dx, vs, h2, h3, h4, h5⟩ => ⟨_, h2, h1, a, dx, vs, rfl, upd_same, Sub.new h1 _ _ h3, h4, IsL.mono (Sub.new h1) _ _ h5⟩
  | .scr _, _, h => h.elim
  | .ty _, _, h => h.elim
  | .obj b, n, _ => absurd rfl (n b).1
  | .cel b y, n, _ => absurd rfl ((n b).2 y)
  | .non, _, h => h.elim
  | .bl _, _, h => h.elim
  | .int _, _, h => h.elim
  | .str _, _, h => h.elim
  | .tup _, _, h => h.elim
theorem fin_pq {K : PySem.W.Frag} {S : Hp} {as : List Addr} {k : Z → Cs → Prop} {Q : VK} (p : PQ K S as k Q) : PQ K S as (FinZ as.length k) Q := by
  intro z v S' H' as' cs' e r vz h
  have et := e.take
  have rt := r.take as.length
  cases z with
  | d x => exact p (.d x) v S' H' _ _ et rt vz h
  | c m =>
    obtain ⟨a, ha, rfl⟩ := vz
    rcases h with ⟨hm, h⟩ | ⟨hm, h⟩
    · exact p (.c m) _ S' H' _ _ et rt ⟨a, by rw [List.getElem?_take_of_lt hm]; exact ha, rfl⟩ h
    · split at h
      · rename_i x hx
        have c := r.cel m a x ha hx
        rcases h with h | h
        · by_cases dd : ∃ b, x = .obj b
          · obtain ⟨b, rfl⟩ := dd
            exact p (.d (.obj b)) _ S' H' _ _ et rt (congrArg V.ref (Eq.symm (show b = a from c))) h
          by_cases de : ∃ b y, x = .cel b y
          · obtain ⟨b, y, rfl⟩ := de
            exact p (.d (.cel b y)) _ S' H' _ _ et rt c.isC h
          obtain ⟨o, h1, h2, h3⟩ := c.obj (fun b => ⟨fun e => dd ⟨b, e⟩, fun y e => de ⟨b, y, e⟩⟩)
          have np : a ∉ as'.take as.length := fun z => by
            obtain ⟨i, hi, e⟩ := List.getElem_of_mem z
            rw [List.getElem_take] at e
            have hl : i < as.length := by
              have := hi
              rw [List.length_take] at this
              omega
            have := nd_ix r.nod (i := i) (j := m) (by rw [← e]; exact List.getElem?_eq_getElem _) ha
            omega
          exact p (.d x) _ (upd S' a o) H' _ _ (et.trans (Ext.of (Sub.new h2))) (rt.freeze np h1 h2 (r.notab (List.mem_of_getElem? ha))) h3 h
        · have hz : (as'.take as.length).length = as.length := by
            obtain ⟨m', rfl⟩ := e.pre
            rw [List.take_left]
          refine p (.c as.length) _ S' H' _ _ ⟨et.sub, ?_⟩ (r.pick hm ha hx) ⟨a, ?_, rfl⟩ h
          · obtain ⟨m', e'⟩ := et.pre
            exact ⟨m' ++ [a], by rw [e', List.append_assoc]⟩
          · rw [List.getElem?_append_right (by omega), hz, Nat.sub_self]
            rfl
      · exact h.elim
section
variable {P : Program} {w : World} {K : PySem.W.Frag} {mg : Str → Option Value} {base : Heap}
theorem fn_D {x qual : Str} {st : Stmt} {f : Addr} {fd : FuncData} {N ps : List Str} {k : Nat} {sp : DSpec} (F : Fun K x qual st f fd) (S : FnScope N ps (defScope st)) (len : ∀ zs cs q, sp zs cs q → zs.length = ps.length) (t : DS)
    (der : ∀ (cdv : Value) (A : Around) (outer : List Env) (s : Shared) (H : Hp), Room k (A.deeper (envOfC qual (defScope st) s.heap.objs.size f cdv)) → (A.deeper (envOfC qual (defScope st) s.heap.objs.size f cdv)).guards = some [] →
      ∃ ts : TS, QSs (cxOf CX0 P w K mg base N qual (defScope st) f cdv A outer s H E0).nox (defBody st) ts t)
    (rd : ∀ zs cs q, sp zs cs q → t ⟨fun _ c => q (.d .non) (c.take cs.length), FinZ cs.length q, fun _ _ => False, fun _ _ => False⟩ (startD N zs) cs) : FnD P w K mg base (k + 1) f fd ps sp := by
  obtain ⟨oc, od, kV, doc, pm, an, cdv, ct, osl, rfl, lk, hcd⟩ := F.ex
  refine ⟨len, fun A outer s H args us vs Q hr hgd e0 hb r hsp => ?_⟩
  obtain ⟨T, as, zs, cs, q, rep, vz, hz, pq⟩ := hsp
  have hl : vs.length = ps.length := vz.len.trans (len _ _ _ hz)
  have KX : K.In s.heap := e0.mod.kin.keeps fun b o e => (e0.bs b o e).1
  have lim : s.heap.NoLimit := e0.mod.nolimit.keeps fun b o e => (e0.bs b o e).1
  refine codeAny_call_function hr.depth (KX _ _ lk) rfl S.co S.gen rfl (PySem.W.codeRec_of KX hcd) (hb _ _ _ _ ?_)
  refine wpAny_newFunctionEnv_cells S.kind (fun ⟨n, v⟩ hy => (S.par n (List.of_mem_zip hy).1).imp (fun h => h) fun h => ⟨h, PySem.W.cellsFrom_some _ _ _ (.inl h)⟩) fun env he s1 x => ?_
  subst he
  refine ⟨lim.keeps x.toInCall.keep, codeAny_func ?_⟩
  obtain ⟨ts, d⟩ := der cdv A outer s H (hr.deeper _) hgd
  have I : Inv (cxOf CX0 P w K mg base N qual (defScope st) f cdv A outer s H E0) [] (L2.start N vs) H s1 := inv_start S hr.hd e0 hl r x
  have body : ts { nx := fun _ H' => Q .non H', rt := Q } (L2.start N vs) H := by
    refine d.sem (L2.start N vs) H T as (startD N zs) cs _ _ rep (env_start vz) (rd zs cs q hz) ⟨fun σ' S' H' as' en' cs' e' r' ev' q' => ?_, ?_, fun _ _ _ _ _ _ _ _ _ h => h, fun _ _ _ _ _ _ _ _ _ h => h⟩
    · rw [← rep.len] at q'
      exact pq (.d .non) .non S' H' _ _ e'.take (r'.take as.length) rfl q'
    · rw [← rep.len]
      exact fin_pq pq
  refine wpAny_mono (d.pss.nox.run [] s1 (L2.start N vs) H _ I body) (fun fl s' hs => ?_) fun e s' hs => hs
  cases fl with
  | ret u =>
    obtain ⟨v, σ', H', J, rv, q⟩ := hs
    exact ⟨v, H', J.os, J.bare, J.base, J.hok, rv, q⟩
  | next =>
    obtain ⟨σ', H', J, q⟩ := hs
    exact ⟨.non, H', J.os, J.bare, J.base, J.hok, rfl, q⟩
  | brk => exact hs.elim fun _ h => h.elim fun _ h => h.2.elim
  | cont => exact hs.elim fun _ h => h.elim fun _ h => h.2.elim

end
end DL
set_option Elab.async false
set_option linter.all false
set_option maxRecDepth 100000
set_option maxHeartbeats 2000000
set_option autoImplicit false
namespace DL
open PySem PySem.Spec PyProof.Rows L2

/-- the def as the top left it -/
def DefT (K : PySem.W.Frag) (mg : Str → Option Value) (name : Str) (st : Stmt) (ps : List Str) : Prop :=
  ∃ (f : Addr) (fd : FuncData), Fun K name name st f fd ∧ mg name = some (.ref f) ∧ L2.Binds K fd ps []
/-- what callers know of it -/
def Got (P : Program) (w : World) (K : PySem.W.Frag) (mg : Str → Option Value) (base : Heap) (name : Str) (k : Nat) (ps : List Str) (sp : DSpec) : Prop :=
  ∃ (f : Addr) (fd : FuncData), mg name = some (.ref f) ∧ PySem.W.keepIn K (.ref f) = true ∧ L2.Binds K fd ps [] ∧ FnD P w K mg base k f fd ps sp
section
variable {P : Program} {w : World} {K : PySem.W.Frag} {mg : Str → Option Value} {base : Heap} {name : Str} {k : Nat} {ps : List Str} {sp : DSpec}
theorem Got.mono {j : Nat} (G : Got P w K mg base name j ps sp) (h : j ≤ k) : Got P w K mg base name k ps sp :=
  let ⟨f, fd, a, b, c, d⟩ := G
  ⟨f, fd, a, b, c, d.mono h⟩
theorem Got.imp {sp' : DSpec} (G : Got P w K mg base name k ps sp) (h : ∀ zs cs q, sp' zs cs q → sp zs cs q) : Got P w K mg base name k ps sp' :=
  let ⟨f, fd, a, b, c, d⟩ := G
  ⟨f, fd, a, b, c, d.imp h⟩
/-- what a def is to reach -/
abbrev endD (n : Nat) (q : Z → Cs → Prop) : DEnds := ⟨fun _ c => q (.d .non) (c.take n), FinZ n q, fun _ _ => False, fun _ _ => False⟩
theorem Got.mk {st : Stmt} {N : List Str} (T : DefT K mg name st ps) (S : FnScope N ps (defScope st)) (len : ∀ zs cs q, sp zs cs q → zs.length = ps.length) (t : DS)
    (der : ∀ (f : Addr) (cdv : Value) (A : Around) (outer : List Env) (s : Shared) (H : Hp), Room k (A.deeper (envOfC name (defScope st) s.heap.objs.size f cdv)) → (A.deeper (envOfC name (defScope st) s.heap.objs.size f cdv)).guards = some [] →
      ∃ ts : TS, QSs (cxOf CX0 P w K mg base N name (defScope st) f cdv A outer s H E0).nox (defBody st) ts t)
    (rd : ∀ zs cs q, sp zs cs q → t (endD cs.length q) (startD N zs) cs) : Got P w K mg base name (k + 1) ps sp := by
  obtain ⟨f, fd, F, g, b⟩ := T
  exact ⟨f, fd, g, F.kp, b, fn_D F S len t (der f) rd⟩
end
section
variable {X : Cx} {pos p : Pos} {x : Str} {k : Nat} {ps : List Str} {sp : DSpec} {e : Expr} {es : List Expr} {ta : TA} {da : DA}
theorem qc (G : Got X.prog X.w X.K X.mg X.base x k ps sp) (hr : Room k X.A) (hgd : X.A.guards = some []) (ha : QA X (e :: es) ta da) (hg : Gl X x := by rfl)
    (hdb : (x == ("__debug__" : Str)) = false := by decide) (he : starEach (e :: es) X.env = (false, eval e X.env) :: starEach es X.env := by rfl) (hpl : (backTo pos (starEach es X.env)).any (·.1) = false := by rfl) :
    QE X (.Call (.Name x p) (e :: es) [] pos) (tCallD X.K sp ta) (dCall sp da) := by
  obtain ⟨f, fd, a, b, c, d⟩ := G
  exact q_call d hr hgd a b c ha hg hdb he hpl
/-- a built-in type as a value -/
theorem q_bty {n : String} (hm : X.mg x = none) (hv : bootBuiltins x = some (.type n)) (hg : Gl X x := by rfl) (hn : x ≠ "__name__" := by decide) (hd : (x == ("__debug__" : Str)) = false := by decide) : QE X (.Name x pos) (tC (.ty n)) (dC (.ty n)) :=
  ⟨pe_bltn hg hm hv rfl hn hd, sem_c fun _ => rfl⟩
end
/-! ### the end of a law -/
section
variable {P : Program} {w : World} {K : PySem.W.Frag} {mg : Str → Option Value}
theorem law_callG {mb : Str → Option Value} {k : Nat} {fa a : Addr} {x name : Str} {sp : DSpec} {s1 : Shared} {vs : List Value} {ns : List Int}
    (KX : K.In s1.heap) (hns : s1.heap.Ns mainGlobals mg) (hb : s1.heap.Ns builtinsNs mb) (hbb : ∀ x : Str, x ≠ "__name__" → mb x = bootBuiltins x) (hlim : s1.heap.NoLimit) (hg : s1.gens = #[])
    (TK : TabsOk s1.heap K)
    (ha : s1.heap.get? a = some { cls := .type "list", data := .seq vs.toArray }) (hi : IntsAre vs ns) (hl : ns.length ≤ sizeLine) (hr : Room k callerA) (hmg : mg name = some (.ref fa))
    (F : ∀ base : Heap, K.In base → base.Ns mainGlobals mg → Got P w K mg base name k [x] sp)
    (hsp : sp [.d (.scr ns)] [] fun z _ => z = .d (.bl true)) :
    codeAny (model P w) callerA (.call (.ref fa) ⟨[.ref a], []⟩) (fun r s' => r = .ok (.ret (.bool true)) ∧ OldK s1.heap s'.heap ∧ s'.os = s1.os ∧ AllBare s'.gens) s1 := by
  have rv := vals_ints hi
  obtain ⟨cs, hcs⟩ : ∃ cs : List Addr, cs = (tabsK K).map (·.1) := ⟨_, rfl⟩
  have isT : ∀ b : Addr, b ∈ cs → s1.heap.get? b = some { cls := .none, data := .fields #[] } ∧ K.lookup b = none ∧ isCodeTable s1.heap b := fun b hb => by
    rw [hcs] at hb
    obtain ⟨p, hp, e⟩ := List.mem_map.mp hb
    rw [← e]
    obtain ⟨c, o, vs, q, t, l, e1, e2, _, e4, _⟩ := tabsK_mem TK.nice hp
    exact ⟨TK.emp p hp, TK.out p hp, c, o, vs, KX _ _ l, e1, e2, e4⟩
  have memT : ∀ p ∈ tabsK K, p.1 ∈ cs := fun p hp => by rw [hcs]; exact List.mem_map.mpr ⟨p, hp, rfl⟩
  have aT : a ∉ cs := fun z => by
    have q := (isT a z).1
    rw [ha] at q
    have z' : Data.seq vs.toArray _ = Data.fields #[] := congrArg Obj.data (Option.some.inj q)
    cases z'
  have core : ∀ H : Hp, (∀ b ∈ cs, H b = some (.tbl #[])) → (∀ b, H b = none ∨ b ∈ cs ∨ ∃ o xs, H b = some (.frz o (.lst xs))) → SqL K (fun b => if b = a then H a else none) a (ns.map V.int) → HOk P w H s1.heap → (∀ b, H b ≠ none → b = a ∨ b ∈ cs) → (H a ≠ none → K.lookup a = none) →
      codeAny (model P w) callerA (.call (.ref fa) ⟨[.ref a], []⟩) (fun r s' => r = .ok (.ret (.bool true)) ∧ OldK s1.heap s'.heap ∧ s'.os = s1.os ∧ AllBare s'.gens) s1 := by
    intro H hH hO hS hok hA hK
    have base_of : ∀ {b : Addr} {o : Obj}, s1.heap.get? b = some o → H b = none → (hidT s1.heap H).get? b = some o := fun e n => hidT_get e n
    have noD : ∀ {b : Addr} {o : Obj}, s1.heap.get? b = some o → (∀ vs n, o.data ≠ .seq vs n) → o.data ≠ .fields #[] → H b = none := fun {b o} e h1 h2 => by
      cases q : H b with
      | none => rfl
      | some u =>
        rcases hA b (by rw [q]; simp) with e' | e'
        · rw [e', ha] at e
          cases e
          exact (h1 _ _ rfl).elim
        · rw [(isT b e').1] at e
          cases e
          exact (h2 rfl).elim
    have noA : ∀ {b : Addr} {o : Obj} {es : Array DictEntry} {ep : Nat}, s1.heap.get? b = some o → o.data = .dict es ep → H b = none := fun {b o es ep} e d => by
      refine noD e (fun vs n z => ?_) fun z => ?_
      · rw [d] at z
        cases z
      · rw [d] at z
        cases z
    have keepN : ∀ {b : Addr} {m : Str → Option Value}, s1.heap.Ns b m → (hidT s1.heap H).Ns b m := fun {b m} ⟨o, es, ep, e, d, r⟩ => ⟨o, es, ep, base_of e (noA e d), d, r⟩
    have kb : K.In (hidT s1.heap H) := fun b o e => base_of (KX b o e) (by
      cases q : H b with
      | none => rfl
      | some u =>
        rcases hA b (by rw [q]; simp) with e' | e'
        · rw [e'] at e q
          rw [hK (by rw [q]; simp)] at e
          cases e
        · rw [(isT b e').2.1] at e
          cases e)
    have md : Mod K mg (hidT s1.heap H) := ⟨kb, keepN hns, ⟨mb, keepN hb, hbb⟩, hlim.elim fun mc hm => ⟨mc, keepN hm.1, hm.2⟩⟩
    have e0 : Env0 P w K mg (hidT s1.heap H) callerA [] s1 H := ⟨rfl, md, fun b o e => of_hidT e, Nat.le_of_eq (hidT_size _ _), trivial, fun b hb => absurd hb (by exact fun z => nomatch z), hok, .of_eq hg⟩
    have sub0 : Sub (fun b => if b = a then H a else none) H := fun b o e => by
      by_cases z : b = a
      · subst z
        exact (if_pos rfl).symm.trans e
      · cases (if_neg z).symm.trans e
    have tab0 : ∀ p ∈ tabsK K, (fun b => if b = a then H a else none) p.1 = none ∧ TabR H [] p.1 p.2 := fun p hp => ⟨if_neg fun z => aT (by rw [← z]; exact memT p hp), by simp, #[], hH _ (memT p hp), True.intro, fun pos cv hc => by
      have z : codeAmong pos [] = some cv := hc
      simp [codeAmong] at z⟩
    have sp0 : spD K sp [.ref a] H fun v _ => v = .bl true := ⟨fun b => if b = a then H a else none, [], [.d (.scr ns)], [], _, ⟨sub0, rfl, List.nodup_nil, fun n b c e => by simp at e, fun b hb => by simp at hb, tab0⟩, ⟨_, [], rfl, ⟨a, rfl, hS⟩, rfl⟩, hsp, fun z v S' H' as' cs' e r vz h => by subst h; exact vz⟩
    obtain ⟨f, fd, g, kp, b, FD⟩ := F _ kb (keepN hns)
    cases g.symm.trans hmg
    have hbind : BindsTo s1 fd ⟨[.ref a], []⟩ (([x] : List Str).zip [Value.ref a]) := b s1 [.ref a] KX rfl
    refine codeAny_mono (FD.run callerA [] s1 H ⟨[.ref a], []⟩ [.ref a] [.ref a] _ hr rfl e0 hbind (.cons rfl .nil) sp0) fun r s' h => ?_
    cases r with
    | error e => exact h.elim
    | ok fl =>
      cases fl with
      | next => exact h.elim
      | brk => exact h.elim
      | cont => exact h.elim
      | ret u =>
        obtain ⟨v, H', os, bare, un, hok', r', rfl⟩ := h
        obtain rfl : u = Value.bool true := r'
        have key : ∀ b o, b ∉ cs → s1.heap.get? b = some o → s'.heap.get? b = some o := fun b o nb e => by
          cases q : H b with
          | none => exact un.keep b o e q (by intro z; exact absurd (show b ∈ ([] : List Addr) from z) (by simp)) (by simp)
          | some u =>
            rcases hO b with z | z | ⟨ob, xs, z⟩
            · rw [q] at z; cases z
            · exact absurd z nb
            · have z2 := un.frzs b ob _ z
              obtain ⟨e1, _⟩ := hok b _ z
              obtain ⟨e2, _⟩ := hok' b _ z2
              rw [e] at e1; cases e1
              exact e2
        have grown : ∀ b ∈ cs, ∃ more : Array Value, s'.heap.get? b = some { cls := .none, data := .fields more } := fun b hp => by
          obtain ⟨more, z⟩ := un.tbls b #[] (hH b hp)
          exact ⟨_, hok' b _ z⟩
        refine ⟨rfl, ⟨fun b o e => ?_, fun b o e => ?_⟩, os, bare⟩
        · by_cases hb : b ∈ cs
          · obtain ⟨more, hm⟩ := grown b hb
            rw [(isT b hb).1] at e
            cases e
            exact .inr (.inl ⟨(isT b hb).2.2, rfl, #[], more, rfl, by rw [hm, Array.empty_append]⟩)
          · exact .inl (key b o hb e)
        · by_cases hb : b ∈ cs
          · obtain ⟨more, hm⟩ := grown b hb
            exact ⟨_, hm⟩
          · exact ⟨o, key b o hb e⟩
  cases hk : K.lookup a with
  | some o =>
    have e := KX a o hk
    rw [ha] at e
    cases e
    refine core (fun b => if b ∈ cs then some (.tbl #[]) else none) (fun b hb => if_pos hb) (fun b => ?_) (.inr ⟨_, vs.toArray, _, hk, rfl, rfl, rfl, by rw [List.size_toArray, hi.length]; exact hl, by simpa using rv⟩) (fun b u z => ?_) (fun b z => ?_) fun z => absurd (show (if a ∈ cs then some (HO.tbl #[]) else none) = none from if_neg aT) z
    · by_cases hb : b ∈ cs
      · exact .inr (.inl hb)
      · exact .inl (if_neg hb)
    · by_cases hb : b ∈ cs
      · have z' := (if_pos hb).symm.trans z
        cases z'
        exact (isT b hb).1
      · have z' := (if_neg hb).symm.trans z
        cases z'
    · by_cases hb : b ∈ cs
      · exact .inr hb
      · exact absurd (if_neg hb) z
  | none =>
    refine core (fun b => if b = a then some (.frz { cls := .type "list", data := .seq vs.toArray } (.lst (ns.map V.int))) else if b ∈ cs then some (.tbl #[]) else none) (fun b hb => (if_neg (show ¬ b = a from fun z => aT (by rw [← z]; exact hb))).trans (if_pos hb)) (fun b => ?_)
      (.inl (.inr ⟨{ cls := .type "list", data := .seq vs.toArray }, (if_pos rfl).trans (if_pos rfl)⟩)) (fun b u z => ?_) (fun b z => ?_) fun _ => hk
    · by_cases hb : b = a
      · exact .inr (.inr ⟨_, _, if_pos hb⟩)
      · by_cases hb2 : b ∈ cs
        · exact .inr (.inl hb2)
        · exact .inl ((if_neg hb).trans (if_neg hb2))
    · by_cases hb : b = a
      · have z' := (if_pos hb).symm.trans z
        cases z'
        rw [hb]
        exact ⟨ha, by rw [List.length_map]; exact hl, vs, _, rv, ha⟩
      · have z1 := (if_neg hb).symm.trans z
        by_cases hb2 : b ∈ cs
        · have z' := (if_pos hb2).symm.trans z1
          cases z'
          exact (isT b hb2).1
        · have z' := (if_neg hb2).symm.trans z1
          cases z'
    · by_cases hb : b = a
      · exact .inl hb
      · have z1 : (if b ∈ cs then some (HO.tbl #[]) else none) ≠ none := fun q => z ((if_neg hb).trans q)
        by_cases hb2 : b ∈ cs
        · exact .inr hb2
        · exact absurd (if_neg hb2) z1
end
end DL
set_option Elab.async false
set_option linter.all false
set_option maxRecDepth 100000
set_option maxHeartbeats 2000000
set_option autoImplicit false
namespace DL
open PySem L2
/-- a comprehension whose turn changes no cell -/
theorem lc_go {fin : (Z → Cs → Prop) → List D → Cs → Prop} {k : Z → Cs → Prop} {ds : List D} {keep : Cs → Prop} {cs1 : Cs} {g : DG} {tt : DT} {te : DE} {own : List Nat} {en : En} (f : D → Option D) (hk : ∀ acc, keep (cs1 ++ [.lst acc])) (hl : ds.length ≤ 15000000)
    (h : ∀ (i : Nat) (d : D) (acc : List D), ds[i]? = some d → ∀ (P : Z → Cs → Prop) (N : Cs → Prop), (∀ y, f d = some y → P (.d y) (cs1 ++ [.lst acc])) → (f d = none → N (cs1 ++ [.lst acc])) →
      g (.d d) (wipeD en own) (cs1 ++ [.lst acc]) fun en2 cs2 => tt en2 cs2 fun b cs3 => if b = true then te en2 cs3 P else N cs3)
    (hq : fin k (ds.filterMap f) cs1) :
    ∃ I : Nat → List D → Cs → Prop, I 0 [] cs1 ∧ (∀ i acc c, I i acc c → c.length = cs1.length ∧ keep (c ++ [.lst acc])) ∧
      (∀ i d acc c, ds[i]? = some d → I i acc c → g (.d d) (wipeD en own) (c ++ [.lst acc]) fun en2 cs2 => tt en2 cs2 fun b cs3 =>
        if b = true then te en2 cs3 fun z cs4 => ∃ y c', z = .d y ∧ cs4.take (c.length + 1) = c' ++ [.lst acc] ∧ c'.length = c.length ∧ acc.length < LIM ∧ I (i + 1) (acc ++ [y]) c'
        else ∃ c', cs3.take (c.length + 1) = c' ++ [.lst acc] ∧ c'.length = c.length ∧ I (i + 1) acc c') ∧
      ∀ acc c, I ds.length acc c → fin k acc c := by
  refine ⟨fun i acc c => c = cs1 ∧ acc = (ds.take i).filterMap f, ⟨rfl, rfl⟩, ?_, ?_, ?_⟩
  · rintro i acc c ⟨rfl, _⟩
    exact ⟨rfl, hk acc⟩
  · rintro i d acc c hd ⟨rfl, rfl⟩
    have hi := (List.getElem?_eq_some_iff.mp hd).1
    have tk : (c ++ [D.lst ((ds.take i).filterMap f)]).take (c.length + 1) = c ++ [D.lst ((ds.take i).filterMap f)] := List.take_of_length_le (by simp)
    have sz : ((ds.take i).filterMap f).length < LIM := lim_lt (by
      have h1 := List.length_filterMap_le f (ds.take i)
      rw [List.length_take] at h1
      omega)
    have step : (ds.take (i + 1)).filterMap f = (ds.take i).filterMap f ++ (match f d with
      | some y => [y]
      | none => []) := by
      rw [List.take_add_one, hd, List.filterMap_append]
      congr 1
      show List.filterMap f [d] = _
      rw [List.filterMap_cons, List.filterMap_nil]
      cases f d <;> rfl
    refine h i d _ hd _ _ (fun y hy => ⟨y, c, rfl, tk, rfl, sz, rfl, ?_⟩) (fun hy => ⟨c, tk, rfl, rfl, ?_⟩)
    · rw [step, hy]
    · rw [step, hy, List.append_nil]
  · rintro acc c ⟨rfl, rfl⟩
    rw [List.take_length]
    exact hq
theorem filterMap_some {α β : Type} (f : α → β) (l : List α) : l.filterMap (fun x => some (f x)) = l.map f := by
  induction l with
  | nil => rfl
  | cons a l ih => rw [List.filterMap_cons, List.map_cons, ih]
/-- .. without a test -/
theorem lc_map {fin : (Z → Cs → Prop) → List D → Cs → Prop} {k : Z → Cs → Prop} {ds : List D} {keep : Cs → Prop} {cs1 : Cs} {g : DG} {te : DE} {own : List Nat} {en : En} (f : D → D) (hk : ∀ acc, keep (cs1 ++ [.lst acc])) (hl : ds.length ≤ 15000000)
    (h : ∀ (i : Nat) (d : D) (acc : List D), ds[i]? = some d → ∀ (P : Z → Cs → Prop), P (.d (f d)) (cs1 ++ [.lst acc]) → g (.d d) (wipeD en own) (cs1 ++ [.lst acc]) fun en2 cs2 => te en2 cs2 P)
    (hq : fin k (ds.map f) cs1) :
    ∃ I : Nat → List D → Cs → Prop, I 0 [] cs1 ∧ (∀ i acc c, I i acc c → c.length = cs1.length ∧ keep (c ++ [.lst acc])) ∧
      (∀ i d acc c, ds[i]? = some d → I i acc c → g (.d d) (wipeD en own) (c ++ [.lst acc]) fun en2 cs2 => dYes en2 cs2 fun b cs3 =>
        if b = true then te en2 cs3 fun z cs4 => ∃ y c', z = .d y ∧ cs4.take (c.length + 1) = c' ++ [.lst acc] ∧ c'.length = c.length ∧ acc.length < LIM ∧ I (i + 1) (acc ++ [y]) c'
        else ∃ c', cs3.take (c.length + 1) = c' ++ [.lst acc] ∧ c'.length = c.length ∧ I (i + 1) acc c') ∧
      ∀ acc c, I ds.length acc c → fin k acc c := by
  refine lc_go (fun x => some (f x)) hk hl (fun i d acc hd P N hp _ => ?_) (by rw [filterMap_some]; exact hq)
  show g (.d d) (wipeD en own) (cs1 ++ [.lst acc]) fun en2 cs2 => te en2 cs2 P
  exact h i d acc hd P (hp _ rfl)
theorem finZ_d (n : Nat) (q : Z → Cs → Prop) (x : D) (cs : Cs) : FinZ n q (.d x) cs = q (.d x) (cs.take n) := nd rfl
end DL
set_option Elab.async false
set_option linter.all false
set_option maxRecDepth 100000
set_option maxHeartbeats 2000000
set_option autoImplicit false
/-! t[::-1] of lists and tuples -/
namespace DL
open PySem PySem.Spec PyProof.Rows HT L2
section
variable {prog : Program} {w : World} {A : Around} {E : Value → Shared → Prop} {s : Shared}
end
section
variable {X : Cx} {pos : Pos}
def revD : D → (D → Prop) → Prop
  | .lst ds, k => k (.lst ds.reverse)
  | .tup ds, k => k (.tup ds.reverse)
  | _, _ => False
def dRev (a : DE) : DE := fun en cs k => a en cs fun x cs1 => withD cs1 x fun dx => revD dx fun z => k (.d z) cs1
end
end DL
set_option Elab.async false
set_option linter.all false
set_option maxRecDepth 100000
set_option maxHeartbeats 2000000
set_option autoImplicit false
/-! DLL: loops and comprehensions by what they walk; what repr takes -/
namespace DL
open PySem PySem.Spec PyProof.Rows L2
theorem dFor_mk {it : DI} {g : DG} {b : DS} {D0 : DEnds} {en : En} {cs : Cs} (ds : List D) (keep : Cs → Prop) (cs1 : Cs) (hit : ∀ K, K ds keep cs1 → it en cs K) (I : Nat → En → Cs → Prop) (h0 : I 0 en cs1)
    (hs : ∀ i d en cs, ds[i]? = some d → I i en cs → g (.d d) en cs fun en2 cs2 => b { D0 with nx := Wkn cs1.length (I (i + 1)), ct := Wkn cs1.length (I (i + 1)), bk := D0.nx } en2 cs2) (he : ∀ en cs, I ds.length en cs → D0.nx en cs)
    (hk : ∀ i en cs, I i en cs → keep cs) : dFor it g b D0 en cs := hit _ ⟨I, h0, hk, hs, he⟩
theorem dLc_mk {fin : (Z → Cs → Prop) → List D → Cs → Prop} {it : DI} {g : DG} {te : DE} {own : List Nat} {en : En} {cs : Cs} {k : Z → Cs → Prop} (ds : List D) (keep : Cs → Prop) (cs1 : Cs) (hit : ∀ K, K ds keep cs1 → it en cs K) (f : D → D) (hl : ds.length ≤ 15000000)
    (h : ∀ (i : Nat) (d : D) (acc : List D), ds[i]? = some d → ∀ (P : Z → Cs → Prop), P (.d (f d)) (cs1 ++ [.lst acc]) → g (.d d) (wipeD en own) (cs1 ++ [.lst acc]) fun en2 cs2 => te en2 cs2 P)
    (hq : fin k (ds.map f) cs1) (hk : ∀ acc, keep (cs1 ++ [.lst acc])) : dLcG fin it g dYes te own en cs k := hit _ (lc_map f hk hl h hq)
/-- .. where what is walked comes of calls -/
def dForB (g : DG) (b : DS) (D0 : DEnds) (en : En) (ds : List D) (keep : Cs → Prop) (cs1 : Cs) : Prop := ∃ I : Nat → En → Cs → Prop, I 0 en cs1 ∧ (∀ i en cs, I i en cs → keep cs) ∧
  (∀ i d en cs, ds[i]? = some d → I i en cs → g (.d d) en cs fun en2 cs2 => b { D0 with nx := Wkn cs1.length (I (i + 1)), ct := Wkn cs1.length (I (i + 1)), bk := D0.nx } en2 cs2) ∧ ∀ en cs, I ds.length en cs → D0.nx en cs
theorem dFor_it {it : DI} {g : DG} {b : DS} {D0 : DEnds} {en : En} {cs : Cs} (h : it en cs (dForB g b D0 en)) : dFor it g b D0 en cs := h
theorem dForB_mk {g : DG} {b : DS} {D0 : DEnds} {en : En} {ds : List D} {keep : Cs → Prop} {cs1 : Cs} (I : Nat → En → Cs → Prop) (h0 : I 0 en cs1)
    (hs : ∀ i d en cs, ds[i]? = some d → I i en cs → g (.d d) en cs fun en2 cs2 => b { D0 with nx := Wkn cs1.length (I (i + 1)), ct := Wkn cs1.length (I (i + 1)), bk := D0.nx } en2 cs2) (he : ∀ en cs, I ds.length en cs → D0.nx en cs)
    (hk : ∀ i en cs, I i en cs → keep cs) : dForB g b D0 en ds keep cs1 := ⟨I, h0, hk, hs, he⟩
/-! repr -/
structure RpN (w dep : Nat) (d : D) : Prop where
  ok : pyOk d = true
  sh : (py d).showable = true
  nd : (py d).hasDict = false
  dp : (py d).depth ≤ dep
  ln : (py d).shown.length ≤ w
theorem RpN.le {w w' e e' : Nat} {d : D} (h : RpN w e d) (h1 : w ≤ w') (h2 : e ≤ e') : RpN w' e' d := ⟨h.ok, h.sh, h.nd, Nat.le_trans h.dp h2, Nat.le_trans h.ln h1⟩
theorem RpN.rp {w e : Nat} {d : D} (h : RpN w e d) (h1 : w ≤ 16777216) (h2 : e ≤ 60) : RpOk d := ⟨h.ok, h.sh, h.nd, Nat.le_trans h.dp h2, Nat.le_trans h.ln (by rw [sizeLine_eq]; omega)⟩
theorem RpN.non : RpN 4 0 .non := ⟨rfl, rfl, rfl, Nat.le_refl _, by decide⟩
theorem RpN.bl (b : Bool) : RpN 5 0 (.bl b) := ⟨rfl, rfl, rfl, Nat.le_refl _, by cases b <;> decide⟩
theorem lt_pow_log2 {n k : Nat} (h0 : 0 < k) (h : n < 2 ^ k) : n.log2 < k := by
  by_cases e : n = 0
  · subst e
    simpa using h0
  · exact (Nat.log2_lt e).mpr h
theorem RpN.int {i : Int} (h1 : -(10 ^ 200) < i) (h2 : i < 10 ^ 200) : RpN 201 0 (.int i) := by
  have ha : i.natAbs < 10 ^ 200 := by omega
  refine ⟨rfl, ?_, rfl, Nat.le_refl _, ?_⟩
  · show decide (i.natAbs.log2 < 1920) = true
    exact decide_eq_true (lt_pow_log2 (by decide) (Nat.lt_of_lt_of_le ha (by decide +kernel)))
  · have e := int_text_length_le10 (k := 200) (by decide) ha
    show (Str.ofString (toString i)).length ≤ 201
    rw [PySem.ofString_length]
    exact e
theorem pyL_len : ∀ ds : List D, (pyL ds).length = ds.length
  | [] => rfl
  | d :: ds => by
    show (py d :: pyL ds).length = _
    rw [List.length_cons, List.length_cons, pyL_len ds]
theorem rp_all {w e : Nat} : ∀ {ds : List D}, (∀ d ∈ ds, RpN w e d) → pyOkL ds = true ∧ PyData.showableAll (pyL ds) = true ∧ PyData.hasDictAll (pyL ds) = false ∧ PyData.depthAll (pyL ds) ≤ e ∧ ((PyData.shownAll (pyL ds)).map (·.length)).sum ≤ w * ds.length
  | [], _ => ⟨rfl, rfl, rfl, Nat.zero_le _, by simp [pyL, PyData.shownAll]⟩
  | d :: ds, h => by
    obtain ⟨a, b, c, f, g⟩ := rp_all fun x hx => h x (List.mem_cons_of_mem _ hx)
    have r := h d List.mem_cons_self
    have hd := r.dp
    have hl := r.ln
    refine ⟨?_, ?_, ?_, ?_, ?_⟩
    · show (pyOk d && pyOkL ds) = true
      rw [r.ok, a]; rfl
    · simp only [pyL, PyData.showableAll, r.sh, b, Bool.and_self]
    · simp only [pyL, PyData.hasDictAll, r.nd, c, Bool.or_self]
    · simp only [pyL, PyData.depthAll]
      omega
    · simp only [pyL, PyData.shownAll, List.map_cons, List.sum_cons, List.length_cons]
      rw [Nat.mul_succ]
      omega
theorem shownAll_len (ds : List D) : (PyData.shownAll (pyL ds)).length = ds.length := by rw [PyData.shownAll_length, pyL_len]
theorem RpN.lst {w e : Nat} {ds : List D} (n : Nat) (hn : ds.length ≤ n) (h : ∀ d ∈ ds, RpN w e d) : RpN ((w + 2) * n + 3) (e + 1) (.lst ds) := by
  obtain ⟨a, b, c, f, g⟩ := rp_all h
  refine ⟨a, by simpa only [py, PyData.showable] using b, by simpa only [py, PyData.hasDict] using c, by simp only [py, PyData.depth]; omega, ?_⟩
  have l := listText_len_le (PyData.shownAll (pyL ds))
  rw [shownAll_len] at l
  simp only [py, PyData.shown]
  have m : (w + 2) * ds.length ≤ (w + 2) * n := Nat.mul_le_mul_left _ hn
  rw [Nat.add_mul] at m
  omega
theorem RpN.tup {w e : Nat} {ds : List D} (n : Nat) (hn : ds.length ≤ n) (h : ∀ d ∈ ds, RpN w e d) : RpN ((w + 2) * n + 3) (e + 1) (.tup ds) := by
  obtain ⟨a, b, c, f, g⟩ := rp_all h
  refine ⟨a, by simpa only [py, PyData.showable] using b, by simpa only [py, PyData.hasDict] using c, by simp only [py, PyData.depth]; omega, ?_⟩
  have l := tupleText_len_le (PyData.shownAll (pyL ds))
  rw [shownAll_len] at l
  simp only [py, PyData.shown]
  have m : (w + 2) * ds.length ≤ (w + 2) * n := Nat.mul_le_mul_left _ hn
  rw [Nat.add_mul] at m
  omega
theorem RpN.bls (bs : List Bool) (n : Nat) (hn : bs.length ≤ n) : RpN (7 * n + 3) 1 (.lst (bs.map D.bl)) := RpN.lst n (by rw [List.length_map]; exact hn) fun d hd => by
  obtain ⟨b, _, rfl⟩ := List.mem_map.mp hd
  exact RpN.bl b
/-! what == takes -/
structure EqN (dep : Nat) (d : D) : Prop where
  ok : pyOk d = true
  cl : (py d).canLay0 = true
  dp : (py d).depth ≤ dep
theorem EqN.le {e e' : Nat} {d : D} (h : EqN e d) (h2 : e ≤ e') : EqN e' d := ⟨h.ok, h.cl, Nat.le_trans h.dp h2⟩
theorem EqN.eq {e : Nat} {d : D} (h : EqN e d) (h2 : e ≤ 64) : EqOk d := ⟨h.ok, by
  unfold SeqAt.shaped
  rw [h.cl, decide_eq_true (Nat.le_trans h.dp h2)]
  rfl⟩
theorem EqN.non : EqN 0 .non := ⟨rfl, rfl, Nat.le_refl _⟩
theorem EqN.bl (b : Bool) : EqN 0 (.bl b) := ⟨rfl, rfl, Nat.le_refl _⟩
theorem EqN.int (i : Int) : EqN 0 (.int i) := ⟨rfl, rfl, Nat.le_refl _⟩
theorem eq_all {e : Nat} : ∀ {ds : List D}, (∀ d ∈ ds, EqN e d) → pyOkL ds = true ∧ PyData.canLayAll0 (pyL ds) = true ∧ PyData.depthAll (pyL ds) ≤ e
  | [], _ => ⟨rfl, rfl, Nat.zero_le _⟩
  | d :: ds, h => by
    obtain ⟨a, b, c⟩ := eq_all fun x hx => h x (List.mem_cons_of_mem _ hx)
    have r := h d List.mem_cons_self
    have hd := r.dp
    refine ⟨?_, ?_, ?_⟩
    · show (pyOk d && pyOkL ds) = true
      rw [r.ok, a]; rfl
    · simp only [pyL, PyData.canLayAll0, r.cl, b, Bool.and_self]
    · simp only [pyL, PyData.depthAll]
      omega
theorem EqN.lst {e : Nat} {ds : List D} (h : ∀ d ∈ ds, EqN e d) : EqN (e + 1) (.lst ds) := by
  obtain ⟨a, b, c⟩ := eq_all h
  exact ⟨a, by simpa only [py, PyData.canLay0] using b, by simp only [py, PyData.depth]; omega⟩
theorem EqN.tup {e : Nat} {ds : List D} (h : ∀ d ∈ ds, EqN e d) : EqN (e + 1) (.tup ds) := by
  obtain ⟨a, b, c⟩ := eq_all h
  exact ⟨a, by simpa only [py, PyData.canLay0] using b, by simp only [py, PyData.depth]; omega⟩
theorem set_snoc (cs : Cs) (x y : D) : (cs ++ [x]).set cs.length y = cs ++ [y] := by
  rw [List.set_append_right _ _ (Nat.le_refl _), Nat.sub_self]
  rfl
theorem take_snoc (cs : Cs) (x : D) : (cs ++ [x]).take cs.length = cs := List.take_left
/-! items by place -/
theorem ixN_nat {n i : Nat} (h : i < n) : ixN n (i : Int) = some i := by
  unfold ixN
  rw [if_pos (by omega), if_pos (by omega), Int.toNat_natCast]
theorem at_nat {α : Type} {xs : List α} {i : Nat} {x : α} (h : xs[i]? = some x) : atI xs (i : Int) = some x := by
  unfold atI
  rw [ixN_nat (List.getElem?_eq_some_iff.mp h).1]
  exact h
theorem at_int {α : Type} {xs : List α} {j : Int} {x : α} (h0 : 0 ≤ j) (h : xs[j.toNat]? = some x) : atI xs j = some x := by
  have := at_nat h
  rwa [Int.toNat_of_nonneg h0] at this
theorem at0 {α : Type} {a : α} {l : List α} : atI (a :: l) 0 = some a := at_nat (i := 0) rfl
theorem at1 {α : Type} {a b : α} {l : List α} : atI (a :: b :: l) 1 = some b := at_nat (i := 1) rfl
theorem at2 {α : Type} {a b c : α} {l : List α} : atI (a :: b :: c :: l) 2 = some c := at_nat (i := 2) rfl
theorem at3 {α : Type} {a b c d : α} {l : List α} : atI (a :: b :: c :: d :: l) 3 = some d := at_nat (i := 3) rfl
theorem at4 {α : Type} {a b c d e : α} {l : List α} : atI (a :: b :: c :: d :: e :: l) 4 = some e := at_nat (i := 4) rfl
theorem at5 {α : Type} {a b c d e f : α} {l : List α} : atI (a :: b :: c :: d :: e :: f :: l) 5 = some f := at_nat (i := 5) rfl
theorem at_last {α : Type} {a : α} {l : List α} : atI (l ++ [a]) (-1) = some a := by
  unfold atI ixN
  rw [if_neg (by decide), if_pos (by simp only [List.length_append, List.length_cons, List.length_nil]; omega)]
  have e : (-1 + ((l ++ [a]).length : Nat) : Int).toNat = l.length := by
    simp only [List.length_append, List.length_cons, List.length_nil]
    omega
  rw [e]
  show (l ++ [a])[l.length]? = some a
  rw [List.getElem?_append_right (Nat.le_refl _), Nat.sub_self]
  rfl
theorem ix0 {n : Nat} : ixN (n + 1) 0 = some 0 := ixN_nat (i := 0) (by omega)
theorem ix1 {n : Nat} : ixN (n + 1 + 1) 1 = some 1 := ixN_nat (i := 1) (by omega)
theorem ix2 {n : Nat} : ixN (n + 1 + 1 + 1) 2 = some 2 := ixN_nat (i := 2) (by omega)
/-! kinds -/
def isInt : D → Bool
  | .int _ => true
  | _ => false
def isTup : D → Bool
  | .tup _ => true
  | _ => false
theorem kit_dec (a : String) (h : a ∈ ["NoneType", "bool", "int", "str", "tuple", "list"]) : kitB a "int" = some (a == "int" || a == "bool") ∧ kitB a "bool" = some (a == "bool") ∧ kitB a "tuple" = some (a == "tuple") := by
  have all : (["NoneType", "bool", "int", "str", "tuple", "list"].all fun a => decide (kitB a "int" = some (a == "int" || a == "bool")) && decide (kitB a "bool" = some (a == "bool")) && decide (kitB a "tuple" = some (a == "tuple"))) = true := by decide +kernel
  have := List.all_eq_true.mp all a h
  simp only [Bool.and_eq_true, decide_eq_true_eq] at this
  exact ⟨this.1.1, this.1.2, this.2⟩
theorem ty_in {x : D} (h : pyOk x = true) : tyD x ∈ ["NoneType", "bool", "int", "str", "tuple", "list"] := by
  cases x <;> first | (exact Bool.noConfusion h) | (simp [tyD])
theorem kit_int {x : D} (h : pyOk x = true) : kitB (tyD x) "int" = some (isInt x || (tyD x == "bool")) := by
  rw [(kit_dec _ (ty_in h)).1]
  cases x <;> rfl
theorem kit_bool {x : D} (h : pyOk x = true) : kitB (tyD x) "bool" = some (tyD x == "bool") := (kit_dec _ (ty_in h)).2.1
theorem kit_tup {x : D} (h : pyOk x = true) : kitB (tyD x) "tuple" = some (isTup x) := by
  rw [(kit_dec _ (ty_in h)).2.2]
  cases x <;> rfl
theorem pyOk_of_mem : ∀ {ds : List D}, (∀ d ∈ ds, pyOk d = true) → pyOkL ds = true
  | [], _ => rfl
  | x :: ds, o => by
    show (pyOk x && pyOkL ds) = true
    rw [o x List.mem_cons_self, pyOk_of_mem fun d h => o d (List.mem_cons_of_mem _ h)]
    rfl
theorem finZ_new {n m : Nat} {q : Z → Cs → Prop} {cs : Cs} {x : D} (h : n ≤ m) (e : cs[m]? = some x) (p : q (.c n) (cs.take n ++ [x])) : FinZ n q (.c m) cs := .inr ⟨h, by rw [e]; exact .inr p⟩
theorem finZ_froz {n m : Nat} {q : Z → Cs → Prop} {cs : Cs} {x : D} (h : n ≤ m) (e : cs[m]? = some x) (p : q (.d x) (cs.take n)) : FinZ n q (.c m) cs := .inr ⟨h, by rw [e]; exact .inl p⟩
theorem get_snoc (cs : Cs) (x : D) : (cs ++ [x])[cs.length]? = some x := by
  rw [List.getElem?_append_right (Nat.le_refl _), Nat.sub_self]
  rfl
end DL
set_option Elab.async false
set_option linter.all false
set_option maxRecDepth 100000
set_option maxHeartbeats 2000000
set_option autoImplicit false
/-! DLM: the operators, one row for each kind of arguments -/
namespace DL
open PySem PySem.Spec PyProof.Rows L2
section
variable {cs : Cs} {k : D → Prop} {kl : List D → Prop}
theorem e_wd (x : D) : withD cs (.d x) k = k x := nd rfl
theorem e_wc0 (x : D) (cs : Cs) : withD (x :: cs) (.c 0) k = k x := nd rfl
theorem e_wcs (x : D) (cs : Cs) (n : Nat) : withD (x :: cs) (.c (n + 1)) k = withD cs (.c n) k := nd rfl
theorem e_wsn (x : D) (cs : Cs) : withD (cs ++ [x]) (.c cs.length) k = k x := by
  unfold withD
  simp only [get_snoc]
theorem e_wc1 (x y : D) (cs : Cs) : withD (x :: y :: cs) (.c 1) k = k y := nd rfl
theorem e_wc2 (x y z : D) (cs : Cs) : withD (x :: y :: z :: cs) (.c 2) k = k z := nd rfl
theorem e_wl0 : withL cs [] kl = kl [] := nd rfl
theorem e_wl1 (z : Z) (zs : List Z) : withL cs (z :: zs) kl = withD cs z fun x => withL cs zs fun xs => kl (x :: xs) := nd rfl
theorem e_dl0 : datL [] kl = kl [] := nd rfl
theorem e_dl1 (x : D) (zs : List Z) : datL (.d x :: zs) kl = datL zs fun xs => kl (x :: xs) := nd rfl
theorem e_sl (ds : List D) (K : List D → (Cs → Prop) → Prop) : seqD cs (.d (.lst ds)) K = K ds yes := nd rfl
theorem e_st (ds : List D) (K : List D → (Cs → Prop) → Prop) : seqD cs (.d (.tup ds)) K = K ds yes := nd rfl
theorem e_ss (ns : List Int) (K : List D → (Cs → Prop) → Prop) : seqD cs (.d (.scr ns)) K = K (ns.map D.int) yes := nd rfl
theorem e_addi (i j : Int) : addD (.int i) (.int j) k = k (.int (i + j)) := nd rfl
theorem e_adds (a b : Str) : addD (.str a) (.str b) k = (a.length + b.length ≤ sizeLine ∧ k (.str (a ++ b))) := nd rfl
theorem e_addt (a b : List D) : addD (.tup a) (.tup b) k = (a.length + b.length ≤ LIM ∧ k (.tup (a ++ b))) := nd rfl
theorem e_addl (a b : List D) : addD (.lst a) (.lst b) k = (a.length + b.length ≤ LIM ∧ k (.lst (a ++ b))) := nd rfl
theorem e_sub (i j : Int) : subD (.int i) (.int j) k = k (.int (i - j)) := nd rfl
theorem e_muli (i j : Int) : mulD (.int i) (.int j) k = ((Sm i ∧ Sm j) ∧ k (.int (i * j))) := nd rfl
theorem e_mult (a : List D) (n : Int) : mulD (.tup a) (.int n) k = ((a ≠ [] ∧ 2 ≤ n ∧ n ≤ 1000 ∧ a.length ≤ 1000) ∧ k (.tup (List.replicate n.toNat a).flatten)) := nd rfl
theorem e_mull (a : List D) (n : Int) : mulD (.lst a) (.int n) k = ((0 ≤ n ∧ n ≤ 100000 ∧ a.length ≤ 1000 ∧ a.length * n.toNat ≤ LIM) ∧ k (.lst (List.replicate n.toNat a).flatten)) := nd rfl
theorem e_fdiv (i j : Int) : fdivD (.int i) (.int j) k = (Dv j ∧ k (.int (i / j))) := nd rfl
theorem e_mod (i j : Int) : modD (.int i) (.int j) k = (0 < j ∧ k (.int (i % j))) := nd rfl
theorem e_pow (i j : Int) : powD (.int i) (.int j) k = ((0 ≤ j ∧ j ≤ 1000 ∧ Sm i) ∧ k (.int (i ^ j.toNat))) := nd rfl
theorem e_neg (i : Int) : negD (.int i) k = k (.int (-i)) := nd rfl
theorem e_lt (i j : Int) : ltD (.int i) (.int j) k = k (.bl (decide (i < j))) := nd rfl
theorem e_le (i j : Int) : leD (.int i) (.int j) k = k (.bl (decide (i ≤ j))) := nd rfl
theorem e_gt (i j : Int) : gtD (.int i) (.int j) k = k (.bl (decide (j < i))) := nd rfl
theorem e_ge (i j : Int) : geD (.int i) (.int j) k = k (.bl (decide (j ≤ i))) := nd rfl
theorem e_eqi (i j : Int) : eqUD (.int i) (.int j) k = k (.bl (decide (i = j))) := nd rfl
theorem e_eqs (i j : Str) : eqUD (.str i) (.str j) k = k (.bl (decide (i = j))) := nd rfl
theorem e_eql (a : List D) (y : D) : eqUD (.lst a) y k = ((EqOk (.lst a) ∧ EqOk y) ∧ k (.bl (eqvD (.lst a) y))) := nd rfl
theorem e_eqt (a : List D) (y : D) : eqUD (.tup a) y k = ((EqOk (.tup a) ∧ EqOk y) ∧ k (.bl (eqvD (.tup a) y))) := nd rfl
theorem e_eqb (a : Bool) (y : D) : eqUD (.bl a) y k = ((EqOk (.bl a) ∧ EqOk y) ∧ k (.bl (eqvD (.bl a) y))) := nd rfl
theorem e_eqn (y : D) : eqUD .non y k = ((EqOk .non ∧ EqOk y) ∧ k (.bl (eqvD .non y))) := nd rfl
theorem e_nei (i j : Int) : neUD (.int i) (.int j) k = k (.bl (!decide (i = j))) := nd rfl
theorem e_nes (i j : Str) : neUD (.str i) (.str j) k = k (.bl (!decide (i = j))) := nd rfl
theorem e_nel (a : List D) (y : D) : neUD (.lst a) y k = ((EqOk (.lst a) ∧ EqOk y) ∧ k (.bl (!eqvD (.lst a) y))) := nd rfl
theorem e_net (a : List D) (y : D) : neUD (.tup a) y k = ((EqOk (.tup a) ∧ EqOk y) ∧ k (.bl (!eqvD (.tup a) y))) := nd rfl
theorem e_neb (a : Bool) (y : D) : neUD (.bl a) y k = ((EqOk (.bl a) ∧ EqOk y) ∧ k (.bl (!eqvD (.bl a) y))) := nd rfl
theorem e_nen (y : D) : neUD .non y k = ((EqOk .non ∧ EqOk y) ∧ k (.bl (!eqvD .non y))) := nd rfl
theorem e_isb (a b : Bool) : isD (.bl a) (.bl b) k = k (.bl (decide (a = b))) := nd rfl
theorem e_isn (x : D) : isD x .non k = k (.bl (isNonD x)) := by cases x <;> rfl
theorem e_inb (a b : Bool) : isNotD (.bl a) (.bl b) k = k (.bl (!decide (a = b))) := nd rfl
theorem e_inn (x : D) : isNotD x .non k = k (.bl (!isNonD x)) := by cases x <;> rfl
theorem e_in1 : isNonD .non = true := nd rfl
theorem e_in2 (i : Int) : isNonD (.int i) = false := nd rfl
theorem e_in3 (i : List D) : isNonD (.tup i) = false := nd rfl
theorem e_in4 (i : List D) : isNonD (.lst i) = false := nd rfl
theorem e_in5 (i : Bool) : isNonD (.bl i) = false := nd rfl
theorem e_ixt (ds : List D) (i : Int) : ixD (.tup ds) (.int i) k = atD ds i k := nd rfl
theorem e_ixl (ds : List D) (i : Int) : ixD (.lst ds) (.int i) k = atD ds i k := nd rfl
theorem e_ixs (ns : List Int) (i : Int) : ixD (.scr ns) (.int i) k = ∃ n, atI ns i = some n ∧ k (.int n) := nd rfl
theorem e_at {ds : List D} {i : Int} {d : D} (h : atI ds i = some d) : atD ds i k = k d := by
  unfold atD
  rw [h]
theorem e_at0 (a : D) (l : List D) : atD (a :: l) 0 k = k a := e_at at0
theorem e_at1 (a b : D) (l : List D) : atD (a :: b :: l) 1 k = k b := e_at at1
theorem e_at2 (a b c : D) (l : List D) : atD (a :: b :: c :: l) 2 k = k c := e_at at2
theorem e_at3 (a b c d : D) (l : List D) : atD (a :: b :: c :: d :: l) 3 k = k d := e_at at3
theorem e_at4 (a b c d e : D) (l : List D) : atD (a :: b :: c :: d :: e :: l) 4 k = k e := e_at at4
theorem e_at5 (a b c d e f : D) (l : List D) : atD (a :: b :: c :: d :: e :: f :: l) 5 k = k f := e_at at5
theorem e_atl (a : D) (l : List D) : atD (l ++ [a]) (-1) k = k a := e_at at_last
theorem e_keyi (i : Int) (kk : Key → Prop) : keyD (.int i) kk = kk (.inl i) := nd rfl
theorem e_keys (i : Str) (kk : Key → Prop) : keyD (.str i) kk = kk (.inr i) := nd rfl
theorem e_lenl (ds : List D) : lenD [.lst ds] k = k (.int ds.length) := nd rfl
theorem e_lent (ds : List D) : lenD [.tup ds] k = k (.int ds.length) := nd rfl
theorem e_lens (ns : List Int) : lenD [.scr ns] k = k (.int ns.length) := nd rfl
theorem e_lend (kvs : List (Key × D)) : lenD [.dic kvs] k = k (.int kvs.length) := nd rfl
theorem e_maxi (i j : Int) : maxD [.int i, .int j] k = k (.int (max i j)) := nd rfl
theorem e_mini (i j : Int) : minD [.int i, .int j] k = k (.int (min i j)) := nd rfl
theorem e_maxl (ds : List D) : maxD [.lst ds] k = ∃ ns : List Int, ds = ns.map D.int ∧ 0 < ns.length ∧ ∀ m, m ∈ ns → (∀ y, y ∈ ns → y ≤ m) → k (.int m) := nd rfl
theorem e_minl (ds : List D) : minD [.lst ds] k = ∃ ns : List Int, ds = ns.map D.int ∧ 0 < ns.length ∧ ∀ m, m ∈ ns → (∀ y, y ∈ ns → m ≤ y) → k (.int m) := nd rfl
theorem e_sum (ds : List D) : sumD [.lst ds] k = ∃ ns : List Int, ds = ns.map D.int ∧ k (.int ns.sum) := nd rfl
theorem e_all (ds : List D) : allD [.lst ds] k = ∃ bs : List Bool, ds = bs.map D.bl ∧ k (.bl (bs.all id)) := nd rfl
theorem e_any (ds : List D) : anyD [.lst ds] k = ∃ bs : List Bool, ds = bs.map D.bl ∧ k (.bl (bs.any id)) := nd rfl
theorem e_inti (i : Int) : intD [.int i] k = k (.int i) := nd rfl
theorem e_intb (b : Bool) : intD [.bl b] k = k (.int (if b then 1 else 0)) := nd rfl
theorem e_abs (i : Int) : absD [.int i] k = k (.int (if i < 0 then -i else i)) := nd rfl
theorem e_tol (ds : List D) : tupOfD [.lst ds] k = k (.tup ds) := nd rfl
theorem e_tot (ds : List D) : tupOfD [.tup ds] k = k (.tup ds) := nd rfl
theorem e_tos (ns : List Int) : tupOfD [.scr ns] k = k (.tup (ns.map D.int)) := nd rfl
theorem e_lol (ds : List D) : lstOfD [.lst ds] k = k (.lst ds) := nd rfl
theorem e_lot (ds : List D) : lstOfD [.tup ds] k = k (.lst ds) := nd rfl
theorem e_los (ns : List Int) : lstOfD [.scr ns] k = k (.lst (ns.map D.int)) := nd rfl
theorem e_sll (ds : List D) (lo hi : Option Int) : sliceD (.lst ds) lo hi k = k (.lst (cutG ds lo hi)) := nd rfl
theorem e_slt (ds : List D) (lo hi : Option Int) : sliceD (.tup ds) lo hi k = k (.tup (cutG ds lo hi)) := nd rfl
theorem e_rvl (ds : List D) : revD (.lst ds) k = k (.lst ds.reverse) := nd rfl
theorem e_rvt (ds : List D) : revD (.tup ds) k = k (.tup ds.reverse) := nd rfl
theorem e_repr (x : D) : reprD [x] k = (RpOk x ∧ k (.str (py x).shown)) := nd rfl
theorem e_isi (n : String) (x : D) : isiN n [x, .ty n] k = ∃ b, kitB (tyD x) n = some b ∧ k (.bl b) := by
  show (n = n ∧ _) = _
  rw [eq_self_iff_true, true_and]
end
/-- what follows an if, named once -/
def dLock (b : DS) : DS := b
section
variable {X : Cx} {pos : Pos}
/-- the block's readings are found once, at one block -/
theorem q_lcH {elt tg iter : Expr} {ifs : List Expr} {scope : Scope} {own : List (Str × Nat)} {fin : (Z → Cs → Prop) → List D → Cs → Prop} {wi : TI} {g : TG} {tt : TT} {te : TE} {it : DI} {dg : DG} {dt : DT} {de : DE} {is : List Nat} (hf : FinOk X.K fin) (hN : X.N.Nodup) (hi : QI X tg iter wi it) (ok : BlkOk X.N X.env.scope scope own) (s0 : Shared)
    (g0 : QG (X.blk s0 (fun _ => none) scope (compEnvC scope [] 0 X.env) []) tg g dg is) (t0 : QTs (X.blk s0 (fun _ => none) scope (compEnvC scope [] 0 X.env) []) ifs tt dt) (e0 : QE (X.blk s0 (fun _ => none) scope (compEnvC scope [] 0 X.env) []) elt te de)
    (hg : ∀ (s : Shared) (H : Hp) (C : Addr) (cl : List (Str × Addr)) (fp : List Addr), QG (X.blk s H scope (compEnvC scope cl C X.env) fp) tg g dg is) (ht : ∀ (s : Shared) (H : Hp) (C : Addr) (cl : List (Str × Addr)) (fp : List Addr), QTs (X.blk s H scope (compEnvC scope cl C X.env) fp) ifs tt dt)
    (he : ∀ (s : Shared) (H : Hp) (C : Addr) (cl : List (Str × Addr)) (fp : List Addr), QE (X.blk s H scope (compEnvC scope cl C X.env) fp) elt te de) (hw : ∀ i ∈ is, i ∈ own.map (·.2)) (hc : X.calm = true := by rfl) (hs : ∀ x, foldedSetIterable iter X.env x = pure x := by intro _; rfl) :
    QE X (.ListComp elt [⟨tg, iter, ifs, 0⟩] scope pos) (tLc wi g tt te (own.map (·.2))) (dLcG fin it dg dt de (own.map (·.2))) := q_lcG hf hN hi ok hg ht he s0 hw hc hs
end
def r2D (z w : Z) (K : Int → Int → Prop) : Prop := ∃ i j, z = .d (.int i) ∧ w = .d (.int j) ∧ K i j
theorem e_r2 (a b : Int) (K : Int → Int → Prop) : r2D (.d (.int a)) (.d (.int b)) K = K a b := by
  refine propext ⟨fun ⟨i, j, h1, h2, h⟩ => ?_, fun h => ⟨a, b, rfl, rfl, h⟩⟩
  cases h1
  cases h2
  exact h
theorem e_diR2 {a b : DE} {en : En} {cs : Cs} {k : List D → (Cs → Prop) → Cs → Prop} : diR2 a b en cs k = a en cs fun z cs1 => b en cs1 fun w cs2 => r2D z w fun i j => (Rg i ∧ Rg j) ∧ k (rgD i (j - i).toNat) yes cs2 := nd rfl
end DL
set_option Elab.async false
set_option linter.all false
set_option maxRecDepth 100000
set_option maxHeartbeats 2000000
set_option autoImplicit false
/-! DLN: lists that an operator lays and that will change -/
namespace DL
open PySem PySem.Spec PyProof.Rows L2
def dOpC (f : D → D → (List D → Prop) → Prop) (a b : DE) : DE := fun en cs k => a en cs fun x cs1 => b en cs1 fun y cs2 => withD cs2 x fun dx => withD cs2 y fun dy => f dx dy fun ds => k (.c cs2.length) (cs2 ++ [.lst ds])
section
variable {X : Cx} {pos : Pos}
theorem Rep.fresh {K : PySem.W.Frag} {S H : Hp} {as : List Addr} {cs : Cs} {k : Z → Cs → Prop} {Q : VK} (r : Rep K S H as cs) (p : PQ K S as k Q) {ds : List D} {vs : List V} {l : Addr} (hl : H l = none) (is : IsL K S ds vs) (h : k (.c cs.length) (cs ++ [.lst ds])) : Q (.ref l) (upd H l (.lst vs)) :=
  p (.c cs.length) (.ref l) S _ (as ++ [l]) _ ⟨Sub.refl _, [l], rfl⟩ (r.cell hl (c := .lst ds) ⟨r.sub.free hl, vs, upd_same, is⟩) ⟨l, r.get_new l, rfl⟩ h
def addC : D → D → (List D → Prop) → Prop
  | .lst a, .lst b, k => a.length + b.length ≤ LIM ∧ k (a ++ b)
  | _, _, _ => False
def mulC : D → D → (List D → Prop) → Prop
  | .lst a, .int n, k => (0 ≤ n ∧ n ≤ 100000 ∧ a.length ≤ 1000 ∧ a.length * n.toNat ≤ LIM) ∧ k (List.replicate n.toNat a).flatten
  | _, _, _ => False
theorem e_addC (a b : List D) (k : List D → Prop) : addC (.lst a) (.lst b) k = (a.length + b.length ≤ LIM ∧ k (a ++ b)) := nd rfl
theorem e_mulC (a : List D) (n : Int) (k : List D → Prop) : mulC (.lst a) (.int n) k = ((0 ≤ n ∧ n ≤ 100000 ∧ a.length ≤ 1000 ∧ a.length * n.toNat ≤ LIM) ∧ k (List.replicate n.toNat a).flatten) := nd rfl
/-- xs[a:b], to be changed -/
def dSlC (a : DE) (lo hi : DO) : DE := fun en cs k => a en cs fun x cs1 => lo en cs1 fun l cs2 => hi en cs2 fun h cs3 => withD cs3 x fun dx => ∃ ds, dx = .lst ds ∧ k (.c cs3.length) (cs3 ++ [.lst (cutG ds l h)])
/-- list(x), to be changed -/
def lstOfC : D → (List D → Prop) → Prop
  | .lst ds, k => k ds
  | .tup ds, k => k ds
  | .scr ns, k => k (ns.map D.int)
  | _, _ => False
theorem e_loCl (ds : List D) (k : List D → Prop) : lstOfC (.lst ds) k = k ds := nd rfl
theorem e_loCt (ds : List D) (k : List D → Prop) : lstOfC (.tup ds) k = k ds := nd rfl
theorem e_loCs (ns : List Int) (k : List D → Prop) : lstOfC (.scr ns) k = k (ns.map D.int) := nd rfl
def dListC (a : DE) : DE := fun en cs k => a en cs fun x cs1 => withD cs1 x fun dx => lstOfC dx fun ds => k (.c cs1.length) (cs1 ++ [.lst ds])
end
end DL
set_option Elab.async false
set_option linter.all false
set_option maxRecDepth 100000
set_option maxHeartbeats 2000000
set_option autoImplicit false
/-! DLP: sorted of rows of ints (pairs, triples), of any number of them, in a list or a tuple -/
namespace DL
open PySem PySem.Spec PyProof.Rows L2
def key3 : List Int → Int × Int × Int
  | a :: b :: c :: _ => (a, b, c)
  | [a, b] => (a, b, 0)
  | [a] => (a, 0, 0)
  | [] => (0, 0, 0)
def lex3 (p q : Int × Int × Int) : Bool := decide (p.1 < q.1 ∨ (p.1 = q.1 ∧ (p.2.1 < q.2.1 ∨ (p.2.1 = q.2.1 ∧ p.2.2 < q.2.2))))
def lexL : List Int → List Int → Bool
  | x :: xs, y :: ys => if x = y then lexL xs ys else decide (x < y)
  | _, _ => false
theorem lex_eq : ∀ (ns ms : List Int), ns.length = ms.length → ns.length ≤ 3 → lexL ns ms = lex3 (key3 ns) (key3 ms)
  | [], [], _, _ => by simp [lexL, lex3, key3]
  | [a], [x], _, _ => by
    simp only [lexL, lex3, key3]
    by_cases h : a = x <;> simp [h]
  | [a, b], [x, y], _, _ => by
    simp only [lexL, lex3, key3]
    by_cases h : a = x
    · by_cases h2 : b = y <;> simp [h, h2]
    · simp [h]
  | [a, b, c], [x, y, z], _, _ => by
    simp only [lexL, lex3, key3]
    by_cases h : a = x
    · by_cases h2 : b = y
      · by_cases h3 : c = z <;> simp [h, h2, h3]
      · simp [h, h2]
    · simp [h]
  | _ :: _ :: _ :: _ :: _, _, _, h => by simp at h
def RowV : List Value → List Int → Prop
  | [], [] => True
  | v :: vs, n :: ns => (∃ t, v = .int n t) ∧ RowV vs ns
  | _, _ => False
theorem rowV_of : ∀ {ns : List Int} {us : List Value}, Vals (ns.map V.int) us → RowV us ns
  | [], _, .nil => trivial
  | n :: ns, _ :: _, .cons r t => by
    obtain ⟨tk, rfl⟩ := r
    exact ⟨⟨tk, rfl⟩, rowV_of t⟩
def rowOf (h : Heap) : Value → List Int
  | .ref a => match h.get? a with
    | some o => match o.data with
      | .seq xs _ => xs.toList.map fun v => match v with
        | .int i _ => i
        | _ => 0
      | _ => []
    | none => []
  | _ => []
def IsRow (h : Heap) (v : Value) (ns : List Int) : Prop := ∃ (a : Addr) (o : Obj) (us : List Value) (n : Nat), v = .ref a ∧ h.get? a = some o ∧ o.cls = .type "tuple" ∧ o.data = .seq us.toArray n ∧ RowV us ns
theorem IsRow.keeps {h h' : Heap} {v : Value} {ns : List Int} (p : IsRow h v ns) (k : ∀ b o, h.get? b = some o → o.cls = .type "tuple" → h'.get? b = some o) : IsRow h' v ns := by
  obtain ⟨a, o, us, n, e, ho, hc, hd, r⟩ := p
  exact ⟨a, o, us, n, e, k _ _ ho hc, hc, hd, r⟩
theorem rowV_back : ∀ {us : List Value} {ns : List Int}, RowV us ns → (us.map fun v => match v with
    | .int i _ => i
    | _ => 0) = ns
  | [], [], _ => rfl
  | [], _ :: _, h => h.elim
  | _ :: _, [], h => h.elim
  | v :: us, n :: ns, ⟨⟨t, e⟩, h⟩ => by
    subst e
    rw [List.map_cons, rowV_back h]
theorem IsRow.row {h : Heap} {v : Value} {ns : List Int} (p : IsRow h v ns) : rowOf h v = ns := by
  obtain ⟨a, o, us, n, rfl, ho, hc, hd, r⟩ := p
  unfold rowOf
  simp only [ho, hd]
  exact rowV_back r
section
variable {prog : Program} {w : World} {A : Around} {E : Value → Shared → Prop} {s : Shared}
theorem kat_rows {R : Bool} : ∀ (us us' : List Value) (ns ns' : List Int) (i : Nat), RowV us ns → RowV us' ns' → ns.length = ns'.length → R = lexL ns ns' →
    PySem.W.KatLex prog w A true false (fun r s' => s' = s ∧ r = R) (us.zip us') i s
  | [], [], [], [], _, _, _, _, e => PySem.W.kat_nil ⟨rfl, e.symm⟩
  | v :: us, v' :: us', x :: ns, x' :: ns', i, ⟨⟨t, e1⟩, h⟩, ⟨⟨t', e2⟩, h'⟩, l, e => by
    subst e1 e2
    rw [List.zip_cons_cons]
    refine PySem.W.kat_cons (SeqAt.EqAt.int_int x t x' t' prog w _ _ ?_)
    refine PySem.W.kat_go (fun q => ?_) (fun q => ?_)
    · have ex : x = x' := by simpa using q
      refine PySem.W.kat_yes (kat_rows us us' ns ns' (i + 1) h h' (by simpa using l) ?_)
      rw [e]
      simp only [lexL, ex, if_true]
    · have ex : ¬ x = x' := by simpa using q
      have e3 : R = decide (x < x') := by
        rw [e]
        simp only [lexL, ex, if_false]
      refine PySem.W.kat_no ?_
      cases i with
      | zero => exact oneLt_int ⟨rfl, e3.symm⟩
      | succ i => exact PySem.W.kat_one _ _ (PyProof.Rows.lt_int (Q := PySem.W.BoolBack _) ⟨rfl, e3.symm⟩)
  | [], _, _ :: _, _, _, h, _, _, _ => h.elim
  | _ :: _, _, [], _, _, h, _, _, _ => h.elim
  | _, [], _, _ :: _, _, _, h, _, _ => h.elim
  | _, _ :: _, _, [], _, _, h, _, _ => h.elim
abbrev ltR (k : Value → List Int) (v u : Value) : Bool := lex3 (key3 (k v)) (key3 (k u))
theorem lex3_no {p q : Int × Int × Int} : lex3 p q = false ↔ ¬ (p.1 < q.1 ∨ (p.1 = q.1 ∧ (p.2.1 < q.2.1 ∨ (p.2.1 = q.2.1 ∧ p.2.2 < q.2.2)))) := decide_eq_false_iff_not
theorem swoR (k : Value → List Int) : SrtO.Swo (ltR k) := by
  refine ⟨fun x y h => ?_, fun x y z h1 h2 => ?_⟩
  · have h' := of_decide_eq_true h
    refine lex3_no.mpr ?_
    omega
  · have a := lex3_no.mp h1
    have b := lex3_no.mp h2
    refine lex3_no.mpr ?_
    omega
theorem rows_cmp {vs : List Value} {k : Value → List Int} {d : Nat} (hd : d ≤ 3) (hp : ∀ v ∈ vs, IsRow s.heap v (k v) ∧ (k v).length = d) : SrtO.Cmp prog w A s (tuples' true) (fun p => p.1 ∈ vs) (SrtO.lt2 (ltR k)) := by
  intro p q hm hm'
  obtain ⟨h1, l1⟩ := hp _ hm
  obtain ⟨h2, l2⟩ := hp _ hm'
  show wpAny (model prog w) A (keyLt' (tuples' true) p.1 q.1) (fun r s' => s' = s ∧ r = lex3 (key3 (k p.1)) (key3 (k q.1))) (fun _ _ => False) s
  rw [← lex_eq _ _ (l1.trans l2.symm) (by omega)]
  obtain ⟨a, o, us, n, e, ho, hc, hdt, r⟩ := h1
  obtain ⟨a', o', us', n', e', ho', hc', hdt', r'⟩ := h2
  have lu : ∀ {us : List Value} {ns : List Int}, RowV us ns → us.length = ns.length := fun {us ns} => by
    induction us generalizing ns with
    | nil => cases ns with
      | nil => intro _; rfl
      | cons _ _ => intro h; exact h.elim
    | cons u us ih => cases ns with
      | nil => intro h; exact h.elim
      | cons n ns => intro h; rw [List.length_cons, List.length_cons, ih h.2]
  have e0 : keyLt' (tuples' true) p.1 q.1 = keyLt' (tuples' true) (.ref a) (.ref a') := by rw [e, e']
  rw [e0]
  refine PySem.W.kat_lt ho hdt ho' hdt' ?_
  have z : decide (us.toArray.size < us'.toArray.size) = false := by
    rw [List.size_toArray, List.size_toArray, lu r, lu r', l1, l2]
    exact decide_eq_false (Nat.lt_irrefl _)
  rw [z]
  exact kat_rows us us' _ _ 0 r r' (l1.trans l2.symm) rfl
theorem firstsR {h : Heap} {k : Value → List Int} {d : Nat} (hd : 1 ≤ d) : ∀ {vs : List Value}, (∀ v ∈ vs, IsRow h v (k v) ∧ (k v).length = d) → ∃ fs : List Value, PySem.W.KatTups h vs fs ∧ fs.length = vs.length ∧ ∀ f ∈ fs, ∃ x t, f = Value.int x t
  | [], _ => ⟨[], PySem.W.KatTups.nil, rfl, fun _ hm => by simp at hm⟩
  | v :: vs, hp => by
    obtain ⟨fs, h1, h2, h3⟩ := firstsR hd (vs := vs) fun v' hm => hp v' (List.mem_cons_of_mem _ hm)
    obtain ⟨⟨a, o, us, n, e, ho, hc, hdt, r⟩, l⟩ := hp v List.mem_cons_self
    subst e
    generalize k (.ref a) = ns at r l
    cases us with
    | nil => cases ns with
      | nil => simp only [List.length_nil] at l; omega
      | cons _ _ => exact r.elim
    | cons u us => cases ns with
      | nil => exact r.elim
      | cons m ns =>
        obtain ⟨⟨t, rfl⟩, r⟩ := r
        refine ⟨.int m t :: fs, PySem.W.KatTups.cons ho hc hdt rfl h1, by rw [List.length_cons, List.length_cons, h2], fun f hm => ?_⟩
        rcases List.mem_cons.mp hm with rfl | hm
        · exact ⟨m, t, rfl⟩
        · exact h3 f hm
theorem rows_sortable {a : Addr} {vs : List Value} {k : Value → List Int} {d : Nat} (h0 : 0 < vs.length) (hd1 : 1 ≤ d) (hd : d ≤ 3) (hp : ∀ v ∈ vs, IsRow s.heap v (k v) ∧ (k v).length = d) (ha : ∀ o, s.heap.get? a = some o → o.cls ≠ .type "tuple") : SrtO.SortableO prog w A s a vs (ltR k) := by
  intro h' keep
  have hp' : ∀ v ∈ vs, IsRow h' v (k v) ∧ (k v).length = d := fun v hm => ⟨(hp v hm).1.keeps fun b o e c => keep b o (fun z => by subst z; exact ha o e c) e, (hp v hm).2⟩
  obtain ⟨fs, h1, h2, h3⟩ := firstsR hd1 hp'
  refine ⟨tuples' true, fun Q E hq => ?_, rows_cmp hd hp'⟩
  refine PySem.W.kat_kind (T := .type "int") h1 (by omega) (fun f hm => ?_) (by rfl) ?_
  · obtain ⟨x, t, rfl⟩ := h3 f hm
    exact PySem.W.Looks.now
  · have e : (Value.type "int" != Value.type "tuple") = true := by first | decide +kernel | rfl | decide
    rw [e]
    exact hq
theorem collect_tup {l : Addr} {vs : List Value} {Q : List Value → Shared → Prop} (hl : IsTup s.heap l vs.toArray)
    (h : Q vs { s with heap := (s.heap.push (seqObj "list" #[] 0)).update s.heap.objs.size (Obj.mapSeq (· ++ vs.toArray)) }) (hsz : vs.length ≤ sizeLine) :
    wpAny (model prog w) A (collect (.ref l)) Q E s := by
  obtain ⟨o, ho, hc, n, hd⟩ := id hl
  unfold collect
  refine wpAny_bind (wpAny_runValue (codeAny_builtin entry_proto_collect' ?_))
  show wpAny _ _ (do again (.builtin "list.__iadd__" ⟨[← newList [], .ref l], []⟩)) _ _ s
  refine wpAny_bind (wpAny_newList (wpAny_pure ⟨Code.quiet_builtin _ (by decide +kernel), codeAny_builtin entry_list_iadd' ?_⟩))
  show wpAny _ _ (Builtin.List.listExtendWith (.ref s.heap.objs.size) (.ref l) (.ref s.heap.objs.size)) _ _ { s with heap := s.heap.push (seqObj "list" #[] 0) }
  unfold Builtin.List.listExtendWith
  have ho' : (s.heap.push (seqObj "list" #[] 0)).get? l = some o := Heap.get?_push_of_some _ ho
  refine wpAny_bind (wpAny_typeOf (T := "tuple") ⟨o, ho', hc⟩ ?_)
  have ht : (Value.type "tuple" == Value.type "tuple") = true := by rfl
  rw [if_pos (by rw [ht]; simp)]
  refine wpAny_bind (listItems_at ho' hd ?_)
  refine wpAny_bind (listItems_at (xs := #[]) (n := 0) (Heap.get?_push_size _ rfl) rfl ?_)
  rw [if_neg (by simp)]
  refine wpAny_bind (listUpdate_at (xs := #[]) (n := 0) (Heap.get?_push_size _ rfl) rfl ?_ (Nat.zero_le _) (by show (#[] ++ vs.toArray).size ≤ sizeLine + 1; simp only [Array.size_append, List.size_toArray, List.length_nil]; omega))
  refine wpAny_pure ?_
  show wpAny (model prog w) A (do
      let o ← load s.heap.objs.size
      match o.data with
      | .seq xs _ => pure xs.toList
      | _ => unsupported "internal:collect") Q E { s with heap := (s.heap.push (seqObj "list" #[] 0)).update s.heap.objs.size (Obj.mapSeq (· ++ vs.toArray)) }
  refine wpAny_bind (wpAny_load (get?_update_seq (Heap.get?_push_size _ rfl) _) ?_)
  show wpAny _ _ (pure ((#[] : Array Value) ++ vs.toArray).toList) Q E _
  rw [show ((#[] : Array Value) ++ vs.toArray).toList = vs by simp]
  exact wpAny_pure h
theorem sorted_tup {l : Addr} {vs : List Value} {ltv : Value → Value → Bool} {Q : Value → Shared → Prop} (O : SrtO.Swo ltv) (hl : IsTup s.heap l vs.toArray) (hz : vs.length ≤ sizeLine)
    (hS : 2 ≤ vs.length → ∀ (h₁ : Heap) (a : Addr), h₁.get? a = some (seqObj "list" vs.toArray 0) → (∀ b o, s.heap.get? b = some o → b ≠ a ∧ h₁.get? b = some o) → SrtO.SortableO prog w A.in1.in1 { s with heap := h₁ } a vs ltv)
    (h : ∀ out : List Value, SrtO.Srtd ltv out → SrtO.Stb ltv out vs → Q (.ref (s.heap.objs.size + 1)) { s with heap := sortedAll s.heap vs out.toArray }) :
    wpAny (model prog w) A (call (.builtin "sorted") [.ref l]) Q E s := by
  refine Calls.call_function_entry kind_sorted plain_sorted entry_sorted (args_sorted1 _) ?_
  unfold Builtin.«sorted»
  refine wpAny_bind (m := checkCount "sorted" 1 1 _) (wpAny_pure ?_)
  refine wpAny_bind (collect_tup hl ?_ hz)
  refine wpAny_bind (wpAny_newList ?_ hz)
  have hsz : ((s.heap.push (seqObj "list" #[] 0)).update s.heap.objs.size (Obj.mapSeq (· ++ vs.toArray))).objs.size = s.heap.objs.size + 1 := by
    rw [Heap.size_update, size_push']
  have hoL : (((s.heap.push (seqObj "list" #[] 0)).update s.heap.objs.size (Obj.mapSeq (· ++ vs.toArray))).push (seqObj "list" vs.toArray 0)).get? (s.heap.objs.size + 1) = some (seqObj "list" vs.toArray 0) := by
    rw [← hsz]; exact Heap.get?_push_size _ rfl
  have keep : ∀ b o, s.heap.get? b = some o → b ≠ s.heap.objs.size + 1 ∧ (((s.heap.push (seqObj "list" #[] 0)).update s.heap.objs.size (Obj.mapSeq (· ++ vs.toArray))).push (seqObj "list" vs.toArray 0)).get? b = some o := fun b o q => by
    have hlt : b < s.heap.objs.size := Heap.lt_size q
    refine ⟨Nat.ne_of_lt (Nat.lt_succ_of_lt hlt), Heap.get?_push_of_some _ ?_⟩
    rw [Heap.get?_update_ne _ _ _ _ (Nat.ne_of_lt hlt)]
    exact Heap.get?_push_of_some _ q
  show wpAny _ _ _ _ _ { s with heap := ((s.heap.push (seqObj "list" #[] 0)).update s.heap.objs.size (Obj.mapSeq (· ++ vs.toArray))).push (seqObj "list" vs.toArray 0) }
  rw [hsz]
  refine wpAny_bind (wpAny_holding (wpAny_call_entry slot_list_sort ⟨_, hoL, rfl⟩ entry_list_sort (SrtO.list_sort_ord O hoL hz (fun h2 => hS h2 _ _ hoL keep) fun out hs hb => ⟨_, rfl, ?_⟩) (args_list_sort _)))
  exact wpAny_pure ⟨_, rfl, h out hs hb⟩
theorem sorted_rows {l : Addr} {vs : List Value} {k : Value → List Int} {d : Nat} {Q : Value → Shared → Prop} (hl : s.heap.IsList l vs.toArray ∨ IsTup s.heap l vs.toArray) (hz : vs.length ≤ sizeLine) (hd1 : 1 ≤ d) (hd : d ≤ 3) (hp : ∀ v ∈ vs, IsRow s.heap v (k v) ∧ (k v).length = d)
    (h : ∀ (h' : Heap) (D : Addr) (out : List Value), SrtO.Srtd (ltR k) out → SrtO.Stb (ltR k) out vs → (∀ b o, s.heap.get? b = some o → h'.get? b = some o) → s.heap.objs.size ≤ D → (∃ n, h'.get? D = some (seqObj "list" out.toArray n)) → Q (.ref D) { s with heap := h' }) :
    wpAny (model prog w) A (call (.builtin "sorted") [.ref l]) Q E s := by
  have hS : 2 ≤ vs.length → ∀ (h₁ : Heap) (a : Addr), h₁.get? a = some (seqObj "list" vs.toArray 0) → (∀ b o, s.heap.get? b = some o → b ≠ a ∧ h₁.get? b = some o) → SrtO.SortableO prog w A.in1.in1 { s with heap := h₁ } a vs (ltR k) := fun h2 h₁ a ha kk => by
    refine rows_sortable (s := { s with heap := h₁ }) (by omega) hd1 hd (fun v hm => ⟨(hp v hm).1.keeps fun b o e _ => (kk b o e).2, (hp v hm).2⟩) fun o e => ?_
    have e' : some o = some (seqObj "list" vs.toArray 0) := e.symm.trans ha
    cases e'
    intro c
    exact absurd (Value.type.inj c) (by decide)
  have fin : ∀ out : List Value, SrtO.Srtd (ltR k) out → SrtO.Stb (ltR k) out vs → Q (.ref (s.heap.objs.size + 1)) { s with heap := sortedAll s.heap vs out.toArray } := fun out hs hb =>
    h _ _ out hs hb (fun b o e => sortedAll_old e) (Nat.le_succ _) (sortedAll_at s.heap vs out.toArray)
  rcases hl with hl | hl
  · exact SrtO.sorted_ord (swoR k) hl hz hS fin
  · exact sorted_tup (swoR k) hl hz hS fin
end
/-! ### the rule -/
def rSortedR (K : PySem.W.Frag) : List V → Hp → VK → Prop := fun vs H Q => ∃ (a : Addr) (xs : List V) (rows : List (List Int)) (d : Nat), vs = [V.ref a] ∧ (SqL K H a xs ∨ SqT K H a xs) ∧ (1 ≤ d ∧ d ≤ 3) ∧ Paired (fun (x : V) (r : List Int) => r.length = d ∧ ∃ t, x = V.ref t ∧ SqT K H t (r.map V.int)) xs rows ∧
  ∀ (out : List (V × List Int)) (p : Addr), out.Perm (xs.zip rows) → out.Pairwise (fun x y => lex3 (key3 y.2) (key3 x.2) = false) → H p = none → Q (.ref p) (upd H p (.lst (out.map (·.1))))
theorem isRow_of {X : Cx} {pins : List (Addr × Obj)} {σ : L2.St} {H : Hp} {s : Shared} (I : Inv X pins σ H s) {t : Addr} {r : List Int} (h : SqT X.K H t (r.map V.int)) : IsRow s.heap (.ref t) r := by
  obtain ⟨its, rv, ⟨o, ho, hc, n, hd⟩, _⟩ := I.tuple h
  exact ⟨t, o, its, n, rfl, ho, hc, hd, rowV_of rv⟩
theorem rows_back {X : Cx} {pins : List (Addr × Obj)} {σ : L2.St} {H : Hp} {s : Shared} {d : Nat} (I : Inv X pins σ H s) : ∀ {xs : List V} {rows : List (List Int)} {us : List Value}, Paired (fun (x : V) (r : List Int) => r.length = d ∧ ∃ t, x = V.ref t ∧ SqT X.K H t (r.map V.int)) xs rows → Vals xs us →
    xs.zip rows = us.map (fun u => (backV u, rowOf s.heap u)) ∧ ∀ u ∈ us, (∃ a, u = Value.ref a) ∧ IsRow s.heap u (rowOf s.heap u) ∧ (rowOf s.heap u).length = d
  | _, _, _, .nil, .nil => ⟨rfl, fun u hu => by simp at hu⟩
  | x :: xs, r :: rows, _ :: us, .cons p t, .cons v vs => by
    obtain ⟨l, a, rfl, hq⟩ := p
    cases v
    obtain ⟨e1, e2⟩ := rows_back I t vs
    have ir := isRow_of I hq
    refine ⟨?_, fun u hu => ?_⟩
    · rw [List.zip_cons_cons, e1, List.map_cons, ir.row]
      rfl
    · rcases List.mem_cons.mp hu with rfl | hu
      · exact ⟨⟨a, rfl⟩, by rw [ir.row]; exact ir, by rw [ir.row]; exact l⟩
      · exact e2 u hu
theorem cr_sortedR {X : Cx} : CallR X (.builtin "sorted") (rSortedR X.K) := by
  intro pins s σ H vs us Q I r h
  obtain ⟨a, xs, rows, d, rfl, hs, ⟨d1, d3⟩, hx, q⟩ := h
  have hseq : ∃ its, Vals xs its ∧ (s.heap.IsList a its.toArray ∨ IsTup s.heap a its.toArray) ∧ xs.length ≤ sizeLine := by
    rcases hs with hs | hs
    · obtain ⟨its, rv, hl, hz⟩ := I.list hs
      exact ⟨its, rv, .inl hl.isList, hz⟩
    · obtain ⟨its, rv, hl, hz⟩ := I.tuple hs
      exact ⟨its, rv, .inr hl, hz⟩
  obtain ⟨its, rv, hl, hz⟩ := hseq
  obtain ⟨u, rfl, ru⟩ := vals1 r
  obtain rfl : u = Value.ref a := ru
  obtain ⟨e1, e2⟩ := rows_back I hx rv
  refine sorted_rows (k := rowOf s.heap) hl (by rw [← rv.length]; exact hz) d1 d3 (fun v hv => (e2 v hv).2) fun h' D out h1 h2 kp hd hn => ?_
  have h3 : ∀ u ∈ out, ∃ a, u = Value.ref a := fun u hu => (e2 u (h2.perm.mem_iff.mp hu)).1
  obtain ⟨n, hn⟩ := hn
  have hp : (out.map fun u => (backV u, rowOf s.heap u)).Perm (xs.zip rows) := by
    rw [e1]
    exact h2.perm.map _
  have hw : (out.map fun u => (backV u, rowOf s.heap u)).Pairwise (fun x y => lex3 (key3 y.2) (key3 x.2) = false) := List.pairwise_map.mpr h1
  have e3 : (out.map fun u => (backV u, rowOf s.heap u)).map (·.1) = out.map backV := by
    rw [List.map_map]
    rfl
  have q' := q _ D hp hw (I.hok.fresh hd)
  rw [e3] at q'
  refine ⟨.ref D, upd H D (.lst (out.map backV)), I.laid (t' := s.toks) kp hd ⟨?_, out, n, vals_back h3, hn⟩, rfl, q'⟩
  rw [List.length_map, h2.perm.length_eq, ← rv.length]
  exact hz
def rowD (r : List Int) : D := .tup (r.map D.int)
def sortedRD : List D → (D → Prop) → Prop
  | [.lst ds], k => ∃ (rows : List (List Int)) (d : Nat), ds = rows.map rowD ∧ (1 ≤ d ∧ d ≤ 3 ∧ ∀ r ∈ rows, r.length = d) ∧ ∀ out : List (List Int), out.Perm rows → out.Pairwise (fun x y => lex3 (key3 y) (key3 x) = false) → k (.lst (out.map rowD))
  | [.tup ds], k => ∃ (rows : List (List Int)) (d : Nat), ds = rows.map rowD ∧ (1 ≤ d ∧ d ≤ 3 ∧ ∀ r ∈ rows, r.length = d) ∧ ∀ out : List (List Int), out.Perm rows → out.Pairwise (fun x y => lex3 (key3 y) (key3 x) = false) → k (.lst (out.map rowD))
  | _, _ => False
theorem rows_is {K : PySem.W.Frag} {S H : Hp} {d : Nat} (e : Sub S H) : ∀ {rows : List (List Int)} {vs : List V}, IsL K S (rows.map rowD) vs → (∀ r ∈ rows, r.length = d) →
    Paired (fun (x : V) (r : List Int) => r.length = d ∧ ∃ t, x = V.ref t ∧ SqT K H t (r.map V.int)) vs rows ∧ ∀ p ∈ vs.zip rows, Is K S (rowD p.2) p.1
  | [], vs, h, _ => by
    have h' : vs = [] := h
    subst h'
    exact ⟨.nil, fun p hp => by simp at hp⟩
  | r :: rows, vs, h, hd => by
    obtain ⟨v, us, rfl, h1, h2⟩ := h
    obtain ⟨i1, i2⟩ := rows_is e h2 fun r hr => hd r (List.mem_cons_of_mem _ hr)
    have h1' := h1
    obtain ⟨a, ws, rfl, hs, is⟩ := h1
    have e2 := IsL.ints is
    subst e2
    refine ⟨.cons ⟨hd r List.mem_cons_self, a, rfl, e.t hs⟩ i1, fun p hp => ?_⟩
    rw [List.zip_cons_cons] at hp
    rcases List.mem_cons.mp hp with rfl | hp
    · exact h1'
    · exact i2 p hp
theorem isL_out {K : PySem.W.Frag} {S : Hp} : ∀ {out : List (V × List Int)}, (∀ p ∈ out, Is K S (rowD p.2) p.1) → IsL K S ((out.map (·.2)).map rowD) (out.map (·.1))
  | [], _ => rfl
  | p :: out, h => ⟨p.1, out.map (·.1), rfl, h p List.mem_cons_self, isL_out fun q hq => h q (List.mem_cons_of_mem _ hq)⟩
theorem zip_snd : ∀ {xs : List V} {rows : List (List Int)}, xs.length = rows.length → (xs.zip rows).map (·.2) = rows
  | [], [], _ => rfl
  | x :: xs, r :: rows, h => by
    rw [List.zip_cons_cons, List.map_cons, zip_snd (by simpa using h)]
  | [], _ :: _, h => by simp at h
  | _ :: _, [], h => by simp at h
theorem c_sortedR {K : PySem.W.Frag} : Cl K (rSortedR K) sortedRD := by
  intro S H as cs ds vs k Q r hv h q
  have go : ∀ (a : Addr) (us : List V) (rows : List (List Int)) (d : Nat), (SqL K H a us ∨ SqT K H a us) → IsL K S (rows.map rowD) us → (1 ≤ d ∧ d ≤ 3 ∧ ∀ r ∈ rows, r.length = d) → (∀ out : List (List Int), out.Perm rows → out.Pairwise (fun x y => lex3 (key3 y) (key3 x) = false) → k (.lst (out.map rowD))) → rSortedR K [V.ref a] H Q := fun a us rows d hs is ⟨d1, d3, hd⟩ hk => by
    obtain ⟨i1, i2⟩ := rows_is r.sub is hd
    have hlen : us.length = rows.length := by
      have := is.len
      rw [List.length_map] at this
      exact this
    refine ⟨a, us, rows, d, rfl, hs, ⟨d1, d3⟩, i1, fun out p hp hw hpn => ?_⟩
    have iso := isL_out (K := K) (S := S) (out := out) fun z hz => i2 z (hp.mem_iff.mp hz)
    have hn := Sub.new (o := .lst (out.map (·.1))) (r.sub.free hpn)
    refine q (.lst _) _ _ _ hn (r.lay hpn _) ⟨p, _, rfl, upd_same, IsL.mono hn _ _ iso⟩ (hk _ ?_ (List.pairwise_map.mpr hw))
    have := hp.map (·.2)
    rwa [zip_snd hlen] at this
  unfold sortedRD at h
  split at h
  · obtain ⟨v, rfl, a, us, rfl, hs, is⟩ := shL_one hv
    obtain ⟨rows, d, rfl, hd, hk⟩ := h
    exact go a us rows d (.inl (SqL.of hs)) is hd hk
  · obtain ⟨v, rfl, a, us, rfl, hs, is⟩ := shL_one hv
    obtain ⟨rows, d, rfl, hd, hk⟩ := h
    exact go a us rows d (.inr (r.sub.t hs)) is hd hk
  · exact h.elim
theorem e_srtl (ds : List D) (k : D → Prop) : sortedRD [.lst ds] k = ∃ (rows : List (List Int)) (d : Nat), ds = rows.map rowD ∧ (1 ≤ d ∧ d ≤ 3 ∧ ∀ r ∈ rows, r.length = d) ∧ ∀ out : List (List Int), out.Perm rows → out.Pairwise (fun x y => lex3 (key3 y) (key3 x) = false) → k (.lst (out.map rowD)) := nd rfl
theorem e_srtt (ds : List D) (k : D → Prop) : sortedRD [.tup ds] k = ∃ (rows : List (List Int)) (d : Nat), ds = rows.map rowD ∧ (1 ≤ d ∧ d ≤ 3 ∧ ∀ r ∈ rows, r.length = d) ∧ ∀ out : List (List Int), out.Perm rows → out.Pairwise (fun x y => lex3 (key3 y) (key3 x) = false) → k (.lst (out.map rowD)) := nd rfl
end DL
set_option Elab.async false
set_option linter.all false
set_option maxRecDepth 100000
set_option maxHeartbeats 2000000
set_option autoImplicit false
/-! DLQ: instances of own classes: fields read and stored, made -/
namespace DL
open PySem PySem.Spec PyProof.Rows L2
/-! names and values of fields -/
def putN (f : Str) : List Str → List Str
  | [] => [f]
  | n :: ns => if n = f then n :: ns else n :: putN f ns
def putD {α : Type} (f : Str) (d : α) : List Str → List α → List α
  | [], _ => [d]
  | _ :: _, [] => []
  | n :: ns, x :: xs => if n = f then d :: xs else x :: putD f d ns xs
theorem putF_zip (f : Str) (v : V) : ∀ (ns : List Str) (vs : List V), ns.length = vs.length → putF f v (ns.zip vs) = (putN f ns).zip (putD f v ns vs)
  | [], [], _ => rfl
  | n :: ns, x :: vs, h => by
    rw [List.zip_cons_cons]
    show (if n = f then (n, v) :: ns.zip vs else (n, x) :: putF f v (ns.zip vs)) = _
    unfold putN putD
    by_cases e : n = f
    · rw [if_pos e, if_pos e, if_pos e, List.zip_cons_cons]
    · rw [if_neg e, if_neg e, if_neg e, List.zip_cons_cons, putF_zip f v ns vs (by simpa using h)]
  | [], _ :: _, h => by simp at h
  | _ :: _, [], h => by simp at h
theorem put_len {α : Type} (f : Str) (d : α) : ∀ (ns : List Str) (ds : List α), ns.length = ds.length → (putN f ns).length = (putD f d ns ds).length
  | [], [], _ => rfl
  | n :: ns, x :: ds, h => by
    unfold putN putD
    by_cases e : n = f
    · rw [if_pos e, if_pos e]
      simpa using h
    · rw [if_neg e, if_neg e, List.length_cons, List.length_cons, put_len f d ns ds (by simpa using h)]
  | [], _ :: _, h => by simp at h
  | _ :: _, [], h => by simp at h
theorem isL_put {K : PySem.W.Frag} {S : Hp} {d : D} {v : V} (hd : Is K S d v) (f : Str) : ∀ (ns : List Str) (ds : List D) (vs : List V), ns.length = ds.length → IsL K S ds vs → IsL K S (putD f d ns ds) (putD f v ns vs)
  | [], [], vs, _, h => by
    have h' : vs = [] := h
    subst h'
    exact ⟨v, [], rfl, hd, rfl⟩
  | n :: ns, x :: ds, vs, l, h => by
    obtain ⟨y, r, rfl, h1, h2⟩ := h
    unfold putD
    by_cases e : n = f
    · rw [if_pos e, if_pos e]
      exact ⟨v, r, rfl, hd, h2⟩
    · rw [if_neg e, if_neg e]
      exact ⟨y, _, rfl, h1, isL_put hd f ns ds r (by simpa using l) h2⟩
  | [], _ :: _, _, h, _ => by simp at h
  | _ :: _, [], _, h, _ => by simp at h
theorem isL_look {K : PySem.W.Frag} {S : Hp} {f : Str} {d : D} : ∀ (ns : List Str) (ds : List D) (vs : List V), ns.length = ds.length → IsL K S ds vs → (ns.zip ds).lookup f = some d → ∃ v, (ns.zip vs).lookup f = some v ∧ Is K S d v
  | [], [], _, _, _, e => by simp at e
  | n :: ns, x :: ds, vs, l, h, e => by
    obtain ⟨y, r, rfl, h1, h2⟩ := h
    rw [List.zip_cons_cons, List.lookup_cons] at e ⊢
    cases q : f == n with
    | true =>
      rw [q] at e
      cases e
      exact ⟨y, rfl, h1⟩
    | false =>
      rw [q] at e
      exact isL_look ns ds r (by simpa using l) h2 e
  | [], _ :: _, _, h, _, _ => by simp at h
  | _ :: _, [], _, h, _, _ => by simp at h
section
variable {X : Cx} {pos : Pos}
/-- o.f -/
def dFld (C : Addr) (f : Str) (o : DE) : DE := fun en cs k => o en cs fun z cs1 => withD cs1 z fun d => match d with
  | .ob C' ns ds => C' = C ∧ ∃ x, (ns.zip ds).lookup f = some x ∧ k (.d x) cs1
  | _ => False
theorem q_fld {C : Addr} {f : Str} {o : Expr} {to : TE} {od : DE} (c : Cls X.K C) (na : NoAttr X.K C f) (ho : QE X o to od) (hb : attributeBase o f X.env (eval o X.env) = eval o X.env := by rfl) : QE X (.Attribute o f pos) (tFld X.K to f) (dFld C f od) := by
  refine ⟨pe_fld ho.pe hb, ?_⟩
  intro σ H S as en cs k Q r e q p
  refine ho.sem.use r e q fun z v S1 H1 as1 cs1 e1 r1 v1 q1 => ?_
  obtain ⟨d, l1, q1⟩ := withD_look q1
  have hx := look_sh r1 v1 l1
  split at q1
  · obtain ⟨rfl, x, hl, q1⟩ := q1
    obtain ⟨a, dx, vs, rfl, ha, hd, hn, is⟩ := hx
    obtain ⟨u, hu, iu⟩ := isL_look _ _ _ hn is hl
    exact ⟨a, _, dx, _, u, rfl, ha, c, na, hu, p (.d x) u S1 H1 as1 cs1 e1 r1 iu q1⟩
  · exact q1.elim
/-- self.f = value, self a cell -/
def dSetF (C : Addr) (f : Str) (o v : DE) : DS := fun D en cs => v en cs fun y cs1 => o en cs1 fun x cs2 => match x, y with
  | .c n, .d d => (match cs2[n]? with
    | some (.ob C' ns ds) => C' = C ∧ ns.length < 1000 ∧ D.nx en (cs2.set n (.ob C (putN f ns) (putD f d ns ds)))
    | _ => False)
  | _, _ => False
theorem qs_setF {C : Addr} {f : Str} {o value : Expr} {to tv : TE} {od vd : DE} {pos' : Pos} (c : Cls X.K C) (na : NoAttr X.K C f) (ho : QE X o to od) (hv : QE X value tv vd) (hs : swapsWith value (some (.Attribute o f pos')) pos.line X.env = pure false := by rfl) :
    QS X (.Assign [.Attribute o f pos'] value pos) (sFld X.K to tv f) (dSetF C f od vd) := by
  refine ⟨ps_fld ho.pe hv.pe hs, ?_⟩
  intro σ H S as en cs D E r e q p
  refine hv.sem.use r e q fun z v S1 H1 as1 cs1 e1 r1 v1 q1 => ?_
  refine ho.sem.use r1 (e.mono e1) q1 fun z2 v2 S2 H2 as2 cs2 e2 r2 w2 q2 => ?_
  split at q2
  · rename_i n d
    split at q2
    · rename_i C' ns ds hc
      obtain ⟨rfl, hn, q2⟩ := q2
      obtain ⟨a, ha, rfl⟩ := w2
      obtain ⟨hS, dx, vs, hH, hd, hl, is⟩ := r2.cel n a _ ha hc
      have vd' : Is X.K S2 d v := Is.mono e2.sub _ _ v1
      have lv : ns.length = vs.length := hl.trans is.len.symm
      refine ⟨a, _, dx, _, rfl, hH, c, na, by rw [List.length_zip, lv, Nat.min_self, ← lv]; exact hn, ?_⟩
      rw [putF_zip f v ns vs lv]
      refine p.nx σ S2 _ as2 en _ (e1.trans e2) (r2.put ha (c := .ob _ (putN f ns) (putD f d ns ds)) ⟨hS, dx, _, upd_same, hd, put_len f d ns ds hl, isL_put vd' f ns ds vs hl is⟩ hS) (e.mono (e1.trans e2)) q2
    · exact q2.elim
  · exact q2.elim
end
end DL
set_option Elab.async false
set_option linter.all false
set_option maxRecDepth 100000
set_option maxHeartbeats 2000000
set_option autoImplicit false
/-! DLR: a new instance of an own class -/
namespace DL
open PySem PySem.Spec PyProof.Rows L2
section
variable {X : Cx} {k : Nat} {f C : Addr} {fd : FuncData} {ps : List Str} {sp : DSpec} {x : Str} {p pos : Pos} {e : Expr} {es : List Expr} {ta : TA} {da : DA}
theorem run_makeD {pins : List (Addr × Obj)} {σ : L2.St} {H : Hp} {s : Shared} {Q : VK} {us : List Value} {vs : List V} (M : Mk X.K C f) (F : FnD X.prog X.w X.K X.mg X.base k f fd ps sp) (hr : Room (k + 1) X.A) (hg : X.A.guards = some []) (hb : L2.Binds X.K fd ps [])
    (I : Inv X pins σ H s) (r : Vals vs us)
    (h : ∀ x dx, H x = none → H dx = none → dx ≠ x → spD X.K sp (.ref x :: vs) (upd (upd H dx (.own x)) x (.ins C dx [])) (fun v H2 => v = .non ∧ Q (.ref x) H2)) :
    wpAny (model X.prog X.w) X.A (call (.ref C) us) (EP X pins σ Q) X.xe s := by
  have hq := h (s.heap.objs.size + 1) s.heap.objs.size (I.hok.fresh (Nat.le_succ _)) (I.hok.fresh (Nat.le_refl _)) (Nat.ne_of_lt (Nat.lt_succ_self _))
  have I2 := Inv.made (C := C) I
  have r2 : Vals (V.ref (s.heap.objs.size + 1) :: vs) (Value.ref (s.heap.objs.size + 1) :: us) := .cons rfl r
  have hl : (Value.ref (s.heap.objs.size + 1) :: us ++ []).length = ps.length := by
    obtain ⟨S, as, zs, cs, q, a1, a2, a3, a4⟩ := hq
    rw [List.append_nil, ← r2.length, a2.len, F.len _ _ _ a3]
  have b := hb _ (Value.ref (s.heap.objs.size + 1) :: us) I2.kIn hl
  rw [List.append_nil] at b
  refine wpAny_call (make_map (f := f) I.kIn M.makes M.init (beq_iff_eq.mp M.fn) (codeAny_mono (F.run _ X.stack _ _ ⟨Value.ref (s.heap.objs.size + 1) :: us, []⟩ (Value.ref (s.heap.objs.size + 1) :: us) _ _ (hr.make C us []) hg
    (I2.env0.make C us []) b r2 hq) fun r s' hq' => ?_))
  cases r with
  | error e => exact hq'.elim
  | ok fl =>
    cases fl with
    | ret u =>
      obtain ⟨v, H', I3, rv, ev, q3⟩ := I2.after hq'
      subst ev
      exact ⟨rv, ⟨V.ref (s.heap.objs.size + 1), H', I3, rfl, q3⟩⟩
    | next => exact False.elim hq'
    | brk => exact False.elim hq'
    | cont => exact False.elim hq'
def tMakeD (K : PySem.W.Frag) (C : Addr) (sp : DSpec) (t : TA) : TE := fun σ H Q => t σ H fun vs H1 => ∀ x dx, H1 x = none → H1 dx = none → dx ≠ x → spD K sp (.ref x :: vs) (upd (upd H1 dx (.own x)) x (.ins C dx [])) (fun v H2 => v = .non ∧ Q (.ref x) H2)
/-- C(..): the new instance is a cell while its __init__ runs -/
def dMake (C : Addr) (sp : DSpec) (a : DA) : DE := fun en cs k => a en cs fun zs cs1 => sp (.c cs1.length :: zs) (cs1 ++ [.ob C [] []]) fun z cs2 => z = .d .non ∧ ∃ ns ds, cs2[cs1.length]? = some (.ob C ns ds) ∧ (k (.d (.ob C ns ds)) (cs2.take cs1.length) ∨ k (.c cs1.length) cs2)
theorem q_make (F : FnD X.prog X.w X.K X.mg X.base k f fd ps sp) (M : Mk X.K C f) (hr : Room (k + 1) X.A) (hgd : X.A.guards = some []) (hm : X.mg x = some (.ref C)) (hb : L2.Binds X.K fd ps []) (ha : QA X (e :: es) ta da) (hg : Gl X x := by rfl)
    (hdb : (x == ("__debug__" : Str)) = false := by decide) (he : starEach (e :: es) X.env = (false, eval e X.env) :: starEach es X.env := by rfl) (hpl : (backTo pos (starEach es X.env)).any (·.1) = false := by rfl) :
    QE X (.Call (.Name x p) (e :: es) [] pos) (tMakeD X.K C sp ta) (dMake C sp da) := by
  refine ⟨⟨fun pins s σ H Q I h => ?_⟩, ?_⟩
  · refine wpAny_Call_Name_kw (ld_glob I hg hm ?_ hdb)
    refine PySem.W.callWith_K (h₀ := X.base) I.ok.mod.kin M.kp (thn (ha.pa.run pos pins s σ H _ I h) fun us s1 ⟨vs, H1, I1, r, q⟩ => ⟨I1.kIn, ?_⟩) he hpl
    exact run_makeD M F hr hgd hb I1 r q
  · intro σ H S as en cs k Q rp ev q pq
    refine ha.sem σ H S as en cs _ _ rp ev q fun zs vs S1 H1 as1 cs1 e1 r1 v1 q1 => ?_
    intro y dx hy hdx ne
    have rl := r1.lay hdx (.own y)
    have hy2 : (upd H1 dx (.own y)) y = none := by rw [upd_ne (Ne.symm ne)]; exact hy
    have rc := rl.cell hy2 (o := .ins C dx []) (c := .ob C [] []) ⟨rl.sub.free hy2, dx, [], upd_same, upd_same, rfl, rfl⟩
    have ex : Ext S1 as1 (upd S1 dx (.own y)) (as1 ++ [y]) := ⟨Sub.new (r1.sub.free hdx), [y], rfl⟩
    have gy : (as1 ++ [y])[cs1.length]? = some y := by
      rw [← r1.len, List.getElem?_append_right (Nat.le_refl _), Nat.sub_self]
      rfl
    refine ⟨_, _, .c cs1.length :: zs, _, _, rc, ⟨.ref y, vs, rfl, ⟨y, gy, rfl⟩, v1.mono ex⟩, q1, fun z v S' H' as' cs' e' r' vz hk => ?_⟩
    obtain ⟨rfl, ns, ds, hc, hk⟩ := hk
    refine ⟨vz, ?_⟩
    have gy' := e'.get gy
    rcases hk with hk | hk
    · have c := r'.cel _ y _ gy' hc
      obtain ⟨o, h1, h2, h3⟩ := c.obj (fun b => ⟨fun e => D.noConfusion e, fun y e => D.noConfusion e⟩)
      have rt := r'.take cs1.length
      have np : y ∉ as'.take cs1.length := fun hz => by
        obtain ⟨i, hi, ei⟩ := List.getElem_of_mem hz
        rw [List.getElem_take] at ei
        have hl : i < cs1.length := by
          have := hi
          rw [List.length_take] at this
          omega
        have := nd_ix r'.nod (i := i) (j := cs1.length) (by rw [← ei]; exact List.getElem?_eq_getElem _) gy'
        omega
      refine pq (.d (.ob C ns ds)) (.ref y) (upd S' y o) H' (as'.take cs1.length) (cs'.take cs1.length) ?_ (rt.freeze np h1 h2 (r'.notab (List.mem_of_getElem? gy'))) h3 hk
      obtain ⟨m1, em1⟩ := e1.pre
      obtain ⟨m2, em2⟩ := e'.pre
      refine ⟨((e1.sub.trans ex.sub).trans e'.sub).trans (Sub.new h2), m1, ?_⟩
      rw [em2, ← r1.len, List.append_assoc, List.take_left, em1]
    · exact pq (.c cs1.length) (.ref y) S' H' as' cs' ((e1.trans ex).trans e') r' ⟨y, gy', rfl⟩ hk
end
end DL
set_option Elab.async false
set_option linter.all false
set_option maxRecDepth 100000
set_option maxHeartbeats 2000000
set_option autoImplicit false
/-! DLS: methods called, calls without arguments -/
namespace DL
open PySem PySem.Spec PyProof.Rows L2
section
variable {X : Cx} {k : Nat} {f C : Addr} {fd : FuncData} {ps : List Str} {sp : DSpec} {x m : Str} {p pos apos : Pos} {o e : Expr} {es : List Expr} {to : TE} {od : DE} {ta : TA} {da : DA}
/-- o.m(..), o an instance of the class at C -/
def dMeth (C : Addr) (m : Str) (sp : DSpec) (o : DE) (a : DA) : DE := fun en cs k => o en cs fun z cs1 => withD cs1 z fun d => match d with
  | .ob C' ns ds => C' = C ∧ (ns.zip ds).lookup m = none ∧ a en cs1 fun zs cs2 => sp (z :: zs) cs2 k
  | _ => False
end
end DL
set_option Elab.async false
set_option linter.all false
set_option maxRecDepth 100000
set_option maxHeartbeats 2000000
set_option autoImplicit false
/-! DLT: properties read -/
namespace DL
open PySem PySem.Spec PyProof.Rows L2
section
variable {X : Cx} {k : Nat} {C p g a dx : Addr} {fs : List (Str × V)} {f : Str} {fd : FuncData} {ps : List Str} {sp : DSpec} {e : Expr} {pos : Pos} {ta : TE} {od : DE}
/-- o.f, a property -/
def dProp (C : Addr) (sp : DSpec) (o : DE) : DE := fun en cs k => o en cs fun z cs1 => withD cs1 z fun d => match d with
  | .ob C' _ _ => C' = C ∧ sp [z] cs1 k
  | _ => False
end
end DL
set_option Elab.async false
set_option linter.all false
set_option maxRecDepth 100000
set_option maxHeartbeats 2000000
set_option autoImplicit false
/-! DLU: operators, == and != by own defs, instances called, isinstance with own classes -/
namespace DL
open PySem PySem.Spec PyProof.Rows L2 PySem.W
section
variable {prog : Program} {w : World} {A : Around} {E : Value → Shared → Prop} {s : Shared} {K : Frag} {x C L f : Addr} {h₀ : Heap} {m : Str → Option Value} {ox : Obj} {od : Option Obj} {b tb : Value}
end
end DL
set_option Elab.async false
set_option linter.all false
set_option maxRecDepth 100000
set_option maxHeartbeats 2000000
set_option autoImplicit false
/-! DLV: readings of operators, == and != of own classes; instances called; isinstance -/
namespace DL
open PySem PySem.Spec PyProof.Rows L2
/-- what the text says of an own class -/
structure ClsD (K : PySem.W.Frag) (C : Addr) : Prop where
  cl : Cls K C
  ca : PySem.W.findIn K (.ref C) "__class__" = some (some (.builtin "object.__class__"))
  cn : PySem.W.specialIn K (.builtin "object.__class__") "__get__" = some (some (.builtin "getset_descriptor.__get__"))
  ct : PySem.W.takesIn K (.builtin "object.__class__") = some true
  cm : PySem.W.mroIn K C (.type "object") = some true
  sf : PySem.W.selfFirst K C = true
  kc : PySem.W.typeIn K (.ref C) = some (.type "type")
  kp : PySem.W.keepIn K (.ref C) = true
theorem mro_ty {n : String} {l : List String} (h : PySem.fastBuiltinMro n = some (l.map Value.type)) (C : Addr) : (PySem.fastBuiltinMro n).map (·.contains (.ref C)) = some false := by
  rw [h, Option.map_some]
  congr 1
  rw [← Bool.not_eq_true, List.contains_iff_mem]
  intro q
  obtain ⟨_, _, e⟩ := List.mem_map.mp q
  cases e
def tyNames : List String := ["NoneType", "bool", "int", "str", "tuple", "list", "dict"]
theorem sub_ty {K : PySem.W.Frag} {n : String} (h : n ∈ tyNames) (C : Addr) : PySem.W.subIn K (.type n) (.ref C) = some false := by
  show (PySem.fastBuiltinMro n).map (·.contains (.ref C)) = some false
  simp only [tyNames, List.mem_cons, List.not_mem_nil, or_false] at h
  rcases h with rfl | rfl | rfl | rfl | rfl | rfl | rfl
  · exact mro_ty (l := ["NoneType", "object"]) (by kernel_rfl) C
  · exact mro_ty (l := ["bool", "int", "object"]) (by kernel_rfl) C
  · exact mro_ty (l := ["int", "object"]) (by kernel_rfl) C
  · exact mro_ty (l := ["str", "object"]) (by kernel_rfl) C
  · exact mro_ty (l := ["tuple", "object"]) (by kernel_rfl) C
  · exact mro_ty (l := ["list", "object"]) (by kernel_rfl) C
  · exact mro_ty (l := ["dict", "object"]) (by kernel_rfl) C
/-- plain data of a built-in type -/
def isBt : D → Bool
  | .ty _ => false
  | .obj _ => false
  | .ob _ _ _ => false
  | .cel _ _ => false
  | _ => true
theorem bt_names {d : D} (h : isBt d = true) : tyD d ∈ tyNames := by
  cases d <;> first | (exact absurd h Bool.false_ne_true) | simp [tyD, tyNames]
theorem sh_bt {K : PySem.W.Frag} {S H : Hp} {d : D} {v : V} (e : Sub S H) (h : Sh K S H d v) (hb : isBt d = true) : TyX K H v (.type (tyD d)) := by
  cases d with
  | non => rw [sh_non h]; exact .base .non
  | bl b => rw [sh_bl h]; exact .base (.bl b)
  | int i => rw [sh_int h]; exact .base (.int i)
  | str x => rw [sh_str h]; exact .base (.str x)
  | tup ds =>
    obtain ⟨a, vs, rfl, hs, _⟩ := h
    rcases e.t hs with (h1 | ⟨o, h1⟩) | ⟨o, its, n, h1, h2, _⟩
    · exact .base (.tup h1)
    · exact .fTuple h1
    · exact .kTuple h1 h2
  | lst ds =>
    obtain ⟨a, vs, rfl, hs, _⟩ := h
    exact .base (.lst hs)
  | scr ns =>
    obtain ⟨a, rfl, hs⟩ := h
    rcases e.l hs with (h1 | ⟨o, h1⟩) | ⟨o, its, n, h1, h2, _⟩
    · exact .base (.lst h1)
    · exact .base (.frz h1)
    · exact .kList h1 h2
  | dic ds =>
    obtain ⟨a, vs, rfl, hs, _⟩ := h
    exact .base (.dK hs)
  | ty m => cases hb
  | obj a => cases hb
  | ob a b c => cases hb
  | cel a b => cases hb
theorem sh_ob {K : PySem.W.Frag} {S H : Hp} {C : Addr} {ns : List Str} {ds : List D} {v : V} (c : ClsD K C) (h : Sh K S H (.ob C ns ds) v) : TyX K H v (.ref C) := by
  obtain ⟨a, dx, vs, rfl, hH, _⟩ := h
  exact .base (.ins hH c.cl c.ca c.cn c.ct c.cm)
/-! isinstance(x, C): Cs the other own classes that may come -/
def isiO (C : Addr) (Cs : List Addr) (d : D) (k : Bool → Prop) : Prop := match d with
  | .ob C' _ _ => (C' = C ∧ k true) ∨ (C' ∈ Cs ∧ k false)
  | d => isBt d = true ∧ k false
structure Oth (K : PySem.W.Frag) (C C' : Addr) : Prop where
  c : ClsD K C'
  ne : PySem.W.subIn K (.ref C') (.ref C) = some false
  df : C' ≠ C
theorem kit_own {K : PySem.W.Frag} {C : Addr} (c : ClsD K C) {t : Value} (h : t ≠ .ref C) (hs : PySem.W.subIn K t (.ref C) = some false) : PySem.W.kitOne K t (.ref C) = some false := by
  unfold PySem.W.kitOne
  rw [if_neg (by simpa using h)]
  unfold PySem.W.kitCls
  have hc : (PySem.W.clsIn K C).isSome = true := by
    obtain ⟨cd, hc, _⟩ := PySem.W.any_some c.cl.hd
    rw [hc]
    rfl
  simp only [hc, c.kc, hs, beq_self_eq_true, Bool.and_self, if_true]
theorem isi_at {X : Cx} {C : Addr} {Cs : List Addr} (c : ClsD X.K C) (o : ∀ C' ∈ Cs, Oth X.K C C') {S H : Hp} {d : D} {v : V} {k : Bool → Prop} (e : Sub S H) (h : Sh X.K S H d v) (q : isiO C Cs d k) : ∃ t b, TyX X.K H v t ∧ PySem.W.kitOne X.K t (.ref C) = some b ∧ k b := by
  unfold isiO at q
  split at q
  · rcases q with ⟨rfl, q⟩ | ⟨m, q⟩
    · exact ⟨_, true, sh_ob c h, by unfold PySem.W.kitOne; rw [if_pos (by simp)], q⟩
    · have ot := o _ m
      exact ⟨_, false, sh_ob ot.c h, kit_own c (by
        intro z
        exact ot.df (Value.ref.inj z)) ot.ne, q⟩
  · exact ⟨_, false, sh_bt e h q.1, kit_own c (fun z => nomatch z) (sub_ty (bt_names q.1) C), q.2⟩
section
variable {X : Cx} {pos : Pos} {k : Nat} {f C : Addr} {fd : FuncData} {ps : List Str} {sp : DSpec} {a b e : Expr} {es : List Expr} {ta tb te : TE} {da db de : DE} {tl : TA} {dl : DA} {x y : Str} {p p2 : Pos}
def tIsiO (K : PySem.W.Frag) (C : Addr) (ta : TE) : TE := tCB (rIsi K) (tCons ta (tCons (tC (.ref C)) tNil))
def dIsiO (C : Addr) (Cs : List Addr) (a : DE) : DE := fun en cs k => a en cs fun z cs1 => withD cs1 z fun d => isiO C Cs d fun q => k (.d (.bl q)) cs1
theorem q_isiO {Cs : List Addr} (c : ClsD X.K C) (o : ∀ C' ∈ Cs, Oth X.K C C') (hm : X.mg "isinstance" = none) (hC : X.mg y = some (.ref C)) (ha : QE X a ta da) (hg : Gl X "isinstance" := by rfl) (hg2 : Gl X y := by rfl) (hdb2 : (y == ("__debug__" : Str)) = false := by decide)
    (he : starEach [a, .Name y p2] X.env = (false, eval a X.env) :: starEach [.Name y p2] X.env := by rfl) (he2 : starEach [.Name y p2] X.env = (false, eval (.Name y p2) X.env) :: starEach [] X.env := by rfl)
    (hpl : (backTo pos (starEach [.Name y p2] X.env)).any (·.1) = false := by rfl) :
    QE X (.Call (.Name "isinstance" p) [a, .Name y p2] [] pos) (tIsiO X.K C ta) (dIsiO C Cs da) := by
  have hn : PE X (.Name y p2) (tC (.ref C)) := ⟨fun pins s σ H Q I h => ld_glob I hg2 hC ⟨.ref C, H, I, rfl, h⟩ hdb2⟩
  refine ⟨pe_callB (p := p) (pos := pos) call_isi hg hm PyProof.Rows.boot_isinstance (pa_cons ha.pe (pa_cons hn pa_nil he2) he) (by decide) (by decide) he hpl, ?_⟩
  · intro σ H S as en cs k Q r ev q pq
    refine ha.sem.use r ev q fun z v S1 H1 as1 cs1 e1 r1 v1 q1 => ?_
    obtain ⟨d, l1, q2⟩ := withD_look q1
    obtain ⟨t, b, h1, h2, h3⟩ := isi_at c o r1.sub (look_sh r1 v1 l1) q2
    exact ⟨v, .ref C, t, .ref C, b, rfl, .own C, h1, h2, pq (.d (.bl b)) (.bl b) S1 H1 as1 cs1 e1 r1 rfl h3⟩
end
end DL
set_option Elab.async false
set_option linter.all false
set_option maxRecDepth 100000
set_option maxHeartbeats 2000000
set_option autoImplicit false
/-! DLW: operators, == and != by own defs; instances called; what callers know of methods -/
namespace DL
open PySem PySem.Spec PyProof.Rows L2
/-- what callers know of a method -/
def GotM (P : Program) (w : World) (K : PySem.W.Frag) (mg : Str → Option Value) (base : Heap) (C : Addr) (m : Str) (k : Nat) (ps : List Str) (sp : DSpec) : Prop :=
  ∃ (f : Addr) (fd : FuncData), Meth K C m f ∧ PySem.W.fnIn K f = true ∧ L2.Binds K fd ps [] ∧ FnD P w K mg base k f fd ps sp
/-- .. of a property -/
def GotP (P : Program) (w : World) (K : PySem.W.Frag) (mg : Str → Option Value) (base : Heap) (C : Addr) (m : Str) (k : Nat) (ps : List Str) (sp : DSpec) : Prop :=
  ∃ (p f : Addr) (fd : FuncData), PropOf K C m p f ∧ L2.Binds K fd ps [] ∧ FnD P w K mg base k f fd ps sp
/-- .. of a class and its __init__ -/
def GotI (P : Program) (w : World) (K : PySem.W.Frag) (mg : Str → Option Value) (base : Heap) (C : Addr) (x : Str) (k : Nat) (ps : List Str) (sp : DSpec) : Prop :=
  ∃ (f : Addr) (fd : FuncData), mg x = some (.ref C) ∧ Mk K C f ∧ L2.Binds K fd ps [] ∧ FnD P w K mg base k f fd ps sp
section
variable {X : Cx} {pos : Pos} {k : Nat} {f C : Addr} {fd : FuncData} {ps : List Str} {sp : DSpec} {a b e fe : Expr} {es : List Expr} {ta tb te tf : TE} {da db de df : DE} {tl : TA} {dl : DA} {x y m : Str} {p p2 : Pos}
/-! ### a op b -/
def isC (C : Addr) (d : D) : Prop := match d with
  | .ob C' _ _ => C' = C
  | _ => False
def dOwn (C : Addr) (sp : DSpec) (a b : DE) : DE := fun en cs k => a en cs fun x cs1 => b en cs1 fun y cs2 => withD cs2 x fun dx => withD cs2 y fun dy => isC C dx ∧ isC C dy ∧ sp [x, y] cs2 k
/-! ### == and != -/
/-- what stands on the right -/
def rgt (C : Addr) (d : D) : Prop := match d with
  | .ob C' _ _ => C' = C
  | d => isBt d = true
def dOwnE (C : Addr) (neg : Bool) (sp : DSpec) (a b : DE) : DE := fun en cs k => a en cs fun x cs1 => b en cs1 fun y cs2 => withD cs2 x fun dx => withD cs2 y fun dy => isC C dx ∧ rgt C dy ∧ sp [x, y] cs2 fun z cs3 => ∃ q, z = .d (.bl q) ∧ k (.d (.bl (if neg = true then !q else q))) cs3
/-! ### o(..) -/
def dCallI (C : Addr) (sp : DSpec) (o : DE) (a : DA) : DE := fun en cs k => o en cs fun z cs1 => withD cs1 z fun d => isC C d ∧ a en cs1 fun zs cs2 => withD cs2 z fun d => isC C d ∧ sp (z :: zs) cs2 k
end
end DL
set_option Elab.async false
set_option linter.all false
set_option maxRecDepth 100000
set_option maxHeartbeats 2000000
set_option autoImplicit false
/-! DLX: methods, properties and __init__ by their bodies; their calls by name -/
namespace DL
open PySem PySem.Spec PyProof.Rows L2
def clsBody (s : Stmt) : List Stmt := match s with
  | .ClassDef _ _ _ b _ _ _ _ _ _ _ => b
  | _ => []
def methS (s : Stmt) (j : Nat) : Stmt := (clsBody s).getD j (.Pass ⟨0, 0, 0, 0⟩)
def MethT (K : PySem.W.Frag) (C : Addr) (m qual : Str) (st : Stmt) (ps : List Str) : Prop :=
  ∃ (f : Addr) (fd : FuncData), Fun K m qual st f fd ∧ Meth K C m f ∧ PySem.W.fnIn K f = true ∧ L2.Binds K fd ps []
def PropT (K : PySem.W.Frag) (C : Addr) (m qual : Str) (st : Stmt) (ps : List Str) : Prop :=
  ∃ (p f : Addr) (fd : FuncData), Fun K m qual st f fd ∧ PropOf K C m p f ∧ L2.Binds K fd ps []
def InitT (K : PySem.W.Frag) (mg : Str → Option Value) (C : Addr) (x qual : Str) (st : Stmt) (ps : List Str) : Prop :=
  ∃ (f : Addr) (fd : FuncData), Fun K "__init__" qual st f fd ∧ mg x = some (.ref C) ∧ Mk K C f ∧ L2.Binds K fd ps []
section
variable {P : Program} {w : World} {K : PySem.W.Frag} {mg : Str → Option Value} {base : Heap} {C : Addr} {m qual x : Str} {k : Nat} {ps : List Str} {sp : DSpec} {st : Stmt} {N : List Str}
theorem GotM.mk (T : MethT K C m qual st ps) (S : FnScope N ps (defScope st)) (len : ∀ zs cs q, sp zs cs q → zs.length = ps.length) (t : DS)
    (der : ∀ (f : Addr) (cdv : Value) (A : Around) (outer : List Env) (s : Shared) (H : Hp), Room k (A.deeper (envOfC qual (defScope st) s.heap.objs.size f cdv)) → (A.deeper (envOfC qual (defScope st) s.heap.objs.size f cdv)).guards = some [] →
      ∃ ts : TS, QSs (cxOf CX0 P w K mg base N qual (defScope st) f cdv A outer s H E0).nox (defBody st) ts t)
    (rd : ∀ zs cs q, sp zs cs q → t (endD cs.length q) (startD N zs) cs) : GotM P w K mg base C m (k + 1) ps sp := by
  obtain ⟨f, fd, F, M, fi, b⟩ := T
  exact ⟨f, fd, M, fi, b, fn_D F S len t (der f) rd⟩
theorem GotP.mk (T : PropT K C m qual st ps) (S : FnScope N ps (defScope st)) (len : ∀ zs cs q, sp zs cs q → zs.length = ps.length) (t : DS)
    (der : ∀ (f : Addr) (cdv : Value) (A : Around) (outer : List Env) (s : Shared) (H : Hp), Room k (A.deeper (envOfC qual (defScope st) s.heap.objs.size f cdv)) → (A.deeper (envOfC qual (defScope st) s.heap.objs.size f cdv)).guards = some [] →
      ∃ ts : TS, QSs (cxOf CX0 P w K mg base N qual (defScope st) f cdv A outer s H E0).nox (defBody st) ts t)
    (rd : ∀ zs cs q, sp zs cs q → t (endD cs.length q) (startD N zs) cs) : GotP P w K mg base C m (k + 1) ps sp := by
  obtain ⟨p, f, fd, F, M, b⟩ := T
  exact ⟨p, f, fd, M, b, fn_D F S len t (der f) rd⟩
theorem GotI.mk (T : InitT K mg C x qual st ps) (S : FnScope N ps (defScope st)) (len : ∀ zs cs q, sp zs cs q → zs.length = ps.length) (t : DS)
    (der : ∀ (f : Addr) (cdv : Value) (A : Around) (outer : List Env) (s : Shared) (H : Hp), Room k (A.deeper (envOfC qual (defScope st) s.heap.objs.size f cdv)) → (A.deeper (envOfC qual (defScope st) s.heap.objs.size f cdv)).guards = some [] →
      ∃ ts : TS, QSs (cxOf CX0 P w K mg base N qual (defScope st) f cdv A outer s H E0).nox (defBody st) ts t)
    (rd : ∀ zs cs q, sp zs cs q → t (endD cs.length q) (startD N zs) cs) : GotI P w K mg base C x (k + 1) ps sp := by
  obtain ⟨f, fd, F, mgC, M, b⟩ := T
  exact ⟨f, fd, mgC, M, b, fn_D F S len t (der f) rd⟩
section
variable {h : Heap} {f p : Addr} {oc : Value} {od an : Option Addr} {osl : Array (Option Value)} {kV doc pm cdv ct : Value}
end
end
section
variable {X : Cx} {pos p apos : Pos} {x m : Str} {k : Nat} {C : Addr} {ps : List Str} {sp : DSpec} {o e : Expr} {es : List Expr} {to : TE} {od : DE} {ta : TA} {da : DA}
theorem qm_make (G : GotI X.prog X.w X.K X.mg X.base C x k ps sp) (hr : Room (k + 1) X.A) (hgd : X.A.guards = some []) (ha : QA X (e :: es) ta da) (hg : Gl X x := by rfl)
    (hdb : (x == ("__debug__" : Str)) = false := by decide) (he : starEach (e :: es) X.env = (false, eval e X.env) :: starEach es X.env := by rfl) (hpl : (backTo pos (starEach es X.env)).any (·.1) = false := by rfl) :
    QE X (.Call (.Name x p) (e :: es) [] pos) (tMakeD X.K C sp ta) (dMake C sp da) := by
  obtain ⟨f, fd, a, M, b, F⟩ := G
  exact q_make F M hr hgd a b ha hg hdb he hpl
theorem qm_fld {f : Str} (c : ClsD X.K C) (na : NoAttr X.K C f) (ho : QE X o to od) (hb : attributeBase o f X.env (eval o X.env) = eval o X.env := by rfl) : QE X (.Attribute o f pos) (tFld X.K to f) (dFld C f od) := q_fld c.cl na ho hb
end
/-! ### readings, row by row -/
section
variable {k : Z → Cs → Prop} {cs : Cs} {C : Addr} {sp : DSpec}
theorem e_isC (C' : Addr) (ns : List Str) (ds : List D) : isC C (.ob C' ns ds) = (C' = C) := nd rfl
theorem e_rgO (C' : Addr) (ns : List Str) (ds : List D) : rgt C (.ob C' ns ds) = (C' = C) := nd rfl
theorem e_rgn : rgt C .non = True := by simp [rgt, isBt]
theorem e_rgi (i : Int) : rgt C (.int i) = True := by simp [rgt, isBt]
theorem e_rgs (i : Str) : rgt C (.str i) = True := by simp [rgt, isBt]
theorem e_rgb (i : Bool) : rgt C (.bl i) = True := by simp [rgt, isBt]
theorem e_rgt (i : List D) : rgt C (.tup i) = True := by simp [rgt, isBt]
theorem e_rgl (i : List D) : rgt C (.lst i) = True := by simp [rgt, isBt]
theorem e_isO (Cs : List Addr) (ns : List Str) (ds : List D) (kk : Bool → Prop) : isiO C Cs (.ob C ns ds) kk = (kk true ∨ (C ∈ Cs ∧ kk false)) := by simp [isiO]
end
end DL
namespace DL
open PySem PySem.Spec PyProof.Rows L2
section
variable {X : Cx} {pos : Pos} {k : Nat} {C : Addr} {ps : List Str} {sp : DSpec} {a b : Expr} {ta tb : TE} {da db : DE}
end
end DL
set_option Elab.async false
set_option linter.all false
set_option maxRecDepth 100000
set_option maxHeartbeats 4000000
set_option autoImplicit false
/-! DLY: sorted(set(ints)), sorted(ints), of any length -/
namespace DL
open PySem PySem.Spec PyProof.Rows L2
section
variable {P : Program} {w : World} {A : Around} {E : Value → Shared → Prop} {s : Shared}
end
/-! ### the rules -/
section
variable {X : Cx}
def rSetL (K : PySem.W.Frag) (w : World) : List V → Hp → VK → Prop := fun xs H Q => ∃ (l : Addr) (ns : List Int), xs = [.ref l] ∧ SqL K H l (ns.map V.int) ∧ ns.length ≤ 4000 ∧
  ∀ p n, H p = none → n ≤ ns.length → Q (.ref p) (upd H p (SetO w p (fun j => decide (j ∈ ns)) n))
def dSortSet (a : DE) : DE := fun en cs k => a en cs fun z cs1 => withD cs1 z fun d => ∃ ns : List Int, d = .lst (ns.map D.int) ∧ ns.length ≤ 4000 ∧ ∀ out : List Int, out.Pairwise (· < ·) → (∀ j, j ∈ out ↔ j ∈ ns) → k (.d (.lst (out.map D.int))) cs1
section
variable {a : Expr} {ta : TE} {da : DE} {p p2 q pos : Pos}
end
end
/-! sorted(ints) -/
def sortedID : List D → (D → Prop) → Prop
  | [.lst ds], k => ∃ ns : List Int, ds = ns.map D.int ∧ ∀ out : List Int, out.Perm ns → out.Pairwise (· ≤ ·) → k (.lst (out.map D.int))
  | _, _ => False
theorem e_srtI (ds : List D) (k : D → Prop) : sortedID [.lst ds] k = ∃ ns : List Int, ds = ns.map D.int ∧ ∀ out : List Int, out.Perm ns → out.Pairwise (· ≤ ·) → k (.lst (out.map D.int)) := nd rfl
end DL
set_option Elab.async false
set_option linter.all false
set_option maxRecDepth 100000
set_option maxHeartbeats 2000000
set_option autoImplicit false
/-! DLZ: a cell that changes no more becomes data -/
namespace DL
open PySem L2
theorem Rep.frz {K : PySem.W.Frag} {S H : Hp} {as : List Addr} {cs : Cs} (r : Rep K S H as cs) {n : Nat} {a : Addr} {o : HO} (ha : as[n]? = some a) (h1 : H a = some o) (h2 : S a = none) : Rep K (upd S a o) H as (cs.set n (.obj a)) := by
  refine ⟨fun b u e => ?_, by rw [List.length_set]; exact r.len, r.nod, fun m b d e1 e2 => ?_, r.liv, fun q hq => ⟨by rw [upd_ne (r.notab (List.mem_of_getElem? ha) q hq)]; exact (r.tab q hq).1, (r.tab q hq).2⟩⟩
  · by_cases hb : b = a
    · subst hb
      rw [upd_same] at e
      rw [h1]
      exact e
    · rw [upd_ne hb] at e
      exact r.sub b u e
  · by_cases hm : n = m
    · subst hm
      rw [ha] at e1
      cases e1
      have hl : n < cs.length := by rw [← r.len]; exact (List.getElem?_eq_some_iff.mp ha).1
      rw [List.getElem?_set_self hl] at e2
      cases e2
      rfl
    · rw [List.getElem?_set_ne hm] at e2
      have ne : b ≠ a := fun z => by
        subst z
        exact hm (nd_ix r.nod ha e1)
      exact CelAt.mono (Sub.new h2) (fun q => by rw [upd_ne ne]; exact q) rfl (r.cel m b d e1 e2)
def frzOk : D → Bool
  | .lst _ => true
  | .dic _ => true
  | _ => false
def dFrz (i : Nat) (t : DS) : DS := fun E en cs => match en[i]? with
  | some (some (.c n)) => withD cs (.c n) fun d => frzOk d = true ∧ ∀ b, t E (en.set i (some (.d d))) (cs.set n (.obj b))
  | some (some (.d _)) => t E en cs
  | _ => False
theorem qss_frz {X : Cx} {sts : List Stmt} {ts : TS} {t : DS} (i : Nat) (h : QSs X sts ts t) : QSs X sts ts (dFrz i t) := by
  refine ⟨h.pss, ?_⟩
  intro σ H S as en cs D E r e q p
  unfold dFrz at q
  split at q
  · rename_i n hi
    obtain ⟨d, hd, ok, q⟩ := withD_look q
    obtain ⟨v, hv, a, ha, rfl⟩ := e.at_ i _ hi
    have hc : cs[n]? = some d := hd
    have c := r.cel n a d ha hc
    obtain ⟨o, h1, h2, h3⟩ := c.obj (fun b => ⟨fun z => (by subst z; cases ok), fun y z => (by subst z; cases ok)⟩)
    have ex : Ext S as (upd S a o) as := Ext.of (Sub.new h2)
    have e2 : EnvOk X.K (upd S a o) as (en.set i (some (.d d))) σ := by
      have e1 := (e.mono ex).set (z := .d d) (v := .ref a) h3 i
      have hs : σ.set i (some (V.ref a)) = σ := by
        refine List.ext_getElem? fun j => ?_
        by_cases hj : i = j
        · subst hj
          have hl := (List.getElem?_eq_some_iff.mp hv).1
          rw [List.getElem?_set_self hl, hv]
        · rw [List.getElem?_set_ne hj]
      rw [hs] at e1
      exact e1
    exact h.sem σ H _ as _ _ D E (r.frz ha h1 h2) e2 (q a) (p.mono ex)
  · exact h.sem σ H S as en cs D E r e q p
  · exact q.elim
theorem e_fz1 (ds : List D) : frzOk (.lst ds) = true := nd rfl
theorem e_fz2 (ds : List (Key × D)) : frzOk (.dic ds) = true := nd rfl
theorem set_snoc0 (cs : Cs) (x y : D) : (cs ++ [x]).set cs.length y = cs ++ [y] := by simp
end DL
namespace DL
open PySem
def cAof (l : List (Str × Addr)) (n : Str) : Addr := (l.lookup n).getD 0
end DL
set_option Elab.async false
set_option linter.all false
set_option maxRecDepth 100000
set_option maxHeartbeats 2000000
set_option autoImplicit false
namespace K01
open PySem L2 DL
local macro_rules | `(tactic| walk_at "dl") => `(tactic| simp only [dSeq, dNext, dOwn, dOwnE, dFld, dMake, dMeth, dProp, dIsiO, dCallI, dSortSet, dFrz, e_isC, e_rgO, e_rgn, e_rgi, e_rgs, e_rgb, e_rgt, e_rgl, e_fz1, e_fz2, le_lim, lt_lim, set_snoc0, e_srtI, dBreak, dCont, dDrop, dRet, dRetN, dIfS, dNever, dAsg, dPar, dPutK, dAppend, dExtend, dCall, dVar, dC, dOp, dChain, dUn, dB, dNot, dAnd, dOr, dAndV, dOrV, dNotV, dIf, dNil, dCons, dTup, dLst, dLstC, dCB, dInK, dGetK, dDicC, dNoPart, dPart, dSl, dBits, dRev,
  dgName, dgsNil, dgsCons, dgTup, dgSet, diSeq, diR1, e_diR2, e_r2, diEnum, startD, endD, finZ_d, finD, finC, List.take_length, dYes, wipeD, ix0, ix1, ix2, get_snoc, set_snoc, take_snoc,
  dOpC, dSlC, dListC, e_addC, e_mulC, e_loCl, e_loCt, e_loCs, e_wd, e_wc0, e_wcs, e_wsn, e_wc1, e_wc2, e_wl0, e_wl1, e_dl0, e_dl1, e_sl, e_st, e_ss, e_addi, e_adds, e_addt, e_addl, e_sub, e_muli, e_mult, e_mull, e_fdiv, e_mod, e_pow, e_neg, e_lt, e_le, e_gt, e_ge, e_eqi, e_eqs, e_eql, e_eqt, e_eqb, e_eqn, e_nei, e_nes, e_nel, e_net, e_neb, e_nen, e_isb, e_isn, e_inb, e_inn, e_in1, e_in2, e_in3, e_in4, e_in5,
  e_ixt, e_ixl, e_ixs, e_at0, e_at1, e_at2, e_at3, e_at4, e_at5, e_atl, e_keyi, e_keys, e_lenl, e_lent, e_lens, e_lend, e_maxi, e_mini, e_maxl, e_minl, e_sum, e_all, e_any, e_inti, e_intb, e_abs, e_tol, e_tot, e_tos, e_lol, e_lot, e_los, e_sll, e_slt, e_rvl, e_rvt, e_repr, e_isi, e_srtl, e_srtt,
  List.map_cons, List.map_nil, List.length_cons, List.length_nil, List.cons_append, List.nil_append, List.flatten_cons, List.flatten_nil, List.append_nil, List.replicate_succ, List.replicate_zero, List.getElem?_cons_zero, List.getElem?_cons_succ, List.set_cons_zero, List.set_cons_succ, Nat.reduceSub, Nat.reduceAdd, Int.reduceToNat, Int.reduceLE, Int.reduceLT, Int.reduceNeg, Nat.reduceLeDiff, Nat.reduceLT, Nat.zero_add, Option.some.injEq, Z.d.injEq, Z.c.injEq, D.bl.injEq, D.int.injEq, D.tup.injEq, D.lst.injEq,
  List.take_succ_cons, List.take_zero, exists_eq_left', exists_eq_left, true_and, and_true, if_true, Bool.not_true, Bool.not_false, Bool.false_eq_true, if_false, decide_true, decide_false])
/-! ### checks -/
def sp_is_int : DSpec := fun zs cs k => match zs with
  | [.d x] => pyOk x = true ∧ k (.d (.bl (isInt x))) cs
  | _ => False
theorem len_is_int : ∀ zs cs q, sp_is_int zs cs q → zs.length = (["value"] : List Str).length := fun zs cs q h => by
  unfold sp_is_int at h
  split at h
  · rfl
  · exact h.elim
def t_is_int : DS :=
  (dRet (dAndV (dCB (isiN "int") (dCons (dVar 0) (dCons (dC (.ty "int")) dNil))) (dNotV (dCB (isiN "bool") (dCons (dVar 0) (dCons (dC (.ty "bool")) dNil))))))
theorem rd_is_int : ∀ zs cs q, sp_is_int zs cs q → t_is_int (endD cs.length q) (startD ["value"] zs) cs := fun zs cs q h => by
  unfold sp_is_int at h
  split at h
  · rename_i x
    obtain ⟨hx, h⟩ := h
    unfold t_is_int
    walk_at "dl"
    rw [kit_int hx, kit_bool hx]
    simp only [Option.some.injEq, exists_eq_left']
    cases x <;> simp_all [isInt, tyD]
  · exact h.elim
def inRange (x : D) (lo hi : Int) : Bool := match x with
  | .int i => decide (lo ≤ i) && decide (i ≤ hi)
  | _ => false
def sp_in_range : DSpec := fun zs cs k => match zs with
  | [.d x, .d (.int lo), .d (.int hi)] => pyOk x = true ∧ k (.d (.bl (inRange x lo hi))) cs
  | _ => False
theorem len_in_range : ∀ zs cs q, sp_in_range zs cs q → zs.length = (["value", "low", "high"] : List Str).length := fun zs cs q h => by
  unfold sp_in_range at h
  split at h
  · rfl
  · exact h.elim
def t_in_range : DS :=
  (dRet (dAndV (dCall sp_is_int (dCons (dVar 0) dNil)) (dChain leD leD (dVar 1) (dVar 0) (dVar 2))))
theorem rd_in_range : ∀ zs cs q, sp_in_range zs cs q → t_in_range (endD cs.length q) (startD ["value", "low", "high"] zs) cs := fun zs cs q h => by
  unfold sp_in_range at h
  split at h
  · rename_i x lo hi
    obtain ⟨hx, h⟩ := h
    unfold t_in_range
    walk_at "dl"
    simp only [sp_is_int]
    refine ⟨hx, ?_⟩
    cases x <;> simp_all [isInt, inRange, e_le]
    rename_i i
    by_cases h1 : lo ≤ i
    · simp_all
    · simp_all
  · exact h.elim
def sp_require_cycle : DSpec := fun zs cs k => match zs with
  | [.d x] => (pyOk x = true ∧ inRange x 1 (10 ^ 30) = true) ∧ k (.d .non) cs
  | _ => False
theorem len_require_cycle : ∀ zs cs q, sp_require_cycle zs cs q → zs.length = (["value"] : List Str).length := fun zs cs q h => by
  unfold sp_require_cycle at h
  split at h
  · rfl
  · exact h.elim
def t_require_cycle : DS :=
  (dIfS (dNot (dB (dCall sp_in_range (dCons (dVar 0) (dCons (dC (.int 1)) (dCons (dC (.int 1000000000000000000000000000000)) dNil)))))) dNever dNext)
theorem rd_require_cycle : ∀ zs cs q, sp_require_cycle zs cs q → t_require_cycle (endD cs.length q) (startD ["value"] zs) cs := fun zs cs q h => by
  unfold sp_require_cycle at h
  split at h
  · rename_i x
    obtain ⟨⟨hx, h1⟩, h⟩ := h
    unfold t_require_cycle
    walk_at "dl"
    simp only [sp_in_range]
    refine ⟨hx, ?_⟩
    rw [show (10 ^ 30 : Int) = 1000000000000000000000000000000 from by decide] at h1
    simp_all
  · exact h.elim
/-! ### signals -/
end K01
set_option Elab.async false
set_option linter.all false
set_option maxRecDepth 100000
set_option maxHeartbeats 4000000
set_option autoImplicit false
/-! DLZB: walks over zip and over enumerate of a tuple -/
namespace DL
open PySem PySem.Spec PyProof.Rows L2
/-! ### zip -/
def zipD (ds es : List D) : List D := (ds.zip es).map fun p => D.tup [p.1, p.2]
theorem zipD_len (ds es : List D) : (zipD ds es).length = min ds.length es.length := by unfold zipD; rw [List.length_map, List.length_zip]
theorem zipD_get {ds es : List D} {i : Nat} {x : D} (h : (zipD ds es)[i]? = some x) : ∃ d e, ds[i]? = some d ∧ es[i]? = some e ∧ x = .tup [d, e] := by
  unfold zipD at h
  rw [List.getElem?_map] at h
  cases q : (ds.zip es)[i]? with
  | none => rw [q] at h; cases h
  | some p =>
    rw [q] at h
    obtain ⟨a, b⟩ := List.getElem?_zip_eq_some.mp q
    exact ⟨p.1, p.2, a, b, (Option.some.inj h).symm⟩
def diZip (a b : DE) : DI := fun en cs k => a en cs fun x cs1 => b en cs1 fun y cs2 => match x, y with
  | .d (.lst ds), .d (.lst es) => k (zipD ds es) yes cs2
  | .d (.tup ds), .d (.tup es) => k (zipD ds es) yes cs2
  | _, _ => False
theorem pair_laid {K : PySem.W.Frag} {S H : Hp} {as : List Addr} {cs : Cs} (r : Rep K S H as cs) {T : Addr} {x y : V} {d e : D} (nT : H T = none) (hx : Is K S d x) (hy : Is K S e y) :
    ∃ S', Sub S S' ∧ Rep K S' (upd H T (.tup [x, y])) as cs ∧ Is K S' (.tup [d, e]) (.ref T) := by
  have hn := Sub.new (o := .tup [x, y]) (r.sub.free nT)
  exact ⟨_, hn, r.lay nT _, T, _, rfl, SqT.of upd_same, ⟨_, _, rfl, Is.mono hn _ _ hx, ⟨_, _, rfl, Is.mono hn _ _ hy, rfl⟩⟩⟩
theorem wk_z {K : PySem.W.Frag} {S : Hp} {as : List Addr} {ds es : List D} {a b : Addr} {xs ys : List V} (ha : S a = some (.lst xs)) (hb : S b = some (.lst ys)) (ia : IsL K S ds xs) (ib : IsL K S es ys) : Wk K (Itz K a b) S as (zipD ds es) yes := by
  refine ⟨fun S' H as' cs i e r _ hi => ?_, fun S' H as' cs i d e r _ hi => ?_⟩
  · rw [zipD_len] at hi
    refine ⟨xs, ys, SqL.of (r.sub _ _ (e.sub _ _ ha)), SqL.of (r.sub _ _ (e.sub _ _ hb)), ?_⟩
    rw [ia.len, ib.len]
    omega
  · obtain ⟨d1, d2, h1, h2, rfl⟩ := zipD_get hi
    obtain ⟨v1, hv1, i1⟩ := ia.get h1
    obtain ⟨v2, hv2, i2⟩ := ib.get h2
    have q1 : SqL K H a xs := SqL.of (r.sub _ _ (e.sub _ _ ha))
    have q2 : SqL K H b ys := SqL.of (r.sub _ _ (e.sub _ _ hb))
    refine ⟨⟨xs, ys, v1, v2, q1, q2, hv1, hv2⟩, fun x H' y => ?_⟩
    obtain ⟨T, x1, x2, rfl, nT, rfl, f1, f2⟩ := y
    obtain rfl : v1 = x1 := Option.some.inj (hv1.symm.trans (f1 xs q1))
    obtain rfl : v2 = x2 := Option.some.inj (hv2.symm.trans (f2 ys q2))
    exact pair_laid r nT (Is.mono e.sub _ _ i1) (Is.mono e.sub _ _ i2)
theorem wk_zT {K : PySem.W.Frag} {S : Hp} {as : List Addr} {ds es : List D} {a b : Addr} {xs ys : List V} (ha : SqT K S a xs) (hb : SqT K S b ys) (ia : IsL K S ds xs) (ib : IsL K S es ys) : Wk K (RZ.ItzT K a b) S as (zipD ds es) yes := by
  refine ⟨fun S' H as' cs i e r _ hi => ?_, fun S' H as' cs i d e r _ hi => ?_⟩
  · rw [zipD_len] at hi
    refine ⟨xs, ys, r.sub.t (e.sub.t ha), r.sub.t (e.sub.t hb), ?_⟩
    rw [ia.len, ib.len]
    omega
  · obtain ⟨d1, d2, h1, h2, rfl⟩ := zipD_get hi
    obtain ⟨v1, hv1, i1⟩ := ia.get h1
    obtain ⟨v2, hv2, i2⟩ := ib.get h2
    have q1 : SqT K H a xs := r.sub.t (e.sub.t ha)
    have q2 : SqT K H b ys := r.sub.t (e.sub.t hb)
    refine ⟨⟨xs, ys, v1, v2, q1, q2, hv1, hv2⟩, fun x H' y => ?_⟩
    obtain ⟨T, x1, x2, rfl, nT, rfl, f1, f2⟩ := y
    obtain rfl : v1 = x1 := Option.some.inj (hv1.symm.trans (f1 xs q1))
    obtain rfl : v2 = x2 := Option.some.inj (hv2.symm.trans (f2 ys q2))
    exact pair_laid r nT (Is.mono e.sub _ _ i1) (Is.mono e.sub _ _ i2)
section
variable {X : Cx}
theorem qi_zip {a b : Expr} {elts : List Expr} {kk : Nat} {ta tb : TE} {da db : DE} {p pos tpos : Pos} (hm : X.mg "zip" = none) (ha : QE X a ta da) (hb : QE X b tb db) (hg : Gl X "zip" := by rfl)
    (hs : starEach [a, b] X.env = (false, eval a X.env) :: starEach [b] X.env := by rfl) (hs2 : starEach [b] X.env = (false, eval b X.env) :: starEach [] X.env := by rfl) (hpl : (backTo pos (starEach [b] X.env)).any (·.1) = false := by rfl) :
    QI X (.Tuple elts kk tpos) (.Call (.Name "zip" p) [a, b] [] pos) (RZ.iZipA X.K (tCons ta (tCons tb tNil))) (diZip da db) := by
  refine ⟨RZ.pi_zipA hg hm (pa_cons ha.pe (pa_cons hb.pe pa_nil hs2) hs) hs hpl, fun σ H S as en cs k R r e h p => ?_⟩
  refine ha.sem.use r e h fun z v S1 H1 as1 cs1 e1 r1 v1 q1 => ?_
  refine hb.sem.use r1 (e.mono e1) q1 fun z2 v2 S2 H2 as2 cs2 e2 r2 w2 q2 => ?_
  have w1 := v1.mono e2
  split at q2
  · obtain ⟨x, xs, rfl, hx, ix⟩ := w1
    obtain ⟨y, ys, rfl, hy, iy⟩ := w2
    exact ⟨x, y, xs, ys, rfl, .inl ⟨SqL.of (r2.sub _ _ hx), SqL.of (r2.sub _ _ hy), p _ S2 H2 as2 _ yes cs2 (e1.trans e2) r2 (wk_z hx hy ix iy) q2⟩⟩
  · obtain ⟨x, xs, rfl, hx, ix⟩ := w1
    obtain ⟨y, ys, rfl, hy, iy⟩ := w2
    exact ⟨x, y, xs, ys, rfl, .inr ⟨r2.sub.t hx, r2.sub.t hy, p _ S2 H2 as2 _ yes cs2 (e1.trans e2) r2 (wk_zT hx hy ix iy) q2⟩⟩
  · exact q2.elim
end
/-! ### enumerate of a tuple -/
theorem enumT_end {prog : Program} {w : World} {A : Around} {E : Value → Shared → Prop} {s : Shared} {e it t : Addr} {i : Nat} {items : Array Value} {old : Value} {Q : Option Value → Shared → Prop} (hh : A.handled = none) (he : IsEnum s.heap e it i old) (hit : s.heap.IsTupleIter it t i)
    (ht : s.heap.IsTuple t items) (hx : items[i]? = none) (hQ : ∀ h', Heap.ExtBut it s.heap h' → Q none { s with heap := h' }) : wpAny (model prog w) A (pyNext (.ref e)) Q E s := by
  have ty : s.TypeIs (.ref e) "enumerate" := ⟨_, he, rfl⟩
  unfold pyNext
  apply wpAny_bind
  apply wpAny_attempt
  refine wpAny_callSpecial?_slot (name := Str.ofString "__next__") ty F.slot_enumerate_next ?_
  refine wpAny_call_entry F.slot_enumerate_next ty F.entry_enumerate_next ?_ (F.args_enumerate_next_1 _)
  show wpAny _ _ (field (.ref e) 2 >>= _) _ _ _
  apply wpAny_bind
  refine wpAny_field he rfl (x := .ref it) rfl ?_
  apply wpAny_bind
  refine wpAny_nextOf_tuple_end (by simp [hh]) hit ht hx fun h' y ext hy => ?_
  obtain ⟨o, ho, hc⟩ := hy
  apply wpAny_bind
  refine wpAny_isInstance (T := "StopIteration") (b := true) ⟨o, ho, hc⟩ isSubtype_stop ?_
  exact wpAny_pure (hQ _ ext)
def IteT (K : PySem.W.Frag) (a : Addr) : It :=
  ⟨fun i H => ∃ (xs : List V) (x : V), SqT K H a xs ∧ xs[i]? = some x, fun i H v H' => ∃ T x, v = .ref T ∧ H T = none ∧ H' = upd H T (.tup [.int (i : Nat), x]) ∧ ∀ xs, SqT K H a xs → xs[i]? = some x, fun i H => ∃ xs : List V, SqT K H a xs ∧ xs.length ≤ i⟩
theorem tup_inj {X : Cx} {pins : List (Addr × Obj)} {σ : L2.St} {H : Hp} {s : Shared} (I : Inv X pins σ H s) {a : Addr} {xs ys : List V} (h1 : SqT X.K H a xs) (h2 : SqT X.K H a ys) : xs = ys := I.tuple_inj h1 h2
theorem turn_enumT {P : Program} {w : World} {K : PySem.W.Frag} {elts : List Expr} {kk : Nat} {tpos : Pos} (a e it : Addr) (hai : a ≠ it) :
    Turn P w K (.Tuple elts kk tpos) (IteT K a) [e, it] e (fun i h => (∃ old, IsEnum h e it ((i : Nat) : Int) old) ∧ h.IsTupleIter it a i ∧ e ≠ it ∧ e ≠ a) where
  mem := List.mem_cons_self
  obj := fun i h st b hb => by
    obtain ⟨⟨old, he⟩, ⟨o, ho, hc, hd⟩, _⟩ := st
    rcases List.mem_cons.mp hb with rfl | hb
    · exact ⟨_, he, fun v q => nomatch q⟩
    · obtain rfl := List.mem_singleton.mp hb
      exact ⟨o, ho, fun v q => by rw [hd] at q; cases q⟩
  keep := fun i h h' st k => by
    obtain ⟨⟨old, he⟩, hi, h1, h2⟩ := st
    exact ⟨⟨old, k e (by simp) _ he⟩, hi.at fun o q => k it (by simp) o q, h1, h2⟩
  item := by
    intro X hP hw hK hc i pins s σ H E I hf st hg
    subst hP hw hK
    obtain ⟨⟨old, he⟩, hit, hne, hea⟩ := st
    obtain ⟨xs, x, hq, hx⟩ := hg
    obtain ⟨its, rv, p, hz⟩ := I.tuple hq
    obtain ⟨u, hu, ru⟩ := rv.get hx
    have hel : e < s.heap.objs.size := Heap.lt_size he
    have hil : it < s.heap.objs.size := by
      obtain ⟨_, q, _⟩ := hit
      exact Heap.lt_size q
    have hi : i < its.length := (List.getElem?_eq_some_iff.mp hu).1
    have D := Draws.tuple (prog := X.prog) (w := X.w) (A := X.A.in1) (by simp [I.ok.hd hc]) it a hai its.toArray
    refine wpAny_pyNext_enum_itemD D he ⟨hit, p⟩ (by simpa using hi) hne (by simp [hne, hea]) fun x' h' tk hp ho st' hT hsz hk => ?_
    obtain rfl : x' = u := by
      have : its[i]? = some x' := by simpa using hp
      exact Option.some.inj (this.symm.trans hu)
    refine ⟨_, rfl, wpAny_letOwnedTupleGo_enum (s := { s with heap := h', toks := tk + 1 }) ho fun h'' he' sb => ?_⟩
    have hT2 : h''.get? s.heap.objs.size = some { cls := .type "tuple", data := .seq #[.int i tk, x'] } := (sb.2 _ (Nat.ne_of_gt hel)).trans hT
    have new : ObjOk X.prog X.w (upd H s.heap.objs.size (.tup [.int (i : Nat), x])) h'' s.heap.objs.size (.tup [.int (i : Nat), x]) :=
      ⟨by show 2 ≤ sizeLine; decide, [.int i tk, x'], .cons ⟨_, rfl⟩ (.cons ru .nil), ⟨_, hT2, rfl, _, rfl⟩⟩
    have I1 : Inv X pins σ (upd H s.heap.objs.size (.tup [.int (i : Nat), x])) { s with heap := h'', toks := tk + 1 } :=
      I.turnedNew (ch := [e, it]) (fun b ob hb q => by
        have b1 : b ≠ e := fun z => hb (by simp [z])
        have b2 : b ≠ it := fun z => hb (by simp [z])
        exact (sb.2 b b1).trans (hk b ob b1 b2 q)) hf (Nat.le_refl _) new
    refine ⟨.ref s.heap.objs.size, _, I1, rfl, ⟨_, x, rfl, I.hok.fresh (Nat.le_refl _), rfl, fun ys hy => by rw [tup_inj I hy hq]; exact hx⟩, ⟨⟨x', ?_⟩, st'.1.at fun o q => (sb.2 it (Ne.symm hne)).trans q, hne, hea⟩, fun b hb => ?_⟩
    · rw [show ((i + 1 : Nat) : Int) = (i : Int) + 1 by omega]
      exact he'
    · have lt : b < s.heap.objs.size := by
        rcases List.mem_cons.mp hb with rfl | hb'
        · exact hel
        · obtain rfl := List.mem_singleton.mp hb'
          exact hil
      rw [upd_ne (Nat.ne_of_lt lt)]
      exact (hf b hb).1
  done := by
    intro X hP hw hK hc i pins s σ H E I hf st hg
    subst hP hw hK
    obtain ⟨⟨old, he⟩, hit, hne, hea⟩ := st
    obtain ⟨xs, hq, hx⟩ := hg
    obtain ⟨its, rv, p, hz⟩ := I.tuple hq
    obtain ⟨f0, f1, f2, f3, f4, f5⟩ := hf it (by simp)
    have hl := rv.length
    refine enumT_end (I.ok.hd hc) he hit (show s.heap.IsTuple a its.toArray from p) (by simp; omega) fun h' eb => ?_
    exact ⟨rfl, I.turned (t' := s.toks) (fun b o hb q => eb b o hb q) f0 f1 f3 f4 f5⟩
  self := fun A i s Q E st h => let ⟨⟨_, he⟩, _⟩ := st; wpAny_pyIter_enum he h
section
variable {prog : Program} {w : World} {A : Around} {E : Value → Shared → Prop} {s : Shared}
/-- enumerate(t), t a tuple -/
theorem enumT_new (l : Addr) (items : Array Value) (n : Nat) (dct : Option Addr) (sl : Array (Option Value)) :
    Meets (Builtin.«enumerate.__new__» ⟨[.type "enumerate", .ref l], []⟩) (fun _ R s => s.heap.get? l = some ⟨.type "tuple", dct, .seq items n, sl⟩ ∧
      R (.ok (.ret (.ref (s.heap.push { cls := .type "tuple_iterator", data := .fields #[.ref l, .int 0 0] }).objs.size)))
        { s with heap := (s.heap.push { cls := .type "tuple_iterator", data := .fields #[.ref l, .int 0 0] }).push { cls := .type "enumerate", data := .fields #[.none, .bool false, .ref s.heap.objs.size, rawInt 0, .none, .none] } }) := by
  refine .of_wp fun prog w A R s h => ?_
  obtain ⟨hp, g, d, tk, os⟩ := s
  obtain ⟨hl, h⟩ := h
  have sb := sub_enumerate
  have tp : Heap.IsTuple (Shared.heap ⟨hp, g, d, tk, os⟩) l items := ⟨_, hl, rfl, n, rfl⟩
  wp_walk using wpAny_loadPart' hl
  refine wpAny_stack_any fun st => wpAny_pure ?_
  split
  · rename_i c _ _ _ _ _
    cases (c == Value.type "enumerate") <;>
    · wp_walk using wpAny_loadPart' hl, wpAny_pyIter_tuple tp
      exact ⟨_, rfl, h⟩
  · wp_walk using wpAny_loadPart' hl, wpAny_pyIter_tuple tp
    exact ⟨_, rfl, h⟩
theorem call_enumT {l : Addr} {items : Array Value} {Q : Value → Shared → Prop} (hL : s.heap.IsTuple l items)
    (h : ∀ h', IsEnum h' (s.heap.objs.size + 1) s.heap.objs.size 0 .none → h'.IsTupleIter s.heap.objs.size l 0 → (∀ b o, s.heap.get? b = some o → h'.get? b = some o) → Q (.ref (s.heap.objs.size + 1)) { s with heap := h' }) :
    wpAny (model prog w) A (call (.type "enumerate") [.ref l]) Q E s := by
  obtain ⟨⟨c, dct, dt, sl⟩, hl, hc, n, hd⟩ := hL
  simp only at hc hd
  subst hc hd
  have hz : (s.heap.push { cls := .type "tuple_iterator", data := .fields #[.ref l, .int 0 0] }).objs.size = s.heap.objs.size + 1 := Heap.size_push ..
  refine callType_new F.called_enumerate (by decide) (F.typeCall_enumerate_1 _) (F.newCall_enumerate_1 _) (fun obj => F.args_object_init_2 obj _) F.entry_enumerate_new (enumT_new l items n dct sl) ⟨hl, ?_⟩
  show _ ∧ _
  rw [hz]
  have made := Heap.get?_push_size (s.heap.push { cls := .type "tuple_iterator", data := .fields #[.ref l, .int 0 0] }) (o := { cls := .type "enumerate", data := .fields #[.none, .bool false, .ref s.heap.objs.size, rawInt 0, .none, .none] }) rfl
  rw [hz] at made
  exact ⟨⟨_, made, rfl⟩, h _ made ⟨_, Heap.get?_push_of_some _ (Heap.get?_push_size _ rfl), rfl, rfl⟩ fun b o x => Heap.get?_push_of_some _ (Heap.get?_push_of_some _ x)⟩
end
def iEnumU (K : PySem.W.Frag) (ta : TA) : TI := fun σ H R => ta σ H fun vs H1 => ∃ a, vs = [.ref a] ∧ ((∃ xs, SqL K H1 a xs ∧ R (Ite K a) H1) ∨ ∃ xs, SqT K H1 a xs ∧ R (IteT K a) H1)
theorem pi_enumU {X : Cx} {e : Expr} {ta : TA} {p pos tpos : Pos} {elts : List Expr} {kk : Nat} (hg : Gl X "enumerate") (hm : X.mg "enumerate" = none) (ha : PA X [e] ta) (hs : starEach [e] X.env = [(false, eval e X.env)] := by rfl) :
    PI X (.Tuple elts kk tpos) (.Call (.Name "enumerate" p) [e] [] pos) (iEnumU X.K ta) := by
  refine ⟨fun pins s σ H R I h => ?_⟩
  refine Call_ (ld_blt I hg hm boot_enumerate (PyProof.Rows.callWith_type1 (thn (ha.run pos pins s σ H _ I h) fun us s1 ⟨vs, H1, I1, r1, a, ex, hq⟩ => ?_) hs rfl))
  subst ex
  rw [Vals.ref1 r1]
  have fp : ∀ b, b ∈ [s1.heap.objs.size + 1, s1.heap.objs.size] → FpOk X pins H1 b := fun b hb => by
    have le : s1.heap.objs.size ≤ b := by
      rcases List.mem_cons.mp hb with rfl | hb'
      · exact Nat.le_succ _
      · rw [List.mem_singleton.mp hb']
        exact Nat.le_refl _
    exact I1.fpOk le (I1.hok.fresh le)
  rcases hq with ⟨xs, hq, q⟩ | ⟨xs, hq, q⟩
  · obtain ⟨its, rv, tp, hz⟩ := I1.list hq
    refine call_enumerate_list tp.isList fun h' he hit hsz hk => wpAny_pyIter_enum he ?_
    have I2 : Inv X pins σ H1 { s1 with heap := h' } := I1.kept (t' := s1.toks) hk
    exact ⟨s1.heap.objs.size + 1, [s1.heap.objs.size + 1, s1.heap.objs.size], _, _, H1, rfl, I2, turn_enum a (s1.heap.objs.size + 1) s1.heap.objs.size, ⟨⟨.none, he⟩, hit, Nat.succ_ne_self _⟩, fp, q⟩
  · obtain ⟨its, rv, tp, hz⟩ := I1.tuple hq
    have lt : a < s1.heap.objs.size := by
      obtain ⟨o, ho, _⟩ := tp
      exact Heap.lt_size ho
    refine call_enumT (show s1.heap.IsTuple a its.toArray from tp) fun h' he hit hk => wpAny_pyIter_enum he ?_
    have I2 : Inv X pins σ H1 { s1 with heap := h' } := I1.kept (t' := s1.toks) hk
    exact ⟨s1.heap.objs.size + 1, [s1.heap.objs.size + 1, s1.heap.objs.size], _, _, H1, rfl, I2, turn_enumT a (s1.heap.objs.size + 1) s1.heap.objs.size (Nat.ne_of_lt lt), ⟨⟨.none, he⟩, hit, Nat.succ_ne_self _, Nat.ne_of_gt (Nat.lt_succ_of_lt lt)⟩, fp, q⟩
theorem wk_eT {K : PySem.W.Frag} {S : Hp} {as : List Addr} {ds : List D} {a : Addr} {vs : List V} (h : SqT K S a vs) (is : IsL K S ds vs) : Wk K (IteT K a) S as (enumD ds) yes := by
  refine ⟨fun S' H as' cs i e r _ hi => ?_, fun S' H as' cs i d e r _ hi => ?_⟩
  · rw [enumD_len] at hi
    exact ⟨vs, r.sub.t (e.sub.t h), by rw [is.len]; exact hi⟩
  · obtain ⟨d', hd, rfl⟩ := enumD_get hi
    obtain ⟨v, hv, iv⟩ := is.get hd
    have q : SqT K H a vs := r.sub.t (e.sub.t h)
    refine ⟨⟨vs, v, q, hv⟩, fun x H' y => ?_⟩
    obtain ⟨T, x', rfl, nT, rfl, f⟩ := y
    obtain rfl : v = x' := Option.some.inj (hv.symm.trans (f vs q))
    exact pair_laid r nT rfl (Is.mono e.sub _ _ iv)
def diEnumU (a : DE) : DI := fun en cs k => a en cs fun z cs1 => match z with
  | .d (.tup ds) => k (enumD ds) yes cs1
  | z => seqD cs1 z fun ds keep => k (enumD ds) keep cs1
theorem qi_enumU {X : Cx} {a : Expr} {elts : List Expr} {kk : Nat} {ta : TE} {da : DE} {p tpos pos : Pos} (hm : X.mg "enumerate" = none) (ha : QE X a ta da) (hg : Gl X "enumerate" := by rfl) (hs : starEach [a] X.env = [(false, eval a X.env)] := by rfl) :
    QI X (.Tuple elts kk tpos) (.Call (.Name "enumerate" p) [a] [] pos) (iEnumU X.K (tCons ta tNil)) (diEnumU da) := by
  refine ⟨pi_enumU hg hm (pa_cons ha.pe pa_nil hs) hs, fun σ H S as en cs k R r e h p => ?_⟩
  refine ha.sem.use r e h fun z v S1 H1 as1 cs1 e1 r1 v1 q1 => ?_
  cases z with
  | d x =>
    cases x with
    | tup ds =>
      obtain ⟨a, vs, rfl, hs, is⟩ := v1
      exact ⟨a, rfl, .inr ⟨vs, r1.sub.t hs, p _ S1 H1 as1 _ yes cs1 e1 r1 (wk_eT hs is) q1⟩⟩
    | lst ds =>
      obtain ⟨a, vs, rfl, hs, is⟩ := v1
      exact ⟨a, rfl, .inl ⟨vs, SqL.of (r1.sub _ _ hs), p _ S1 H1 as1 _ yes cs1 e1 r1 (wk_e fun S' H as' cs e r _ => ⟨vs, SqL.of (r.sub _ _ (e.sub _ _ hs)), IsL.mono e.sub _ _ is⟩) q1⟩⟩
    | scr ns =>
      obtain ⟨a, rfl, hs⟩ := v1
      exact ⟨a, rfl, .inl ⟨_, r1.sub.l hs, p _ S1 H1 as1 _ yes cs1 e1 r1 (wk_e fun S' H as' cs e r _ => ⟨_, r.sub.l (e.sub.l hs), isL_ints _⟩) q1⟩⟩
    | _ => exact q1.elim
  | c n =>
    obtain ⟨a, ha, rfl⟩ := v1
    have q1' : (match cs1[n]? with
      | some (.lst ds) => k (enumD ds) (fun c => c[n]? = some (.lst ds)) cs1
      | _ => False) := q1
    split at q1'
    · rename_i ds hc
      obtain ⟨hS, vs, hl, is⟩ := r1.cell_lst ha hc
      refine ⟨a, rfl, .inl ⟨vs, SqL.of hl, p _ S1 H1 as1 _ _ cs1 e1 r1 (wk_e fun S' H as' cs e r kp => ?_) q1'⟩⟩
      obtain ⟨_, vs', hl', is'⟩ := r.cell_lst (e.get ha) kp
      exact ⟨vs', SqL.of hl', is'⟩
    · exact q1'.elim
end DL
set_option Elab.async false
set_option linter.all false
set_option maxRecDepth 100000
set_option maxHeartbeats 2000000
set_option autoImplicit false
/-! DLU2: the readings' definitions as rewrite rows with proofs of their own: what simp does by them the kernel need not find again -/
namespace DL
open PySem L2
def vK (o : Option (Option Z)) (k : Z → Prop) : Prop := match o with
  | some (some z) => k z
  | _ => False
theorem n_vK (z : Z) (k : Z → Prop) : vK (some (some z)) k = k z := nd rfl
theorem u_dVar (i : Nat) (en : En) (cs : Cs) (k : Z → Cs → Prop) : dVar i en cs k = vK en[i]? fun z => k z cs := nd rfl
theorem u_dC (x : D) (b0 : En) (cs : Cs) (k : Z → Cs → Prop) : dC x b0 cs k = (k (.d x) cs) := nd rfl
theorem u_dOp (f : D → D → (D → Prop) → Prop) (a b : DE) (en : En) (cs : Cs) (k : Z → Cs → Prop) : dOp f a b en cs k = (a en cs fun x cs1 => b en cs1 fun y cs2 => withD cs2 x fun dx => withD cs2 y fun dy => f dx dy fun z => k (.d z) cs2) := nd rfl
theorem u_dChain (f g : D → D → (D → Prop) → Prop) (a b c : DE) (en : En) (cs : Cs) (k : Z → Cs → Prop) : dChain f g a b c en cs k = (a en cs fun x cs1 => b en cs1 fun y cs2 => withD cs2 x fun dx => withD cs2 y fun dy => f dx dy fun z => ∃ q, z = .bl q ∧
  if q = true then c en cs2 fun w cs3 => withD cs3 y fun dy => withD cs3 w fun dw => g dy dw fun z => k (.d z) cs3 else k (.d (.bl false)) cs2) := nd rfl
theorem u_dUn (f : D → (D → Prop) → Prop) (a : DE) (en : En) (cs : Cs) (k : Z → Cs → Prop) : dUn f a en cs k = (a en cs fun x cs1 => withD cs1 x fun dx => f dx fun z => k (.d z) cs1) := nd rfl
theorem u_dB (a : DE) (en : En) (cs : Cs) (k : Bool → Cs → Prop) : dB a en cs k = (a en cs fun x cs1 => ∃ b, x = .d (.bl b) ∧ k b cs1) := nd rfl
theorem u_dNot (t : DT) (en : En) (cs : Cs) (k : Bool → Cs → Prop) : dNot t en cs k = (t en cs fun b cs1 => k (!b) cs1) := nd rfl
theorem u_dAnd (t u : DT) (en : En) (cs : Cs) (k : Bool → Cs → Prop) : dAnd t u en cs k = (t en cs fun b cs1 => if b = true then u en cs1 k else k false cs1) := nd rfl
theorem u_dOr (t u : DT) (en : En) (cs : Cs) (k : Bool → Cs → Prop) : dOr t u en cs k = (t en cs fun b cs1 => if b = true then k true cs1 else u en cs1 k) := nd rfl
theorem u_dAndV (a b : DE) (en : En) (cs : Cs) (k : Z → Cs → Prop) : dAndV a b en cs k = (a en cs fun x cs1 => ∃ c, x = .d (.bl c) ∧ if c = true then b en cs1 k else k (.d (.bl false)) cs1) := nd rfl
theorem u_dOrV (a b : DE) (en : En) (cs : Cs) (k : Z → Cs → Prop) : dOrV a b en cs k = (a en cs fun x cs1 => ∃ c, x = .d (.bl c) ∧ if c = true then k (.d (.bl true)) cs1 else b en cs1 k) := nd rfl
theorem u_dNotV (a : DE) (en : En) (cs : Cs) (k : Z → Cs → Prop) : dNotV a en cs k = (a en cs fun x cs1 => ∃ c, x = .d (.bl c) ∧ k (.d (.bl (!c))) cs1) := nd rfl
theorem u_dIf (t : DT) (a b : DE) (en : En) (cs : Cs) (k : Z → Cs → Prop) : dIf t a b en cs k = (t en cs fun c cs1 => if c = true then a en cs1 k else b en cs1 k) := nd rfl
theorem u_dNil (b0 : En) (cs : Cs) (k : List Z → Cs → Prop) : dNil  b0 cs k = (k [] cs) := nd rfl
theorem u_dCons (a : DE) (r : DA) (en : En) (cs : Cs) (k : List Z → Cs → Prop) : dCons a r en cs k = (a en cs fun x cs1 => r en cs1 fun xs cs2 => k (x :: xs) cs2) := nd rfl
theorem u_dTup (a : DA) (en : En) (cs : Cs) (k : Z → Cs → Prop) : dTup a en cs k = (a en cs fun zs cs1 => datL zs fun ds => ds.length ≤ LIM ∧ k (.d (.tup ds)) cs1) := nd rfl
theorem u_dLst (a : DA) (en : En) (cs : Cs) (k : Z → Cs → Prop) : dLst a en cs k = (a en cs fun zs cs1 => datL zs fun ds => ds.length ≤ LIM ∧ k (.d (.lst ds)) cs1) := nd rfl
theorem u_dLstC (a : DA) (en : En) (cs : Cs) (k : Z → Cs → Prop) : dLstC a en cs k = (a en cs fun zs cs1 => datL zs fun ds => ds.length ≤ LIM ∧ k (.c cs1.length) (cs1 ++ [.lst ds])) := nd rfl
theorem u_dCB (f : List D → (D → Prop) → Prop) (a : DA) (en : En) (cs : Cs) (k : Z → Cs → Prop) : dCB f a en cs k = (a en cs fun zs cs1 => withL cs1 zs fun ds => f ds fun z => k (.d z) cs1) := nd rfl
theorem u_dInK (neg : Bool) (a b : DE) (en : En) (cs : Cs) (k : Z → Cs → Prop) : dInK neg a b en cs k = (a en cs fun x cs1 => b en cs1 fun y cs2 => withD cs2 x fun dx => withD cs2 y fun dy =>
  match dy with
  | .dic kvs => keyD dx fun key => k (.d (.bl (if neg = true then !(getK kvs key).isSome else (getK kvs key).isSome))) cs2
  | _ => False) := nd rfl
theorem u_dGetK (a b : DE) (en : En) (cs : Cs) (k : Z → Cs → Prop) : dGetK a b en cs k = (a en cs fun x cs1 => b en cs1 fun y cs2 => withD cs2 x fun dx => withD cs2 y fun dy =>
  match dx with
  | .dic kvs => keyD dy fun key => match getK kvs key with
    | some d => k (.d d) cs2
    | none => False
  | _ => False) := nd rfl
theorem u_dDicC (b0 : En) (cs : Cs) (k : Z → Cs → Prop) : dDicC  b0 cs k = (k (.c cs.length) (cs ++ [.dic []])) := nd rfl
theorem u_dNoPart (b0 : En) (cs : Cs) (k : Option Int → Cs → Prop) : dNoPart  b0 cs k = (k none cs) := nd rfl
theorem u_dPart (a : DE) (en : En) (cs : Cs) (k : Option Int → Cs → Prop) : dPart a en cs k = (a en cs fun z cs1 => ∃ i, z = .d (.int i) ∧ k (some i) cs1) := nd rfl
theorem u_dSl (a : DE) (lo hi : DO) (en : En) (cs : Cs) (k : Z → Cs → Prop) : dSl a lo hi en cs k = (a en cs fun x cs1 => lo en cs1 fun l cs2 => hi en cs2 fun h cs3 => withD cs3 x fun dx => sliceD dx l h fun z => k (.d z) cs3) := nd rfl
theorem u_dBits (a : DE) (en : En) (cs : Cs) (k : Z → Cs → Prop) : dBits a en cs k = (a en cs fun z cs1 => ∃ i, z = .d (.int i) ∧ k (.d (.int (Builtin.Int.intBits i : Nat))) cs1) := nd rfl
theorem u_dgName (i : Nat) (z : Z) (en : En) (cs : Cs) (k : En → Cs → Prop) : dgName i z en cs k = (k (en.set i (some z)) cs) := nd rfl
theorem u_dgsNil (ds : List D) (en : En) (cs : Cs) (k : En → Cs → Prop) : dgsNil  ds en cs k = (ds = [] ∧ k en cs) := nd rfl
theorem u_dgsCons (g : DG) (r : DGs) (ds : List D) (en : En) (cs : Cs) (k : En → Cs → Prop) : dgsCons g r ds en cs k = (match ds with
  | d :: ds => g (.d d) en cs fun en1 cs1 => r ds en1 cs1 k
  | [] => False) := nd rfl
theorem u_dgTup (n : Nat) (g : DGs) (z : Z) (en : En) (cs : Cs) (k : En → Cs → Prop) : dgTup n g z en cs k = (match z with
  | .d (.tup ds) => ds.length = n ∧ g ds en cs k
  | _ => False) := nd rfl
theorem u_dgSet (o i : DE) (z : Z) (en : En) (cs : Cs) (k : En → Cs → Prop) : dgSet o i z en cs k = (o en cs fun x cs1 => i en cs1 fun y cs2 => match x, y, z with
  | .c n, .d (.int j), .d d => match cs2[n]? with
    | some (.lst ds) => ∃ m, ixN ds.length j = some m ∧ k en (cs2.set n (.lst (ds.set m d)))
    | _ => False
  | _, _, _ => False) := nd rfl
theorem u_diSeq (a : DE) (en : En) (cs : Cs) (k : List D → (Cs → Prop) → Cs → Prop) : diSeq a en cs k = (a en cs fun z cs1 => seqD cs1 z fun ds keep => k ds keep cs1) := nd rfl
theorem u_diR1 (a : DE) (en : En) (cs : Cs) (k : List D → (Cs → Prop) → Cs → Prop) : diR1 a en cs k = (a en cs fun z cs1 => ∃ j, z = .d (.int j) ∧ Rg j ∧ k (rgD 0 j.toNat) yes cs1) := nd rfl
theorem u_diEnum (a : DE) (en : En) (cs : Cs) (k : List D → (Cs → Prop) → Cs → Prop) : diEnum a en cs k = (a en cs fun z cs1 => match z with
  | .d (.tup _) => False
  | z => seqD cs1 z fun ds keep => k (enumD ds) keep cs1) := nd rfl
theorem u_dYes (b0 : En) (cs : Cs) (k : Bool → Cs → Prop) : dYes  b0 cs k = (k true cs) := nd rfl
theorem u_dNext (D0 : DEnds) (en : En) (cs : Cs) : dNext  D0 en cs = (D0.nx en cs) := nd rfl
theorem u_dSeq (t u : DS) (D0 : DEnds) (en : En) (cs : Cs) : dSeq t u D0 en cs = (t { D0 with nx := u D0 } en cs) := nd rfl
theorem u_dBreak (D0 : DEnds) (en : En) (cs : Cs) : dBreak  D0 en cs = (D0.bk en cs) := nd rfl
theorem u_dCont (D0 : DEnds) (en : En) (cs : Cs) : dCont  D0 en cs = (D0.ct en cs) := nd rfl
theorem u_dDrop (a : DE) (D0 : DEnds) (en : En) (cs : Cs) : dDrop a D0 en cs = (a en cs fun _ cs1 => D0.nx en cs1) := nd rfl
theorem u_dRet (a : DE) (D0 : DEnds) (en : En) (cs : Cs) : dRet a D0 en cs = (a en cs D0.rt) := nd rfl
theorem u_dRetN (D0 : DEnds) (b1 : En) (cs : Cs) : dRetN  D0 b1 cs = (D0.rt (.d .non) cs) := nd rfl
theorem u_dIfS (c : DT) (t u : DS) (D0 : DEnds) (en : En) (cs : Cs) : dIfS c t u D0 en cs = (c en cs fun b cs1 => if b = true then t D0 en cs1 else u D0 en cs1) := nd rfl
theorem u_dNever (b0 : DEnds) (b1 : En) (b2 : Cs) : dNever  b0 b1 b2 = (False) := nd rfl
theorem u_dAsg (a : DE) (g : DG) (D0 : DEnds) (en : En) (cs : Cs) : dAsg a g D0 en cs = (a en cs fun z cs1 => g z en cs1 D0.nx) := nd rfl
theorem u_dPar (i j : Nat) (a : DA) (D0 : DEnds) (en : En) (cs : Cs) : dPar i j a D0 en cs = (a en cs fun zs cs1 => match zs with
  | [z, w] => D0.nx ((en.set i (some z)).set j (some w)) cs1
  | _ => False) := nd rfl
theorem u_dPutK (a b c : DE) (D0 : DEnds) (en : En) (cs : Cs) : dPutK a b c D0 en cs = (c en cs fun z cs1 => a en cs1 fun x cs2 => b en cs2 fun y cs3 => match x, y, z with
  | .c n, .d dy, .d dz => (match cs3[n]? with
    | some (.dic kvs) => keyD dy fun key => kvs.length < LIM ∧ D0.nx en (cs3.set n (.dic (setK kvs key dz)))
    | _ => False)
  | _, _, _ => False) := nd rfl
theorem u_dAppend (o v : DE) (en : En) (cs : Cs) (k : Z → Cs → Prop) : dAppend o v en cs k = (o en cs fun x cs1 => match x with
  | .c n => (match cs1[n]? with
    | some (.lst _) => v en cs1 fun y cs2 => (match y with
      | .d d => (match cs2[n]? with
        | some (.lst ds) => ds.length < LIM ∧ k (.d .non) (cs2.set n (.lst (ds ++ [d])))
        | _ => False)
      | _ => False)
    | _ => False)
  | _ => False) := nd rfl
theorem u_dExtend (o v : DE) (en : En) (cs : Cs) (k : Z → Cs → Prop) : dExtend o v en cs k = (o en cs fun x cs1 => match x with
  | .c n => (match cs1[n]? with
    | some (.lst _) => v en cs1 fun y cs2 => withD cs2 y fun dy => (match dy with
      | .lst es => (match cs2[n]? with
        | some (.lst ds) => ds.length + es.length < LIM ∧ k (.d .non) (cs2.set n (.lst (ds ++ es)))
        | _ => False)
      | _ => False)
    | _ => False)
  | _ => False) := nd rfl
theorem u_dCall (sp : DSpec) (a : DA) (en : En) (cs : Cs) (k : Z → Cs → Prop) : dCall sp a en cs k = (a en cs fun zs cs1 => sp zs cs1 k) := nd rfl
theorem u_dRev (a : DE) (en : En) (cs : Cs) (k : Z → Cs → Prop) : dRev a en cs k = (a en cs fun x cs1 => withD cs1 x fun dx => revD dx fun z => k (.d z) cs1) := nd rfl
theorem u_dOpC (f : D → D → (List D → Prop) → Prop) (a b : DE) (en : En) (cs : Cs) (k : Z → Cs → Prop) : dOpC f a b en cs k = (a en cs fun x cs1 => b en cs1 fun y cs2 => withD cs2 x fun dx => withD cs2 y fun dy => f dx dy fun ds => k (.c cs2.length) (cs2 ++ [.lst ds])) := nd rfl
theorem u_dSlC (a : DE) (lo hi : DO) (en : En) (cs : Cs) (k : Z → Cs → Prop) : dSlC a lo hi en cs k = (a en cs fun x cs1 => lo en cs1 fun l cs2 => hi en cs2 fun h cs3 => withD cs3 x fun dx => ∃ ds, dx = .lst ds ∧ k (.c cs3.length) (cs3 ++ [.lst (cutG ds l h)])) := nd rfl
theorem u_dListC (a : DE) (en : En) (cs : Cs) (k : Z → Cs → Prop) : dListC a en cs k = (a en cs fun x cs1 => withD cs1 x fun dx => lstOfC dx fun ds => k (.c cs1.length) (cs1 ++ [.lst ds])) := nd rfl
theorem u_dFld (C : Addr) (f : Str) (o : DE) (en : En) (cs : Cs) (k : Z → Cs → Prop) : dFld C f o en cs k = (o en cs fun z cs1 => withD cs1 z fun d => match d with
  | .ob C' ns ds => C' = C ∧ ∃ x, (ns.zip ds).lookup f = some x ∧ k (.d x) cs1
  | _ => False) := nd rfl
theorem u_dMake (C : Addr) (sp : DSpec) (a : DA) (en : En) (cs : Cs) (k : Z → Cs → Prop) : dMake C sp a en cs k = (a en cs fun zs cs1 => sp (.c cs1.length :: zs) (cs1 ++ [.ob C [] []]) fun z cs2 => z = .d .non ∧ ∃ ns ds, cs2[cs1.length]? = some (.ob C ns ds) ∧ (k (.d (.ob C ns ds)) (cs2.take cs1.length) ∨ k (.c cs1.length) cs2)) := nd rfl
theorem u_dMeth (C : Addr) (m : Str) (sp : DSpec) (o : DE) (a : DA) (en : En) (cs : Cs) (k : Z → Cs → Prop) : dMeth C m sp o a en cs k = (o en cs fun z cs1 => withD cs1 z fun d => match d with
  | .ob C' ns ds => C' = C ∧ (ns.zip ds).lookup m = none ∧ a en cs1 fun zs cs2 => sp (z :: zs) cs2 k
  | _ => False) := nd rfl
theorem u_dProp (C : Addr) (sp : DSpec) (o : DE) (en : En) (cs : Cs) (k : Z → Cs → Prop) : dProp C sp o en cs k = (o en cs fun z cs1 => withD cs1 z fun d => match d with
  | .ob C' _ _ => C' = C ∧ sp [z] cs1 k
  | _ => False) := nd rfl
theorem u_dIsiO (C : Addr) (Ks : List Addr) (a : DE) (en : En) (cs : Cs) (k : Z → Cs → Prop) : dIsiO C Ks a en cs k = (a en cs fun z cs1 => withD cs1 z fun d => isiO C Ks d fun q => k (.d (.bl q)) cs1) := nd rfl
theorem u_dOwn (C : Addr) (sp : DSpec) (a b : DE) (en : En) (cs : Cs) (k : Z → Cs → Prop) : dOwn C sp a b en cs k = (a en cs fun x cs1 => b en cs1 fun y cs2 => withD cs2 x fun dx => withD cs2 y fun dy => isC C dx ∧ isC C dy ∧ sp [x, y] cs2 k) := nd rfl
theorem u_dOwnE (C : Addr) (neg : Bool) (sp : DSpec) (a b : DE) (en : En) (cs : Cs) (k : Z → Cs → Prop) : dOwnE C neg sp a b en cs k = (a en cs fun x cs1 => b en cs1 fun y cs2 => withD cs2 x fun dx => withD cs2 y fun dy => isC C dx ∧ rgt C dy ∧ sp [x, y] cs2 fun z cs3 => ∃ q, z = .d (.bl q) ∧ k (.d (.bl (if neg = true then !q else q))) cs3) := nd rfl
theorem u_dCallI (C : Addr) (sp : DSpec) (o : DE) (a : DA) (en : En) (cs : Cs) (k : Z → Cs → Prop) : dCallI C sp o a en cs k = (o en cs fun z cs1 => withD cs1 z fun d => isC C d ∧ a en cs1 fun zs cs2 => withD cs2 z fun d => isC C d ∧ sp (z :: zs) cs2 k) := nd rfl
theorem u_dSortSet (a : DE) (en : En) (cs : Cs) (k : Z → Cs → Prop) : dSortSet a en cs k = (a en cs fun z cs1 => withD cs1 z fun d => ∃ ns : List Int, d = .lst (ns.map D.int) ∧ ns.length ≤ 4000 ∧ ∀ out : List Int, out.Pairwise (· < ·) → (∀ j, j ∈ out ↔ j ∈ ns) → k (.d (.lst (out.map D.int))) cs1) := nd rfl
theorem u_dFrz (i : Nat) (t : DS) (E : DEnds) (en : En) (cs : Cs) : dFrz i t E en cs = (match en[i]? with
  | some (some (.c n)) => withD cs (.c n) fun d => frzOk d = true ∧ ∀ b, t E (en.set i (some (.d d))) (cs.set n (.obj b))
  | some (some (.d _)) => t E en cs
  | _ => False) := nd rfl
theorem u_diZip (a b : DE) (en : En) (cs : Cs) (k : List D → (Cs → Prop) → Cs → Prop) : diZip a b en cs k = (a en cs fun x cs1 => b en cs1 fun y cs2 => match x, y with
  | .d (.lst ds), .d (.lst es) => k (zipD ds es) yes cs2
  | .d (.tup ds), .d (.tup es) => k (zipD ds es) yes cs2
  | _, _ => False) := nd rfl
theorem u_diEnumU (a : DE) (en : En) (cs : Cs) (k : List D → (Cs → Prop) → Cs → Prop) : diEnumU a en cs k = (a en cs fun z cs1 => match z with
  | .d (.tup ds) => k (enumD ds) yes cs1
  | z => seqD cs1 z fun ds keep => k (enumD ds) keep cs1) := nd rfl
end DL
set_option Elab.async false
set_option linter.all false
set_option autoImplicit false
/-! PM: passages as functions, in plain Lean -/
namespace PM
abbrev Row := Int × Int × Int
def mv (r : Row) (k : Int) : Row := (r.1 + k, r.2.1 + k, r.2.2 + k)
/-- (x, y) lies on the row (first, last, arrival) -/
def On (r : Row) (x y : Int) : Prop := r.1 ≤ x ∧ x ≤ r.2.1 ∧ y = r.2.2 + (x - r.1)
def Bef (r s : Row) : Prop := r.2.1 < s.1 ∧ r.2.2 + (r.2.1 - r.1) < s.2.2
structure Psg (c : Int) (f : Int → Int) : Prop where
  pos : 1 ≤ c
  mono : ∀ x y, x ≤ y → f x ≤ f y
  per : ∀ x, f (x + c) = f x + c
def Lst (f : Int → Int) (x : Int) : Prop := f x < f (x + 1)
structure Val (c : Int) (rs : List Row) : Prop where
  ne : rs ≠ []
  ok : ∀ r ∈ rs, r.1 ≤ r.2.1
  bef : rs.Pairwise Bef
  wrap : ∀ r ∈ rs, ∀ s ∈ rs, Bef r (mv s c)
structure Cov (c : Int) (rs : List Row) (f : Int → Int) : Prop where
  on : ∀ r ∈ rs, ∀ x y, On r x y → Lst f x ∧ f x = y
  ex : ∀ x, Lst f x → ∃ r ∈ rs, ∃ k : Int, On r (x + k * c) (f x + k * c)
theorem least {P : Nat → Prop} : ∀ n, P n → ∃ m, P m ∧ ∀ j, P j → m ≤ j := by
  intro n
  induction n using Nat.strongRecOn with
  | ind n ih =>
    intro h
    by_cases q : ∃ j, j < n ∧ P j
    · obtain ⟨j, hj, hp⟩ := q
      exact ih j hj hp
    · exact ⟨n, h, fun j hj => Nat.le_of_not_lt fun z => q ⟨j, z, hj⟩⟩
section
variable {c : Int} {f g : Int → Int}
theorem Psg.perN (h : Psg c f) : ∀ (n : Nat) (x : Int), f (x + n * c) = f x + n * c
  | 0, x => by simp
  | n + 1, x => by
    have e : x + ((n + 1 : Nat) : Int) * c = (x + n * c) + c := by
      rw [Int.natCast_add, Int.add_mul]
      omega
    rw [e, h.per, h.perN n]
    rw [Int.natCast_add, Int.add_mul]
    omega
theorem Psg.perK (h : Psg c f) (k x : Int) : f (x + k * c) = f x + k * c := by
  rcases Int.lt_or_le k 0 with hk | hk
  · have e := h.perN (-k).toNat (x + k * c)
    have e1 : (((-k).toNat : Nat) : Int) = -k := Int.toNat_of_nonneg (by omega)
    rw [e1, Int.neg_mul, show x + k * c + -(k * c) = x by omega] at e
    omega
  · have e := h.perN k.toNat x
    rw [Int.toNat_of_nonneg hk] at e
    exact e
theorem lst_per (h : Psg c f) (k x : Int) : Lst f (x + k * c) ↔ Lst f x := by
  unfold Lst
  rw [show x + k * c + 1 = (x + 1) + k * c by omega, h.perK, h.perK]
  omega
theorem lst_lt (h : Psg c f) {x y : Int} (hx : Lst f x) (l : x < y) : f x < f y := by
  have := h.mono (x + 1) y (by omega)
  unfold Lst at hx
  omega
/-- the next last start -/
theorem next (h : Psg c f) (x : Int) : ∃ z, x ≤ z ∧ Lst f z ∧ f z = f x ∧ ∀ y, x ≤ y → y < z → ¬ Lst f y := by
  have hc := h.pos
  obtain ⟨m, hm, hl⟩ := least (P := fun n => f x < f (x + n + 1)) (c - 1).toNat (by
    show f x < f (x + ((c - 1).toNat : Int) + 1)
    rw [Int.toNat_of_nonneg (by omega), show x + (c - 1) + 1 = x + c by omega, h.per]
    omega)
  have low : ∀ j : Nat, j < m → f (x + j + 1) = f x := fun j hj => by
    have h1 := h.mono x (x + j + 1) (by omega)
    have h2 : ¬ f x < f (x + j + 1) := fun z => by
      have := hl j z
      omega
    omega
  have at_ : f (x + m) = f x := by
    cases m with
    | zero => simp
    | succ j =>
      have := low j (by omega)
      rw [show x + ((j + 1 : Nat) : Int) = x + j + 1 by omega]
      exact this
  refine ⟨x + m, by omega, ?_, at_, fun y h1 h2 z => ?_⟩
  · unfold Lst
    rw [at_]
    exact hm
  · unfold Lst at z
    have h3 : f (y + 1) = f x := by
      have e : (x + ((y - x).toNat : Int) + 1) = y + 1 := by omega
      have := low (y - x).toNat (by omega)
      rw [e] at this
      exact this
    have := h.mono x y h1
    omega
theorem next_uniq {x z z' : Int} (h1 : x ≤ z) (l1 : Lst f z) (n1 : ∀ y, x ≤ y → y < z → ¬ Lst f y) (h2 : x ≤ z') (l2 : Lst f z') (n2 : ∀ y, x ≤ y → y < z' → ¬ Lst f y) : z = z' := by
  rcases Int.lt_trichotomy z z' with l | l | l
  · exact absurd l1 (n2 z h1 l)
  · exact l
  · exact absurd l2 (n1 z' h2 l)
/-- passages with the same last starts are the same -/
theorem same_of (hf : Psg c f) (hg : Psg c g) (h : ∀ x, Lst f x → Lst g x ∧ g x = f x) (h' : ∀ x, Lst g x → Lst f x) (x : Int) : f x = g x := by
  obtain ⟨z, l, a, b, n⟩ := next hf x
  obtain ⟨z', l', a', b', n'⟩ := next hg x
  have e : z = z' := next_uniq (f := f) l a n l' (h' z' a') fun y h1 h2 q => n' y h1 h2 (h y q).1
  subst e
  rw [← b, ← b', (h z a).2]
theorem cov_same {rs : List Row} (hf : Psg c f) (hg : Psg c g) (a : Cov c rs f) (b : Cov c rs g) (x : Int) : f x = g x := by
  have key : ∀ {f g : Int → Int}, Psg c f → Psg c g → Cov c rs f → Cov c rs g → ∀ x, Lst f x → Lst g x ∧ g x = f x := by
    intro f g hf hg a b x hx
    obtain ⟨r, hr, k, ho⟩ := a.ex x hx
    obtain ⟨h1, h2⟩ := b.on r hr _ _ ho
    rw [lst_per hg] at h1
    rw [hg.perK] at h2
    exact ⟨h1, by omega⟩
  exact same_of hf hg (key hf hg a b) (fun x hx => (key hg hf b a x hx).1) x
/-! ### from rows to a function -/
def LL (c : Int) (rs : List Row) (x y : Int) : Prop := ∃ r ∈ rs, ∃ k : Int, On r (x + k * c) (y + k * c)
theorem pw_cases {α : Type} {R : α → α → Prop} {l : List α} (h : l.Pairwise R) {a b : α} (ha : a ∈ l) (hb : b ∈ l) : a = b ∨ R a b ∨ R b a := by
  induction h with
  | nil => cases ha
  | cons h1 h2 ih =>
    rcases List.mem_cons.mp ha with rfl | ha' <;> rcases List.mem_cons.mp hb with rfl | hb'
    · exact .inl rfl
    · exact .inr (.inl (h1 _ hb'))
    · exact .inr (.inr (h1 _ ha'))
    · exact ih ha' hb'
theorem mul_step {k k' c : Int} (h : k' + 1 ≤ k) (hc : 0 ≤ c) : k' * c + c ≤ k * c := by
  have := Int.mul_le_mul_of_nonneg_right h hc
  rw [Int.add_mul] at this
  omega
theorem LL.cmp {rs : List Row} (hc : 0 ≤ c) (v : Val c rs) {x y x' y' : Int} (h : LL c rs x y) (h' : LL c rs x' y') : (x < x' → y < y') ∧ (x = x' → y = y') := by
  obtain ⟨r, hr, k, a1, a2, a3⟩ := h
  obtain ⟨s, hs, j, b1, b2, b3⟩ := h'
  rcases Int.lt_trichotomy k j with l | l | l
  · have w := v.wrap s hs r hr
    have m := mul_step (show k + 1 ≤ j by omega) hc
    simp only [Bef, mv] at w
    constructor <;> intro <;> omega
  · subst l
    rcases pw_cases v.bef hr hs with rfl | b | b
    · constructor <;> intro <;> omega
    · simp only [Bef] at b
      constructor <;> intro <;> omega
    · simp only [Bef] at b
      constructor <;> intro <;> omega
  · have w := v.wrap r hr s hs
    have m := mul_step (show j + 1 ≤ k by omega) hc
    simp only [Bef, mv] at w
    constructor <;> intro <;> omega
theorem LL.per {rs : List Row} {x y : Int} (h : LL c rs x y) (k : Int) : LL c rs (x + k * c) (y + k * c) := by
  obtain ⟨r, hr, j, h⟩ := h
  refine ⟨r, hr, j - k, ?_⟩
  rw [Int.sub_mul, show x + k * c + (j * c - k * c) = x + j * c by omega, show y + k * c + (j * c - k * c) = y + j * c by omega]
  exact h
theorem fun_of {rs : List Row} (hc : 1 ≤ c) (v : Val c rs) : ∃ f, Psg c f ∧ Cov c rs f := by
  have H : ∀ x, ∃ y z, x ≤ z ∧ LL c rs z y ∧ ∀ z' y', x ≤ z' → LL c rs z' y' → z ≤ z' := by
    intro x
    obtain ⟨r, hr⟩ := List.exists_mem_of_ne_nil _ v.ne
    have h0 : LL c rs r.1 r.2.2 := ⟨r, hr, 0, by simp only [On]; have := v.ok r hr; omega⟩
    have h1 := h0.per (((x - r.1).toNat : Nat) : Int)
    have h2 : ((x - r.1).toNat : Int) ≤ ((x - r.1).toNat : Int) * c := by
      have := Int.mul_le_mul_of_nonneg_left hc (show (0 : Int) ≤ ((x - r.1).toNat : Int) by omega)
      omega
    obtain ⟨m, ⟨y, hm⟩, hl⟩ := least (P := fun n => ∃ y, LL c rs (x + n) y) (r.1 + ((x - r.1).toNat : Int) * c - x).toNat ⟨_, by
      rw [Int.toNat_of_nonneg (by omega), show x + (r.1 + ((x - r.1).toNat : Int) * c - x) = r.1 + ((x - r.1).toNat : Int) * c by omega]
      exact h1⟩
    refine ⟨y, x + m, by omega, hm, fun z' y' a b => ?_⟩
    have := hl (z' - x).toNat ⟨y', by rw [Int.toNat_of_nonneg (by omega), show x + (z' - x) = z' by omega]; exact b⟩
    omega
  let f : Int → Int := fun x => Classical.choose (H x)
  have hf : ∀ x, ∃ z, x ≤ z ∧ LL c rs z (f x) ∧ ∀ z' y', x ≤ z' → LL c rs z' y' → z ≤ z' := fun x => Classical.choose_spec (H x)
  have c0 : 0 ≤ c := by omega
  have atL : ∀ x y, LL c rs x y → f x = y ∧ Lst f x := by
    intro x y h
    obtain ⟨z, a, b, d⟩ := hf x
    have e : z = x := by
      have := d x y (Int.le_refl _) h
      omega
    subst e
    have e2 : f z = y := (LL.cmp c0 v b h).2 rfl
    refine ⟨e2, ?_⟩
    obtain ⟨w, a', b', _⟩ := hf (z + 1)
    unfold Lst
    exact (LL.cmp c0 v b b').1 (by omega)
  have psg : Psg c f := by
    refine ⟨hc, fun x y l => ?_, fun x => ?_⟩
    · obtain ⟨z, a, b, d⟩ := hf x
      obtain ⟨z', a', b', d'⟩ := hf y
      have h1 := d z' (f y) (by omega) b'
      rcases Int.lt_or_eq_of_le h1 with q | q
      · have := (LL.cmp c0 v b b').1 q
        omega
      · have := (LL.cmp c0 v b b').2 q
        omega
    · obtain ⟨z, a, b, d⟩ := hf x
      obtain ⟨z', a', b', d'⟩ := hf (x + c)
      have p := b.per 1
      rw [Int.one_mul] at p
      have q := b'.per (-1)
      rw [show (-1 : Int) * c = -c by omega] at q
      have h1 := d' _ _ (by omega) p
      have h2 := d _ _ (by omega) q
      have e : z' = z + c := by omega
      have := (LL.cmp c0 v b' p).2 e
      exact this
  refine ⟨f, psg, fun r hr x y h => ?_, fun x hx => ?_⟩
  · have := atL x y ⟨r, hr, 0, by simpa using h⟩
    exact ⟨this.2, this.1⟩
  · obtain ⟨z, a, b, d⟩ := hf x
    rcases Int.lt_or_eq_of_le a with q | q
    · exfalso
      obtain ⟨z', a', b', d'⟩ := hf (x + 1)
      have h1 := d' z _ (by omega) b
      have h2 := d z' _ (by omega) b'
      have := (LL.cmp c0 v b b').2 (by omega)
      unfold Lst at hx
      omega
    · subst q
      exact b
end
end PM
set_option Elab.async false
set_option linter.all false
set_option autoImplicit false
/-! PMB: the one form of runs -/
namespace PM
/-- a longest row of last starts whose arrivals follow one another -/
structure RunM (f : Int → Int) (r : Row) : Prop where
  le : r.1 ≤ r.2.1
  on : ∀ x, r.1 ≤ x → x ≤ r.2.1 → Lst f x ∧ f x = r.2.2 + (x - r.1)
  lo : ¬ (Lst f (r.1 - 1) ∧ f (r.1 - 1) = r.2.2 - 1)
  hi : ¬ (Lst f (r.2.1 + 1) ∧ f (r.2.1 + 1) = r.2.2 + (r.2.1 - r.1) + 1)
def IdL (f : Int → Int) : Prop := ∃ t, ∀ x, f x = x + t
def Canon (c : Int) (f : Int → Int) (rs : List Row) : Prop :=
  (∃ t, (∀ x, f x = x + t) ∧ rs = [(0, c - 1, t)]) ∨ (¬ IdL f ∧ rs.Pairwise (fun a b => a.1 < b.1) ∧ ∀ r, r ∈ rs ↔ (0 ≤ r.1 ∧ r.1 < c ∧ RunM f r))
theorem sorted_same : ∀ {xs ys : List Row}, xs.Pairwise (fun a b => a.1 < b.1) → ys.Pairwise (fun a b => a.1 < b.1) → (∀ r, r ∈ xs ↔ r ∈ ys) → xs = ys
  | [], [], _, _, _ => rfl
  | [], y :: ys, _, _, h => by have := (h y).mpr (List.mem_cons_self); cases this
  | x :: xs, [], _, _, h => by have := (h x).mp (List.mem_cons_self); cases this
  | x :: xs, y :: ys, hx, hy, h => by
    obtain ⟨hx1, hx2⟩ := List.pairwise_cons.mp hx
    obtain ⟨hy1, hy2⟩ := List.pairwise_cons.mp hy
    have e : x = y := by
      rcases List.mem_cons.mp ((h x).mp List.mem_cons_self) with e | m
      · exact e
      rcases List.mem_cons.mp ((h y).mpr List.mem_cons_self) with e | n
      · exact e.symm
      have h1 := hy1 _ m
      have h2 := hx1 _ n
      omega
    subst e
    congr 1
    refine sorted_same hx2 hy2 fun r => ⟨fun m => ?_, fun m => ?_⟩
    · rcases List.mem_cons.mp ((h r).mp (List.mem_cons_of_mem _ m)) with rfl | q
      · exact absurd (hx1 _ m) (by omega)
      · exact q
    · rcases List.mem_cons.mp ((h r).mpr (List.mem_cons_of_mem _ m)) with rfl | q
      · exact absurd (hy1 _ m) (by omega)
      · exact q
section
variable {c : Int} {f g : Int → Int}
theorem Canon.uniq {rs rs' : List Row} (h : Canon c f rs) (h' : Canon c f rs') : rs = rs' := by
  rcases h with ⟨t, h1, rfl⟩ | ⟨h1, h2, h3⟩ <;> rcases h' with ⟨t', h1', rfl⟩ | ⟨h1', h2', h3'⟩
  · have := h1 0
    have := h1' 0
    rw [show t = t' by omega]
  · exact absurd ⟨t, h1⟩ h1'
  · exact absurd ⟨t', h1'⟩ h1
  · exact sorted_same h2 h2' fun r => (h3 r).trans (h3' r).symm
theorem Canon.congr {rs : List Row} (h : Canon c f rs) (e : ∀ x, f x = g x) : Canon c g rs := by
  have : f = g := funext e
  exact this ▸ h
theorem RunM.mv (h : Psg c f) {r : Row} (m : RunM f r) (k : Int) : RunM f (PM.mv r (k * c)) := by
  obtain ⟨h1, h2, h3, h4⟩ := m
  refine ⟨by simp only [PM.mv]; omega, fun x a b => ?_, fun q => h3 ?_, fun q => h4 ?_⟩
  · simp only [PM.mv] at a b ⊢
    have q := h2 (x - k * c) (by omega) (by omega)
    rw [← lst_per h k, show x - k * c + k * c = x by omega] at q
    have p := h.perK k (x - k * c)
    rw [show x - k * c + k * c = x by omega] at p
    exact ⟨q.1, by omega⟩
  · simp only [PM.mv] at q
    rw [show r.1 + k * c - 1 = (r.1 - 1) + k * c by omega, lst_per h, h.perK] at q
    exact ⟨q.1, by omega⟩
  · simp only [PM.mv] at q
    rw [show r.2.1 + k * c + 1 = (r.2.1 + 1) + k * c by omega, lst_per h, h.perK] at q
    exact ⟨q.1, by omega⟩
/-- two of them with a common start are the same -/
theorem RunM.same {r s : Row} (m : RunM f r) (n : RunM f s) {x : Int} (a : r.1 ≤ x) (b : x ≤ r.2.1) (a' : s.1 ≤ x) (b' : x ≤ s.2.1) : r = s := by
  have v := (m.on x a b).2
  have w := (n.on x a' b').2
  have e1 : r.1 = s.1 := by
    rcases Int.lt_trichotomy r.1 s.1 with l | l | l
    · exfalso
      have q := m.on (s.1 - 1) (by omega) (by omega)
      exact n.lo ⟨q.1, by omega⟩
    · exact l
    · exfalso
      have q := n.on (r.1 - 1) (by omega) (by omega)
      exact m.lo ⟨q.1, by omega⟩
  have e2 : r.2.1 = s.2.1 := by
    rcases Int.lt_trichotomy r.2.1 s.2.1 with l | l | l
    · exfalso
      have q := n.on (r.2.1 + 1) (by omega) (by omega)
      exact m.hi ⟨q.1, by omega⟩
    · exact l
    · exfalso
      have q := m.on (s.2.1 + 1) (by omega) (by omega)
      exact n.hi ⟨q.1, by omega⟩
  refine Prod.ext e1 (Prod.ext e2 ?_)
  omega
theorem not_id {r : Row} (m : RunM f r) : ¬ IdL f := fun ⟨t, h⟩ => by
  have h1 := (m.on r.1 (by omega) m.le).2
  refine m.lo ⟨?_, ?_⟩
  · unfold Lst
    rw [h, h]
    omega
  · rw [h] at h1 ⊢
    omega
/-- linked with the next one -/
def Lnk (f : Int → Int) (x : Int) : Prop := Lst f x ∧ Lst f (x + 1) ∧ f (x + 1) = f x + 1
theorem lnk_per (h : Psg c f) (k x : Int) : Lnk f (x + k * c) ↔ Lnk f x := by
  unfold Lnk
  rw [show x + k * c + 1 = (x + 1) + k * c by omega, lst_per h, lst_per h, h.perK, h.perK]
  constructor
  · rintro ⟨a, b, d⟩
    exact ⟨a, b, by omega⟩
  · rintro ⟨a, b, d⟩
    exact ⟨a, b, by omega⟩
theorem id_of_lnk (h : Psg c f) (x : Int) (hl : ∀ j : Nat, (j : Int) < c → Lnk f (x + j)) : IdL f := by
  have hc := h.pos
  have run : ∀ j : Nat, (j : Int) ≤ c → f (x + j) = f x + j := by
    intro j
    induction j with
    | zero => intro _; simp
    | succ j ih =>
      intro hj
      have h1 := ih (by omega)
      have h2 := (hl j (by omega)).2.2
      rw [show x + ((j + 1 : Nat) : Int) = x + j + 1 by omega, h2, h1]
      omega
  refine ⟨f x - x, fun z => ?_⟩
  have d := Int.emod_add_mul_ediv (z - x) c
  have m0 := Int.emod_nonneg (z - x) (show c ≠ 0 by omega)
  have m1 := Int.emod_lt_of_pos (z - x) (show 0 < c by omega)
  have r := run ((z - x) % c).toNat (by omega)
  rw [Int.toNat_of_nonneg m0] at r
  have p := h.perK ((z - x) / c) (x + (z - x) % c)
  have e : z = x + (z - x) % c + (z - x) / c * c := by
    rw [Int.mul_comm ((z - x) / c) c]
    omega
  rw [← e] at p
  omega
/-- each last start lies in such a row, if not all are linked -/
theorem run_at (h : Psg c f) (ni : ¬ IdL f) {x : Int} (hx : Lst f x) : ∃ r, RunM f r ∧ r.1 ≤ x ∧ x ≤ r.2.1 := by
  have hc := h.pos
  obtain ⟨j, hj, nj⟩ : ∃ j : Nat, (j : Int) < c ∧ ¬ Lnk f (x + j) := by
    apply Classical.byContradiction
    intro q
    exact ni (id_of_lnk h x fun j hj => Classical.byContradiction fun z => q ⟨j, hj, z⟩)
  obtain ⟨m, hm, ml⟩ := least (P := fun n => ¬ Lnk f (x + n)) j nj
  have back : ¬ Lnk f (x - ((c.toNat - j : Nat) : Int)) := by
    have e : x - ((c.toNat - j : Nat) : Int) = x + j + (-1) * c := by omega
    rw [e, lnk_per h]
    exact nj
  obtain ⟨n, hn, nl⟩ := least (P := fun n => ¬ Lnk f (x - 1 - n)) (c.toNat - j - 1) (by
    have : x - 1 - ((c.toNat - j - 1 : Nat) : Int) = x - ((c.toNat - j : Nat) : Int) := by omega
    show ¬ Lnk f (x - 1 - ((c.toNat - j - 1 : Nat) : Int))
    rw [this]
    exact back)
  have up : ∀ i : Nat, i ≤ m → Lst f (x + i) ∧ f (x + i) = f x + i := by
    intro i
    induction i with
    | zero => intro _; simpa using hx
    | succ i ih =>
      intro hi
      obtain ⟨a, b⟩ := ih (by omega)
      have q : Lnk f (x + i) := Classical.byContradiction fun z => by have := ml i z; omega
      rw [show x + ((i + 1 : Nat) : Int) = x + i + 1 by omega]
      exact ⟨q.2.1, by rw [q.2.2, b]; omega⟩
  have dn : ∀ i : Nat, i ≤ n → Lst f (x - i) ∧ f (x - i) = f x - i := by
    intro i
    induction i with
    | zero => intro _; simpa using hx
    | succ i ih =>
      intro hi
      obtain ⟨a, b⟩ := ih (by omega)
      have q : Lnk f (x - 1 - i) := Classical.byContradiction fun z => by have := nl i z; omega
      have e : x - 1 - (i : Int) + 1 = x - i := by omega
      obtain ⟨q1, q2, q3⟩ := q
      rw [e] at q3
      rw [show x - ((i + 1 : Nat) : Int) = x - 1 - i by omega]
      exact ⟨q1, by omega⟩
  have lo1 := dn n (Nat.le_refl _)
  have hi1 := up m (Nat.le_refl _)
  refine ⟨(x - n, x + m, f x - n), ⟨by simp only; omega, fun z a b => ?_, fun q => hn ?_, fun q => hm ?_⟩, by simp only; omega, by simp only; omega⟩
  · simp only at a b ⊢
    rcases Int.lt_or_le z x with l | l
    · have q := dn (x - z).toNat (by omega)
      rw [Int.toNat_of_nonneg (by omega), show x - (x - z) = z by omega] at q
      exact ⟨q.1, by omega⟩
    · have q := up (z - x).toNat (by omega)
      rw [Int.toNat_of_nonneg (by omega), show x + (z - x) = z by omega] at q
      exact ⟨q.1, by omega⟩
  · simp only at q
    rw [show x - (n : Int) - 1 = x - 1 - n by omega] at q
    refine ⟨q.1, ?_, ?_⟩
    · rw [show x - 1 - (n : Int) + 1 = x - n by omega]
      exact lo1.1
    · rw [show x - 1 - (n : Int) + 1 = x - n by omega]
      omega
  · simp only at q
    refine ⟨hi1.1, q.1, by omega⟩
/-- what the one form gives back -/
structure Norm (c : Int) (f : Int → Int) (rs : List Row) : Prop where
  val : Val c rs
  cov : Cov c rs f
  rng : ∀ r ∈ rs, 0 ≤ r.1 ∧ r.1 < c
theorem bef_of (h : Psg c f) {r s : Row} (a : ∀ x y, On r x y → Lst f x ∧ f x = y) (b : ∀ x y, On s x y → Lst f x ∧ f x = y) (hr : r.1 ≤ r.2.1) (hs : s.1 ≤ s.2.1) (l : r.2.1 < s.1) : Bef r s := by
  have h1 := a r.2.1 (r.2.2 + (r.2.1 - r.1)) ⟨hr, Int.le_refl _, rfl⟩
  have h2 := b s.1 s.2.2 ⟨Int.le_refl _, hs, by omega⟩
  have := lst_lt h h1.1 l
  exact ⟨l, by omega⟩
theorem exists_lst (h : Psg c f) : ∃ x, 0 ≤ x ∧ Lst f x := by
  obtain ⟨z, a, b, _⟩ := next h 0
  exact ⟨z, a, b⟩
theorem Canon.norm (h : Psg c f) {rs : List Row} (q : Canon c f rs) : Norm c f rs := by
  have hc := h.pos
  rcases q with ⟨t, h1, rfl⟩ | ⟨h1, h2, h3⟩
  · have l : ∀ x, Lst f x := fun x => by unfold Lst; rw [h1, h1]; omega
    refine ⟨⟨by simp, ?_, by simp, ?_⟩, ⟨?_, fun x hx => ⟨_, List.mem_singleton.mpr rfl, -(x / c), ?_⟩⟩, ?_⟩
    · intro r hr
      rw [List.mem_singleton] at hr
      subst hr
      simp only
      omega
    · intro r hr s hs
      rw [List.mem_singleton] at hr hs
      subst hr hs
      simp only [Bef, PM.mv]
      omega
    · intro r hr x y ho
      rw [List.mem_singleton] at hr
      subst hr
      simp only [On] at ho
      rw [h1]
      exact ⟨l x, by omega⟩
    · have d := Int.emod_add_mul_ediv x c
      have m0 := Int.emod_nonneg x (show c ≠ 0 by omega)
      have m1 := Int.emod_lt_of_pos x (show 0 < c by omega)
      rw [Int.neg_mul, Int.mul_comm (x / c) c, h1]
      simp only [On]
      omega
    · intro r hr
      rw [List.mem_singleton] at hr
      subst hr
      simp only
      omega
  · have on : ∀ r ∈ rs, ∀ x y, On r x y → Lst f x ∧ f x = y := fun r hr x y ho => by
      have q := ((h3 r).mp hr).2.2.on x ho.1 ho.2.1
      exact ⟨q.1, by rw [q.2]; exact ho.2.2.symm⟩
    have ex : ∀ x, Lst f x → ∃ r ∈ rs, ∃ k : Int, On r (x + k * c) (f x + k * c) := fun x hx => by
      obtain ⟨r, m, a, b⟩ := run_at h h1 hx
      have d := Int.emod_add_mul_ediv r.1 c
      have m0 := Int.emod_nonneg r.1 (show c ≠ 0 by omega)
      have m1 := Int.emod_lt_of_pos r.1 (show 0 < c by omega)
      have mm := m.mv h (-(r.1 / c))
      have e : -(r.1 / c) * c = -(c * (r.1 / c)) := by rw [Int.neg_mul, Int.mul_comm]
      have v := (m.on x a b).2
      refine ⟨_, (h3 _).mpr ⟨?_, ?_, mm⟩, -(r.1 / c), ?_⟩
      · simp only [PM.mv]; rw [e]; omega
      · simp only [PM.mv]; rw [e]; omega
      · simp only [PM.mv, On]; omega
    have ok : ∀ r ∈ rs, r.1 ≤ r.2.1 := fun r hr => ((h3 r).mp hr).2.2.le
    refine ⟨⟨?_, ok, ?_, ?_⟩, ⟨on, ex⟩, fun r hr => ⟨((h3 r).mp hr).1, ((h3 r).mp hr).2.1⟩⟩
    · obtain ⟨x, _, hx⟩ := exists_lst h
      obtain ⟨r, hr, _⟩ := ex x hx
      exact List.ne_nil_of_mem hr
    · refine h2.imp_of_mem fun {r s} hr hs l => ?_
      refine bef_of h (on r hr) (on s hs) (ok r hr) (ok s hs) ?_
      have mr := ((h3 r).mp hr).2.2
      have ms := ((h3 s).mp hs).2.2
      rcases Int.lt_or_le r.2.1 s.1 with q | q
      · exact q
      · have e := mr.same ms (x := s.1) (by omega) q (Int.le_refl _) ms.le
        subst e
        omega
    · intro r hr s hs
      have mr := ((h3 r).mp hr)
      have ms := ((h3 s).mp hs)
      have mm := ms.2.2.mv h 1
      rw [Int.one_mul] at mm
      refine bef_of h (on r hr) (fun x y ho => ?_) (ok r hr) mm.le ?_
      · have q := mm.on x ho.1 ho.2.1
        exact ⟨q.1, by rw [q.2]; exact ho.2.2.symm⟩
      · rcases Int.lt_or_le r.2.1 (PM.mv s c).1 with q | q
        · exact q
        · have e := mr.2.2.same mm (x := (PM.mv s c).1) (by simp only [PM.mv]; omega) q (Int.le_refl _) mm.le
          subst e
          simp only [PM.mv] at mr
          omega
theorem Canon.inj (h : Psg c f) (h' : Psg c g) {rs : List Row} (q : Canon c f rs) (q' : Canon c g rs) (x : Int) : f x = g x := cov_same h h' (q.norm h).cov (q'.norm h').cov x
end
end PM
set_option Elab.async false
set_option linter.all false
set_option autoImplicit false
/-! PMC: rows joined, rows brought to the one form -/
namespace PM
def lnkR (a b : Row) : Bool := decide (b.1 = a.2.1 + 1) && decide (b.2.2 = a.2.2 + b.1 - a.1)
def joinInto (found : List Row) (row : Row) : List Row := match found.getLast? with
  | some l => if lnkR l row = true then found.dropLast ++ [(l.1, row.2.1, l.2.2)] else found ++ [row]
  | none => [row]
def join (rows : List Row) : List Row := rows.foldl joinInto []
theorem joinInto_nil (row : Row) : joinInto [] row = [row] := rfl
theorem joinInto_snoc (fs : List Row) (l row : Row) : joinInto (fs ++ [l]) row = if lnkR l row = true then fs ++ [(l.1, row.2.1, l.2.2)] else fs ++ [l] ++ [row] := by
  unfold joinInto
  rw [List.getLast?_concat]
  simp
theorem join_snoc (rows : List Row) (row : Row) : join (rows ++ [row]) = joinInto (join rows) row := by
  unfold join
  rw [List.foldl_append]
  rfl
def NoLnk (fs : List Row) : Prop := ∀ a ∈ fs, ∀ b ∈ fs, ¬ (b.1 = a.2.1 + 1 ∧ b.2.2 = a.2.2 + b.1 - a.1)
structure Joined (rows fs : List Row) : Prop where
  nil : fs = [] ↔ rows = []
  ok : ∀ r ∈ fs, r.1 ≤ r.2.1
  bef : fs.Pairwise Bef
  sub : ∀ r ∈ fs, ∀ x y, On r x y → ∃ s ∈ rows, On s x y
  sup : ∀ s ∈ rows, ∀ x y, On s x y → ∃ r ∈ fs, On r x y
  no : NoLnk fs
  len : fs.length ≤ rows.length
theorem pw_snoc {α : Type} {R : α → α → Prop} {l : List α} {a : α} (h : l.Pairwise R) (q : ∀ x ∈ l, R x a) : (l ++ [a]).Pairwise R :=
  List.pairwise_append.mpr ⟨h, by simp, fun x hx y hy => by rw [List.mem_singleton] at hy; exact hy ▸ q x hx⟩
theorem joined_of : ∀ {rows : List Row}, (∀ r ∈ rows, r.1 ≤ r.2.1) → rows.Pairwise Bef → Joined rows (join rows) := by
  intro rows
  generalize hn : rows.length = n
  induction n generalizing rows with
  | zero =>
    intro _ _
    have : rows = [] := List.length_eq_zero_iff.mp hn
    subst this
    exact ⟨Iff.rfl, fun r h => by simp [join] at h, by simp [join], fun r h => by simp [join] at h, fun r h => by simp at h, fun r h => by simp [join] at h, by simp [join]⟩
  | succ n ih =>
    intro ok bef
    obtain ⟨front, row, rfl⟩ : ∃ front row, rows = front ++ [row] := by
      have : rows ≠ [] := fun z => by rw [z] at hn; cases hn
      exact ⟨rows.dropLast, rows.getLast this, (List.dropLast_concat_getLast this).symm⟩
    obtain ⟨b1, b2, b3⟩ := List.pairwise_append.mp bef
    have J := ih (rows := front) (by simpa using hn) (fun r hr => ok r (List.mem_append_left _ hr)) b1
    have okr := ok row (by simp)
    have fr : ∀ s ∈ front, Bef s row := fun s hs => b3 s hs row (by simp)
    have jr : ∀ r ∈ join front, Bef r row := fun r hr => by
      have o := J.ok r hr
      obtain ⟨s, hs, q⟩ := J.sub r hr r.2.1 _ ⟨o, Int.le_refl _, rfl⟩
      have w := fr s hs
      have os := ok s (List.mem_append_left _ hs)
      simp only [Bef, On] at w q ⊢
      omega
    rw [join_snoc]
    cases hf : (join front) with
    | nil =>
      have e : front = [] := J.nil.mp hf
      subst e
      rw [joinInto_nil]
      refine ⟨by simp, fun r hr => ?_, by simp, fun r hr x y ho => ⟨r, by simpa using hr, ho⟩, fun r hr x y ho => ⟨r, by simpa using hr, ho⟩, ?_, by simp⟩
      · rw [List.mem_singleton] at hr
        subst hr
        exact okr
      · intro a ha b hb
        rw [List.mem_singleton] at ha hb
        subst ha hb
        omega
    | cons f0 fr0 =>
      have nef : join front ≠ [] := by rw [hf]; simp
      obtain ⟨fs, l, e⟩ : ∃ fs l, join front = fs ++ [l] := ⟨_, _, (List.dropLast_concat_getLast nef).symm⟩
      rw [← hf, e, joinInto_snoc]
      rw [e] at J jr
      obtain ⟨p1, p2, p3⟩ := List.pairwise_append.mp J.bef
      have ol := J.ok l (by simp)
      have lr := jr l (by simp)
      have fl : ∀ s ∈ fs, Bef s l := fun s hs => p3 s hs l (by simp)
      have lj := J.len
      by_cases q : lnkR l row = true
      · rw [if_pos q]
        simp only [lnkR, Bool.and_eq_true, decide_eq_true_eq] at q
        obtain ⟨q1, q2⟩ := q
        refine ⟨by simp, fun r hr => ?_, pw_snoc p1 fun s hs => ?_, fun r hr x y ho => ?_, fun s hs x y ho => ?_, fun a ha b hb => ?_, by simp at lj ⊢; omega⟩
        · rcases List.mem_append.mp hr with hr | hr
          · exact J.ok r (List.mem_append_left _ hr)
          · rw [List.mem_singleton] at hr
            subst hr
            simp only
            omega
        · have := fl s hs
          simp only [Bef] at this ⊢
          omega
        · rcases List.mem_append.mp hr with hr | hr
          · obtain ⟨s, hs, o⟩ := J.sub r (List.mem_append_left _ hr) x y ho
            exact ⟨s, List.mem_append_left _ hs, o⟩
          · rw [List.mem_singleton] at hr
            subst hr
            simp only [On] at ho
            by_cases z : x ≤ l.2.1
            · obtain ⟨s, hs, o⟩ := J.sub l (by simp) x y ⟨by omega, z, by omega⟩
              exact ⟨s, List.mem_append_left _ hs, o⟩
            · exact ⟨row, by simp, by omega, by omega, by omega⟩
        · rcases List.mem_append.mp hs with hs | hs
          · obtain ⟨r, hr, o⟩ := J.sup s hs x y ho
            rcases List.mem_append.mp hr with hr | hr
            · exact ⟨r, List.mem_append_left _ hr, o⟩
            · rw [List.mem_singleton] at hr
              subst hr
              refine ⟨_, List.mem_append_right _ (List.mem_singleton.mpr rfl), ?_⟩
              simp only [On] at o ⊢
              omega
          · rw [List.mem_singleton] at hs
            subst hs
            refine ⟨_, List.mem_append_right _ (List.mem_singleton.mpr rfl), ?_⟩
            simp only [On] at ho ⊢
            omega
        · rcases List.mem_append.mp ha with ha | ha <;> rcases List.mem_append.mp hb with hb | hb
          · exact J.no a (List.mem_append_left _ ha) b (List.mem_append_left _ hb)
          · rw [List.mem_singleton] at hb
            subst hb
            have := J.no a (List.mem_append_left _ ha) l (by simp)
            simp only
            omega
          · rw [List.mem_singleton] at ha
            subst ha
            have := fl b hb
            have ob := J.ok b (List.mem_append_left _ hb)
            simp only [Bef] at this ⊢
            omega
          · rw [List.mem_singleton] at ha hb
            subst ha hb
            simp only
            omega
      · rw [if_neg q]
        have q' : ¬ (row.1 = l.2.1 + 1 ∧ row.2.2 = l.2.2 + row.1 - l.1) := by simpa [lnkR] using q
        refine ⟨by simp, fun r hr => ?_, pw_snoc J.bef jr, fun r hr x y ho => ?_, fun s hs x y ho => ?_, fun a ha b hb => ?_, by simp at lj ⊢; omega⟩
        · rcases List.mem_append.mp hr with hr | hr
          · exact J.ok r hr
          · rw [List.mem_singleton] at hr
            subst hr
            exact okr
        · rcases List.mem_append.mp hr with hr | hr
          · obtain ⟨s, hs, o⟩ := J.sub r hr x y ho
            exact ⟨s, List.mem_append_left _ hs, o⟩
          · rw [List.mem_singleton] at hr
            subst hr
            exact ⟨r, by simp, ho⟩
        · rcases List.mem_append.mp hs with hs | hs
          · obtain ⟨r, hr, o⟩ := J.sup s hs x y ho
            exact ⟨r, List.mem_append_left _ hr, o⟩
          · rw [List.mem_singleton] at hs
            subst hs
            exact ⟨s, List.mem_append_right _ (List.mem_singleton.mpr rfl), ho⟩
        · rcases List.mem_append.mp ha with ha1 | ha1 <;> rcases List.mem_append.mp hb with hb1 | hb1
          · exact J.no a ha1 b hb1
          · have eb := List.mem_singleton.mp hb1
            rcases List.mem_append.mp ha1 with ha2 | ha2
            · have := fl a ha2
              simp only [Bef] at this lr
              rw [eb]
              omega
            · rw [List.mem_singleton.mp ha2, eb]
              exact q'
          · have ea := List.mem_singleton.mp ha1
            have := jr b hb1
            have ob := J.ok b hb1
            simp only [Bef] at this
            rw [ea]
            omega
          · rw [List.mem_singleton.mp ha1, List.mem_singleton.mp hb1]
            omega
/-- rows of last starts, one of a cycle each, joined -/
structure Rows (c : Int) (f : Int → Int) (fs : List Row) : Prop where
  val : Val c fs
  cov : Cov c fs f
  no : NoLnk fs
theorem rows_join {c : Int} {f : Int → Int} {rows : List Row} (v : Val c rows) (q : Cov c rows f) : Rows c f (join rows) := by
  have J := joined_of v.ok v.bef
  refine ⟨⟨fun z => v.ne (J.nil.mp z), J.ok, J.bef, fun r hr s hs => ?_⟩, ⟨fun r hr x y ho => ?_, fun x hx => ?_⟩, J.no⟩
  · have o := J.ok r hr
    have o' := J.ok s hs
    obtain ⟨r', hr', q1⟩ := J.sub r hr r.2.1 _ ⟨o, Int.le_refl _, rfl⟩
    obtain ⟨s', hs', q2⟩ := J.sub s hs s.1 s.2.2 ⟨Int.le_refl _, o', by omega⟩
    have w := v.wrap r' hr' s' hs'
    simp only [Bef, mv, On] at w q1 q2 ⊢
    omega
  · obtain ⟨s, hs, o⟩ := J.sub r hr x y ho
    exact q.on s hs x y o
  · obtain ⟨s, hs, k, o⟩ := q.ex x hx
    obtain ⟨r, hr, o'⟩ := J.sup s hs _ _ o
    exact ⟨r, hr, k, o'⟩
end PM
set_option Elab.async false
set_option linter.all false
set_option autoImplicit false
/-! PMD: the one form found -/
namespace PM
def Fol (c : Int) (h l : Row) : Prop := h.1 + c = l.2.1 + 1 ∧ h.2.2 + c = l.2.2 + l.2.1 + 1 - l.1
def nrm (c : Int) (r : Row) : Row := mv r (0 - r.1 / c * c)
section
variable {c : Int} {f : Int → Int} {fs : List Row}
theorem miss_lo (h : Psg c f) (R : Rows c f fs) {m : Row} (hm : m ∈ fs) (q : Lst f (m.1 - 1) ∧ f (m.1 - 1) = m.2.2 - 1) : ∃ s ∈ fs, Fol c m s ∧ (∀ t ∈ fs, t = m ∨ Bef m t) ∧ ∀ t ∈ fs, t = s ∨ Bef t s := by
  have hc := h.pos
  obtain ⟨s, hs, k, o⟩ := R.cov.ex _ q.1
  rw [q.2] at o
  simp only [On] at o
  have om := R.val.ok m hm
  have os := R.val.ok s hs
  have w1 := R.val.wrap m hm s hs
  have w2 := R.val.wrap s hs m hm
  simp only [Bef, mv] at w1 w2
  rcases Int.lt_trichotomy k 0 with l | l | l
  · have := mul_step (show k + 1 ≤ 0 by omega) (show 0 ≤ c by omega)
    omega
  · subst l
    rcases pw_cases R.val.bef hm hs with rfl | b | b
    · omega
    · simp only [Bef] at b
      omega
    · simp only [Bef] at b
      exact absurd (by omega) (R.no s hs m hm)
  · have k1 : k * c = c := by
      have a := mul_step (show 0 + 1 ≤ k by omega) (show 0 ≤ c by omega)
      by_cases z : k = 1
      · rw [z, Int.one_mul]
      · have := mul_step (show 1 + 1 ≤ k by omega) (show 0 ≤ c by omega)
        omega
    rw [k1] at o
    refine ⟨s, hs, ⟨by omega, by omega⟩, fun t ht => ?_, fun t ht => ?_⟩
    · rcases pw_cases R.val.bef hm ht with e | b | b
      · exact .inl e.symm
      · exact .inr b
      · have w := R.val.wrap s hs t ht
        have ot := R.val.ok t ht
        simp only [Bef, mv] at w b
        omega
    · rcases pw_cases R.val.bef hs ht with e | b | b
      · exact .inl e.symm
      · have w := R.val.wrap t ht m hm
        have ot := R.val.ok t ht
        simp only [Bef, mv] at w b
        omega
      · exact .inr b
theorem miss_hi (h : Psg c f) (R : Rows c f fs) {m : Row} (hm : m ∈ fs) (q : Lst f (m.2.1 + 1) ∧ f (m.2.1 + 1) = m.2.2 + (m.2.1 - m.1) + 1) : ∃ s ∈ fs, Fol c s m ∧ (∀ t ∈ fs, t = s ∨ Bef s t) ∧ ∀ t ∈ fs, t = m ∨ Bef t m := by
  have hc := h.pos
  obtain ⟨s, hs, k, o⟩ := R.cov.ex _ q.1
  rw [q.2] at o
  simp only [On] at o
  have om := R.val.ok m hm
  have os := R.val.ok s hs
  have w1 := R.val.wrap m hm s hs
  have w2 := R.val.wrap s hs m hm
  simp only [Bef, mv] at w1 w2
  rcases Int.lt_trichotomy k 0 with l | l | l
  · have k1 : k * c = -c := by
      have a := mul_step (show k + 1 ≤ 0 by omega) (show 0 ≤ c by omega)
      by_cases z : k = -1
      · rw [z]; omega
      · have b := mul_step (show k + 1 ≤ -1 by omega) (show 0 ≤ c by omega)
        omega
    rw [k1] at o
    refine ⟨s, hs, ⟨by omega, by omega⟩, fun t ht => ?_, fun t ht => ?_⟩
    · rcases pw_cases R.val.bef hs ht with e | b | b
      · exact .inl e.symm
      · exact .inr b
      · have w := R.val.wrap m hm t ht
        have ot := R.val.ok t ht
        simp only [Bef, mv] at w b
        omega
    · rcases pw_cases R.val.bef hm ht with e | b | b
      · exact .inl e.symm
      · have w := R.val.wrap t ht s hs
        have ot := R.val.ok t ht
        simp only [Bef, mv] at w b
        omega
      · exact .inr b
  · subst l
    rcases pw_cases R.val.bef hm hs with rfl | b | b
    · omega
    · simp only [Bef] at b
      exact absurd (by omega) (R.no m hm s hs)
    · simp only [Bef] at b
      omega
  · have := mul_step (show 0 + 1 ≤ k by omega) (show 0 ≤ c by omega)
    omega
theorem nrm_eq {r : Row} (hc : 1 ≤ c) : (nrm c r).1 = r.1 % c ∧ nrm c r = mv r (-(r.1 / c) * c) := by
  have d := Int.emod_add_mul_ediv r.1 c
  have e : r.1 / c * c = c * (r.1 / c) := Int.mul_comm _ _
  refine ⟨by simp only [nrm, mv]; omega, ?_⟩
  simp only [nrm, mv]
  rw [Int.neg_mul]
  rw [show (0 : Int) - r.1 / c * c = -(r.1 / c * c) by omega]
/-- from the longest rows to the one form -/
theorem canon_of (h : Psg c f) {qs : List Row} (ne : qs ≠ []) (hq : ∀ r ∈ qs, RunM f r) (cov : ∀ x, Lst f x → ∃ r ∈ qs, ∃ k : Int, r.1 ≤ x + k * c ∧ x + k * c ≤ r.2.1) (pw : qs.Pairwise fun r s => r.1 < s.1 ∧ s.1 < r.1 + c)
    {out : List Row} (p : out.Perm (qs.map (nrm c))) (st : out.Pairwise fun a b => a.1 ≤ b.1) : Canon c f out := by
  have hc := h.pos
  have mem : ∀ r, r ∈ out ↔ ∃ s ∈ qs, nrm c s = r := fun r => by rw [p.mem_iff, List.mem_map]
  have prop : ∀ r ∈ out, 0 ≤ r.1 ∧ r.1 < c ∧ RunM f r := fun r hr => by
    obtain ⟨s, hs, rfl⟩ := (mem r).mp hr
    have e := nrm_eq (r := s) hc
    refine ⟨by rw [e.1]; exact Int.emod_nonneg _ (by omega), by rw [e.1]; exact Int.emod_lt_of_pos _ (by omega), ?_⟩
    rw [e.2]
    exact (hq s hs).mv h _
  obtain ⟨r0, hr0⟩ := List.exists_mem_of_ne_nil _ ne
  refine .inr ⟨not_id (hq r0 hr0), ?_, fun r => ⟨prop r, fun ⟨a, b, m⟩ => ?_⟩⟩
  · have nd : (qs.map (nrm c)).Nodup := by
      unfold List.Nodup
      rw [List.pairwise_map]
      refine pw.imp fun {r s} l e => ?_
      have e1 := (nrm_eq (r := r) hc).1
      have e2 := (nrm_eq (r := s) hc).1
      rw [e] at e1
      have m : (s.1 - r.1) % c = 0 := Int.emod_eq_emod_iff_emod_sub_eq_zero.mp (e2.symm.trans e1)
      have := Int.emod_eq_of_lt (show 0 ≤ s.1 - r.1 by omega) (show s.1 - r.1 < c by omega)
      omega
    have nd2 : out.Nodup := p.nodup_iff.mpr nd
    refine (List.pairwise_and_iff.mpr ⟨st, nd2⟩).imp_of_mem fun {r s} hr hs l => ?_
    rcases Int.lt_or_eq_of_le l.1 with q | q
    · exact q
    · have mr := (prop r hr).2.2
      have ms := (prop s hs).2.2
      exact absurd (mr.same ms (x := r.1) (Int.le_refl _) mr.le (by omega) (by have := ms.le; omega)) l.2
  · obtain ⟨s, hs, k, o1, o2⟩ := cov r.1 (m.on r.1 (Int.le_refl _) m.le).1
    have m2 := (hq s hs).mv h (-k)
    have e : r = mv s (-k * c) := m.same m2 (x := r.1) (Int.le_refl _) m.le (by simp only [mv]; rw [Int.neg_mul]; omega) (by simp only [mv]; rw [Int.neg_mul]; omega)
    refine (mem r).mpr ⟨s, hs, ?_⟩
    have e1 := nrm_eq (r := s) hc
    rw [e1.2, e]
    have e3 : r.1 = s.1 + -k * c := by rw [e]; rfl
    have : s.1 / c = k := by
      have := Int.emod_add_mul_ediv s.1 c
      have d1 : s.1 = r.1 + k * c := by rw [Int.neg_mul] at e3; omega
      rw [d1, Int.add_mul_ediv_right _ _ (by omega), Int.ediv_eq_zero_of_lt a b]
      omega
    rw [this]
theorem row_of_on {m : Row} (R : Rows c f fs) (hm : m ∈ fs) (x : Int) (a : m.1 ≤ x) (b : x ≤ m.2.1) : Lst f x ∧ f x = m.2.2 + (x - m.1) := R.cov.on m hm x _ ⟨a, b, rfl⟩
theorem normal_plain (h : Psg c f) (R : Rows c f fs) {hd lt : Row} (e1 : fs.head? = some hd) (e2 : fs.getLast? = some lt) (nf : ¬ Fol c hd lt) {out : List Row} (p : out.Perm (fs.map (nrm c))) (st : out.Pairwise fun a b => a.1 ≤ b.1) : Canon c f out := by
  have hc := h.pos
  have mh : hd ∈ fs := List.mem_of_mem_head? (by rw [e1]; rfl)
  have ml : lt ∈ fs := List.mem_of_getLast? e2
  have headU : ∀ m ∈ fs, (∀ t ∈ fs, t = m ∨ Bef m t) → m = hd := fun m hm q => by
    cases fs with
    | nil => cases e1
    | cons a l =>
      cases e1
      rcases List.mem_cons.mp hm with z | z
      · exact z
      · have b := (List.pairwise_cons.mp R.val.bef).1 m z
        rcases q hd List.mem_cons_self with y | y
        · exact y.symm
        · have := R.val.ok hd mh
          have := R.val.ok m hm
          simp only [Bef] at b y
          omega
  have lastU : ∀ m ∈ fs, (∀ t ∈ fs, t = m ∨ Bef t m) → m = lt := fun m hm q => by
    have ne : fs ≠ [] := R.val.ne
    have ge : fs = fs.dropLast ++ [lt] := by
      have := List.dropLast_concat_getLast ne
      rw [List.getLast?_eq_some_getLast ne] at e2
      rw [Option.some.inj e2] at this
      exact this.symm
    have bw := R.val.bef
    rw [ge] at bw hm
    rcases List.mem_append.mp hm with z | z
    · have b := (List.pairwise_append.mp bw).2.2 m z lt (by simp)
      rcases q lt ml with y | y
      · exact y.symm
      · have := R.val.ok lt ml
        have := R.val.ok m (by rw [ge]; exact hm)
        simp only [Bef] at b y
        omega
    · exact List.mem_singleton.mp z
  have run : ∀ m ∈ fs, RunM f m := fun m hm => ⟨R.val.ok m hm, row_of_on R hm, fun q => by
    obtain ⟨s, hs, fo, a, b⟩ := miss_lo h R hm q
    exact nf (headU m hm a ▸ lastU s hs b ▸ fo), fun q => by
    obtain ⟨s, hs, fo, a, b⟩ := miss_hi h R hm q
    exact nf (headU s hs a ▸ lastU m hm b ▸ fo)⟩
  refine canon_of h R.val.ne run (fun x hx => ?_) (R.val.bef.imp_of_mem fun {r s} hr hs b => ?_) p st
  · obtain ⟨r, hr, k, o⟩ := R.cov.ex x hx
    exact ⟨r, hr, k, o.1, o.2.1⟩
  · have w := R.val.wrap s hs r hr
    have := R.val.ok r hr
    have := R.val.ok s hs
    simp only [Bef, mv] at b w
    omega
theorem normal_one (h : Psg c f) {r : Row} (R : Rows c f [r]) (fo : Fol c r r) : Canon c f [(0, c - 1, r.2.2 - r.1)] := by
  have hc := h.pos
  refine .inl ⟨r.2.2 - r.1, fun x => ?_, rfl⟩
  have d := Int.emod_add_mul_ediv (x - r.1) c
  have m0 := Int.emod_nonneg (x - r.1) (show c ≠ 0 by omega)
  have m1 := Int.emod_lt_of_pos (x - r.1) (show 0 < c by omega)
  have q := row_of_on R (List.mem_singleton.mpr rfl) (r.1 + (x - r.1) % c) (by omega) (by have := fo.1; omega)
  have p := h.perK ((x - r.1) / c) (r.1 + (x - r.1) % c)
  have e : x = r.1 + (x - r.1) % c + (x - r.1) / c * c := by
    rw [Int.mul_comm ((x - r.1) / c) c]
    omega
  rw [← e] at p
  omega
theorem normal_wrap (h : Psg c f) {hd lt : Row} {mid : List Row} (R : Rows c f (hd :: mid ++ [lt])) (fo : Fol c hd lt) {out : List Row} (p : out.Perm (((lt.1 - c, hd.2.1, lt.2.2 - c) :: mid).map (nrm c))) (st : out.Pairwise fun a b => a.1 ≤ b.1) : Canon c f out := by
  have hc := h.pos
  have mh : hd ∈ hd :: mid ++ [lt] := by simp
  have ml : lt ∈ hd :: mid ++ [lt] := by simp
  have mm : ∀ m ∈ mid, m ∈ hd :: mid ++ [lt] := fun m hm => by simp [hm]
  obtain ⟨p1, p2, p3⟩ := List.pairwise_append.mp R.val.bef
  obtain ⟨q1, q2⟩ := List.pairwise_cons.mp p1
  have hb : ∀ m ∈ mid, Bef hd m := q1
  have lb : ∀ m ∈ mid, Bef m lt := fun m hm => p3 m (List.mem_cons_of_mem _ hm) lt (by simp)
  have hl : Bef hd lt := p3 hd List.mem_cons_self lt (by simp)
  have oh := R.val.ok hd mh
  have ol := R.val.ok lt ml
  have f1 := fo.1
  have f2 := fo.2
  have notH : ∀ m ∈ hd :: mid ++ [lt], (∀ t ∈ hd :: mid ++ [lt], t = m ∨ Bef m t) → m = hd := fun m hm q => by
    rcases q hd mh with e | b
    · exact e.symm
    · have om := R.val.ok m hm
      rcases pw_cases R.val.bef mh hm with e | b' | b'
      · exact e.symm
      · simp only [Bef] at b b'
        omega
      · exfalso
        rcases List.mem_append.mp hm with z | z
        · rcases List.mem_cons.mp z with z | z
          · subst z
            simp only [Bef] at b
            omega
          · have := hb m z
            simp only [Bef] at this b
            omega
        · rw [List.mem_singleton.mp z] at b
          simp only [Bef] at hl b
          omega
  have notL : ∀ m ∈ hd :: mid ++ [lt], (∀ t ∈ hd :: mid ++ [lt], t = m ∨ Bef t m) → m = lt := fun m hm q => by
    rcases q lt ml with e | b
    · exact e.symm
    · exfalso
      have om := R.val.ok m hm
      rcases List.mem_append.mp hm with z | z
      · rcases List.mem_cons.mp z with z | z
        · subst z
          simp only [Bef] at b hl
          omega
        · have := lb m z
          simp only [Bef] at this b
          omega
      · rw [List.mem_singleton.mp z] at b
        simp only [Bef] at b
        omega
  have midR : ∀ m ∈ mid, RunM f m := fun m hm => ⟨R.val.ok m (mm m hm), row_of_on R (mm m hm), fun q => by
    obtain ⟨s, hs, _, a, b⟩ := miss_lo h R (mm m hm) q
    have e := notH m (mm m hm) a
    have := hb m hm
    rw [e] at this
    simp only [Bef] at this
    omega, fun q => by
    obtain ⟨s, hs, _, a, b⟩ := miss_hi h R (mm m hm) q
    have e := notL m (mm m hm) b
    have := lb m hm
    rw [e] at this
    simp only [Bef] at this
    omega⟩
  have jn : RunM f (lt.1 - c, hd.2.1, lt.2.2 - c) := by
    refine ⟨by simp only [Bef] at hl; simp only; omega, fun x a b => ?_, fun q => ?_, fun q => ?_⟩
    · simp only at a b ⊢
      by_cases z : hd.1 ≤ x
      · have := row_of_on R mh x z b
        exact ⟨this.1, by omega⟩
      · have := row_of_on R ml (x + c) (by omega) (by omega)
        have e1 := lst_per h 1 x
        have e2 := h.per x
        rw [Int.one_mul] at e1
        exact ⟨e1.mp this.1, by omega⟩
    · simp only at q
      have e1 := lst_per h 1 (lt.1 - c - 1)
      have e2 := h.per (lt.1 - c - 1)
      rw [Int.one_mul] at e1
      rw [show lt.1 - c - 1 + c = lt.1 - 1 by omega] at e1 e2
      obtain ⟨s, hs, _, a, b⟩ := miss_lo h R ml ⟨e1.mpr q.1, by omega⟩
      have e := notH lt ml a
      rw [e] at hl
      simp only [Bef] at hl
      omega
    · simp only at q
      obtain ⟨s, hs, _, a, b⟩ := miss_hi h R mh ⟨q.1, by omega⟩
      have e := notL hd mh b
      rw [e] at hl
      simp only [Bef] at hl
      omega
  refine canon_of h (by simp) (fun r hr => ?_) (fun x hx => ?_) (List.pairwise_cons.mpr ⟨fun m hm => ?_, q2.imp_of_mem fun {r s} hr hs b => ?_⟩) p st
  · rcases List.mem_cons.mp hr with e | z
    · rw [e]; exact jn
    · exact midR r z
  · obtain ⟨r, hr, k, o⟩ := R.cov.ex x hx
    simp only [On] at o
    rcases List.mem_append.mp hr with z | z
    · rcases List.mem_cons.mp z with z | z
      · subst z
        refine ⟨_, List.mem_cons_self, k, ?_, o.2.1⟩
        simp only [Bef] at hl
        simp only
        omega
      · exact ⟨r, List.mem_cons_of_mem _ z, k, o.1, o.2.1⟩
    · have z := List.mem_singleton.mp z
      subst z
      refine ⟨_, List.mem_cons_self, k - 1, ?_, ?_⟩
      · simp only
        rw [Int.sub_mul, Int.one_mul]
        omega
      · simp only
        rw [Int.sub_mul, Int.one_mul]
        omega
  · have b1 := hb m hm
    have b2 := lb m hm
    have w := R.val.ok m (mm m hm)
    simp only [Bef] at b1 b2 hl ⊢
    omega
  · have w := R.val.wrap s (mm s hs) r (mm r hr)
    have := R.val.ok r (mm r hr)
    have := R.val.ok s (mm s hs)
    simp only [Bef, mv] at b w
    omega
end
end PM
set_option Elab.async false
set_option linter.all false
set_option autoImplicit false
/-! PME: the row of a start; rows in a stretch; one behind the other -/
namespace PM
section
variable {c : Int} {f g h : Int → Int} {rs : List Row}
/-- the row on which a start arrives -/
structure At (f : Int → Int) (r : Row) (x : Int) : Prop where
  ok : r.1 ≤ r.2.1
  le : x ≤ r.2.1
  on : ∀ z y, On r z y → Lst f z ∧ f z = y
  no : ∀ y, x ≤ y → y < r.1 → ¬ Lst f y
theorem At.mv (p : Psg c f) {r : Row} {x : Int} (a : At f r x) (k : Int) : At f (mv r (k * c)) (x + k * c) := by
  have := a.ok
  have := a.le
  refine ⟨by simp only [PM.mv]; omega, by simp only [PM.mv]; omega, fun z y o => ?_, fun y h1 h2 => ?_⟩
  · simp only [On, PM.mv] at o
    have q := a.on (z - k * c) (y - k * c) ⟨by omega, by omega, by omega⟩
    have e := p.perK k (z - k * c)
    have l := lst_per p k (z - k * c)
    rw [show z - k * c + k * c = z by omega] at e l
    exact ⟨l.mpr q.1, by omega⟩
  · simp only [PM.mv] at h2
    have l := lst_per p k (y - k * c)
    rw [show y - k * c + k * c = y by omega] at l
    rw [l]
    exact a.no _ (by omega) (by omega)
theorem At.val (p : Psg c f) {r : Row} {x : Int} (a : At f r x) : f x = r.2.2 + max 0 (x - r.1) := by
  have ok := a.ok
  have le := a.le
  by_cases q : r.1 ≤ x
  · have := (a.on x _ ⟨q, le, rfl⟩).2
    omega
  · obtain ⟨z, h1, h2, h3, h4⟩ := next p x
    have e : z = r.1 := next_uniq (f := f) h1 h2 h4 (by omega) (a.on r.1 _ ⟨Int.le_refl _, ok, rfl⟩).1 fun y l1 l2 => a.no y l1 l2
    have := (a.on r.1 _ ⟨Int.le_refl _, ok, rfl⟩).2
    rw [e] at h3
    omega
theorem At.lst {r : Row} {x : Int} (a : At f r x) : r.1 ≤ x ↔ Lst f x := by
  constructor
  · intro q
    exact (a.on x _ ⟨q, a.le, rfl⟩).1
  · intro q
    apply Classical.byContradiction
    intro z
    exact a.no x (Int.le_refl _) (by omega) q
theorem Norm.sorted (n : Norm c f rs) {i j : Nat} {r s : Row} (hi : rs[i]? = some r) (hj : rs[j]? = some s) (l : i < j) : Bef r s := by
  obtain ⟨h1, rfl⟩ := List.getElem?_eq_some_iff.mp hi
  obtain ⟨h2, rfl⟩ := List.getElem?_eq_some_iff.mp hj
  exact (List.pairwise_iff_getElem.mp n.val.bef) i j h1 h2 l
theorem Norm.lastMost (n : Norm c f rs) {rl r : Row} (e : rs.getLast? = some rl) (hr : r ∈ rs) : r.2.1 ≤ rl.2.1 := by
  obtain ⟨j, hj⟩ := List.getElem?_of_mem hr
  have hl : rs[rs.length - 1]? = some rl := by rw [← e, List.getLast?_eq_getElem?]
  have := (List.getElem?_eq_some_iff.mp hj).1
  by_cases q : j = rs.length - 1
  · rw [q, hl] at hj
    cases hj
    omega
  · have b := n.sorted hj hl (by omega)
    have := n.val.ok rl (List.mem_of_getElem? hl)
    simp only [Bef] at b
    omega
/-! ### rows that tell the last starts of a stretch -/
structure Btw (f : Int → Int) (lo hi : Int) (F : List Row) : Prop where
  ok : ∀ r ∈ F, r.1 ≤ r.2.1
  on : ∀ r ∈ F, ∀ x y, On r x y → Lst f x ∧ f x = y
  win : ∀ r ∈ F, lo ≤ r.1 ∧ r.2.1 ≤ hi
  ex : ∀ x, lo ≤ x → x ≤ hi → Lst f x → ∃ r ∈ F, r.1 ≤ x ∧ x ≤ r.2.1
  ord : F.Pairwise fun r s => r.2.1 < s.1
theorem Btw.nil {lo hi : Int} (l : ∀ x, lo ≤ x → x ≤ hi → ¬ Lst f x) : Btw f lo hi [] := ⟨by simp, by simp, by simp, fun x a b q => absurd q (l x a b), by simp⟩
theorem Btw.app {lo m m' hi : Int} {A B : List Row} (a : Btw f lo m A) (b : Btw f m' hi B) (e : m' = m + 1) (l1 : lo ≤ m + 1) (l2 : m ≤ hi) : Btw f lo hi (A ++ B) := by
  subst e
  refine ⟨fun r hr => ?_, fun r hr => ?_, fun r hr => ?_, fun x h1 h2 q => ?_, List.pairwise_append.mpr ⟨a.ord, b.ord, fun r hr s hs => ?_⟩⟩
  · rcases List.mem_append.mp hr with z | z
    · exact a.ok r z
    · exact b.ok r z
  · rcases List.mem_append.mp hr with z | z
    · exact a.on r z
    · exact b.on r z
  · rcases List.mem_append.mp hr with z | z
    · have := a.win r z
      omega
    · have := b.win r z
      omega
  · rcases Int.lt_or_le m x with z | z
    · obtain ⟨r, hr, q⟩ := b.ex x (by omega) h2 q
      exact ⟨r, List.mem_append_right _ hr, q⟩
    · obtain ⟨r, hr, q⟩ := a.ex x h1 z q
      exact ⟨r, List.mem_append_left _ hr, q⟩
  · have := a.win r hr
    have := b.win s hs
    omega
theorem Btw.ext {lo hi hi' : Int} {A : List Row} (a : Btw f lo hi A) (l : ∀ x, hi < x → x ≤ hi' → ¬ Lst f x) (l2 : hi ≤ hi') : Btw f lo hi' A :=
  ⟨a.ok, a.on, fun r hr => by have := a.win r hr; omega, fun x h1 h2 q => by
    rcases Int.lt_or_le hi x with z | z
    · exact absurd q (l x z h2)
    · exact a.ex x h1 z q, a.ord⟩
theorem Btw.one {r : Row} (ok : r.1 ≤ r.2.1) (on : ∀ x y, On r x y → Lst f x ∧ f x = y) : Btw f r.1 r.2.1 [r] :=
  ⟨fun s hs => by rw [List.mem_singleton] at hs; subst hs; exact ok, fun s hs => by rw [List.mem_singleton] at hs; subst hs; exact on, fun s hs => by rw [List.mem_singleton] at hs; subst hs; omega, fun x a b _ => ⟨r, by simp, a, b⟩, by simp⟩
theorem Btw.done (p : Psg c f) {b : Int} {F : List Row} (a : Btw f b (b + c - 1) F) : Val c F ∧ Cov c F f := by
  have hc := p.pos
  have ex : ∀ x, Lst f x → ∃ r ∈ F, ∃ k : Int, On r (x + k * c) (f x + k * c) := fun x hx => by
    have d := Int.emod_add_mul_ediv (x - b) c
    have m0 := Int.emod_nonneg (x - b) (show c ≠ 0 by omega)
    have m1 := Int.emod_lt_of_pos (x - b) (show 0 < c by omega)
    have e : x + -((x - b) / c) * c = b + (x - b) % c := by
      rw [Int.neg_mul, Int.mul_comm]
      omega
    obtain ⟨r, hr, q1, q2⟩ := a.ex (x + -((x - b) / c) * c) (by omega) (by omega) ((lst_per p _ _).mpr hx)
    refine ⟨r, hr, -((x - b) / c), q1, q2, ?_⟩
    have := (a.on r hr _ _ ⟨q1, q2, rfl⟩).2
    rw [p.perK] at this
    omega
  refine ⟨⟨?_, a.ok, a.ord.imp_of_mem fun {r s} hr hs l => bef_of p (a.on r hr) (a.on s hs) (a.ok r hr) (a.ok s hs) l, fun r hr s hs => ?_⟩, a.on, ex⟩
  · obtain ⟨x, _, hx⟩ := exists_lst p
    obtain ⟨r, hr, _⟩ := ex x hx
    exact List.ne_nil_of_mem hr
  · have w1 := a.win r hr
    have w2 := a.win s hs
    have o := a.ok s hs
    have on' : ∀ x y, On (mv s c) x y → Lst f x ∧ f x = y := fun x y o => by
      simp only [On, mv] at o
      have q := a.on s hs (x - c) (y - c) ⟨by omega, by omega, by omega⟩
      have e := p.per (x - c)
      have l := lst_per p 1 (x - c)
      rw [Int.one_mul] at l
      rw [show x - c + c = x by omega] at e l
      exact ⟨l.mpr q.1, by omega⟩
    exact bef_of p (a.on r hr) on' (a.ok r hr) (by simp only [mv]; omega) (by simp only [mv]; omega)
end
end PM
set_option Elab.async false
set_option linter.all false
set_option autoImplicit false
/-! PMF: pieces of a cycle; the sooner one, both; the latest starts -/
namespace PM
/-- (first, last, value, rises) -/
abbrev Pc := Int × Int × Int × Int
structure PcOk (f : Int → Int) (p : Pc) : Prop where
  le : p.1 ≤ p.2.1
  sl : p.2.2.2 = 0 ∨ p.2.2.2 = 1
  val : ∀ x, p.1 ≤ x → x ≤ p.2.1 → f x = p.2.2.1 + p.2.2.2 * (x - p.1)
/-- pieces, one behind the other, from lo to hi -/
def Tile (lo hi : Int) : List Pc → Prop
  | [] => lo = hi + 1
  | p :: ps => p.1 = lo ∧ p.1 ≤ p.2.1 ∧ Tile (p.2.1 + 1) hi ps
theorem Tile.le : ∀ {ps : List Pc} {lo hi : Int}, Tile lo hi ps → lo ≤ hi + 1
  | [], _, _, h => by simp only [Tile] at h; omega
  | p :: ps, _, _, h => by
    obtain ⟨a, b, c⟩ := h
    have := Tile.le c
    omega
theorem Tile.app : ∀ {ps qs : List Pc} {lo m hi : Int}, Tile lo m ps → Tile (m + 1) hi qs → Tile lo hi (ps ++ qs)
  | [], _, _, _, _, h, g => by simp only [Tile] at h; rw [h]; exact g
  | p :: ps, _, _, _, _, h, g => ⟨h.1, h.2.1, Tile.app h.2.2 g⟩
theorem Tile.split : ∀ {ps qs : List Pc} {lo hi : Int}, Tile lo hi (ps ++ qs) → ∃ m, Tile lo m ps ∧ Tile (m + 1) hi qs
  | [], qs, lo, hi, h => ⟨lo - 1, by simp only [Tile]; omega, by rw [show lo - 1 + 1 = lo by omega]; exact h⟩
  | p :: ps, qs, lo, hi, h => by
    obtain ⟨m, a, b⟩ := Tile.split (ps := ps) h.2.2
    exact ⟨m, ⟨h.1, h.2.1, a⟩, b⟩
section
variable {c : Int} {f g : Int → Int}
/-! ### borders -/
def Brd (c : Int) (rs : List Row) (z : Int) : Prop := ∃ r ∈ rs, z = r.1 ∨ z = (r.2.1 + 1) % c
open Classical in
noncomputable def rise (f : Int → Int) (x : Int) : Int := if Lst f x then 1 else 0
theorem rise_pos {x : Int} (h : Lst f x) : rise f x = 1 := by unfold rise; rw [if_pos h]
theorem rise_neg {x : Int} (h : ¬ Lst f x) : rise f x = 0 := by unfold rise; rw [if_neg h]
/-- between two borders a passage is a line -/
theorem line (p : Psg c f) {rs : List Row} (n : Norm c f rs) {a x : Int} (h0 : 0 ≤ a) (h1 : a ≤ x) (h2 : x < c) (nb : ∀ z, a < z → z ≤ x → ¬ Brd c rs z) : f x = f a + rise f a * (x - a) := by
  have hc := p.pos
  by_cases q : Lst f a
  · rw [rise_pos q, Int.one_mul]
    obtain ⟨s, hs, k, o⟩ := n.cov.ex a q
    simp only [On] at o
    by_cases z : x + k * c ≤ s.2.1
    · have e := (n.cov.on s hs (x + k * c) _ ⟨by omega, z, rfl⟩).2
      rw [p.perK] at e
      omega
    · exfalso
      refine nb (s.2.1 + 1 - k * c) (by omega) (by omega) ⟨s, hs, .inr ?_⟩
      have e : s.2.1 + 1 = (s.2.1 + 1 - k * c) + k * c := by omega
      rw [e, Int.add_mul_emod_self_right, ← e]
      exact (Int.emod_eq_of_lt (by omega) (by omega)).symm
  · rw [rise_neg q, Int.zero_mul, Int.add_zero]
    obtain ⟨z, z1, z2, z3, z4⟩ := next p a
    by_cases w : x ≤ z
    · have e1 := p.mono a x h1
      have e2 := p.mono x z w
      omega
    · exfalso
      obtain ⟨s, hs, k, o⟩ := n.cov.ex z z2
      have rg := n.rng s hs
      simp only [On] at o
      have ne : z ≠ a := fun e => q (e ▸ z2)
      have first : z + k * c = s.1 := by
        apply Classical.byContradiction
        intro y
        have l := (n.cov.on s hs (z - 1 + k * c) _ ⟨by omega, by omega, rfl⟩).1
        rw [lst_per p] at l
        exact z4 (z - 1) (by omega) (by omega) l
      have k0 : k = 0 := by
        rcases Int.lt_trichotomy k 0 with l | l | l
        · have := mul_step (show k + 1 ≤ 0 by omega) (show 0 ≤ c by omega)
          omega
        · exact l
        · have := mul_step (show 0 + 1 ≤ k by omega) (show 0 ≤ c by omega)
          omega
      subst k0
      exact nb z (by omega) (by omega) ⟨s, hs, .inl (by omega)⟩
/-! ### min and max of two passages -/
end
end PM
set_option Elab.async false
set_option linter.all false
set_option maxRecDepth 100000
set_option maxHeartbeats 2000000
set_option autoImplicit false
namespace PA
open PySem L2 DL K01 PM
local macro_rules | `(tactic| walk_at "dl") => `(tactic| simp only [u_dSeq, u_dNext, u_dOwn, u_dOwnE, u_dFld, u_dMake, u_dMeth, u_dProp, u_dIsiO, u_dCallI, u_dSortSet, u_dFrz, e_isC, e_rgO, e_rgn, e_rgi, e_rgs, e_rgb, e_rgt, e_rgl, e_fz1, e_fz2, le_lim, lt_lim, set_snoc0, e_srtI, u_dBreak, u_dCont, u_dDrop, u_dRet, u_dRetN, u_dIfS, u_dNever, u_dAsg, u_dPar, u_dPutK, u_dAppend, u_dExtend, u_dCall, u_dVar, u_dC, u_dOp, u_dChain, u_dUn, u_dB, u_dNot, u_dAnd, u_dOr, u_dAndV, u_dOrV, u_dNotV, u_dIf, u_dNil, u_dCons, u_dTup, u_dLst, u_dLstC, u_dCB, u_dInK, u_dGetK, u_dDicC, u_dNoPart, u_dPart, u_dSl, u_dBits, u_dRev, u_dgName, u_dgsNil, u_dgsCons, u_dgTup, u_dgSet, u_diSeq, u_diR1, e_diR2, e_r2, u_diEnum, u_diEnumU, u_diZip, endD, finZ_d, finD, finC, List.take_length, u_dYes, wipeD, ix0, ix1, ix2, get_snoc, set_snoc, take_snoc, u_dOpC, u_dSlC, u_dListC, e_addC, e_mulC, e_loCl, e_loCt, e_loCs, e_wd, e_wc0, e_wcs, e_wsn, e_wc1, e_wc2, e_wl0, e_wl1, e_dl0, e_dl1, e_sl, e_st, e_ss, e_addi, e_adds, e_addt, e_addl, e_sub, e_muli, e_mult, e_mull, e_fdiv, e_mod, e_pow, e_neg, e_lt, e_le, e_gt, e_ge, e_eqi, e_eqs, e_eql, e_eqt, e_eqb, e_eqn, e_nei, e_nes, e_nel, e_net, e_neb, e_nen, e_isb, e_isn, e_inb, e_inn, e_in1, e_in2, e_in3, e_in4, e_in5, e_ixt, e_ixl, e_ixs, e_at0, e_at1, e_at2, e_at3, e_at4, e_at5, e_atl, e_keyi, e_keys, e_lenl, e_lent, e_lens, e_lend, e_maxi, e_mini, e_maxl, e_minl, e_sum, e_all, e_any, e_inti, e_intb, e_abs, e_tol, e_tot, e_tos, e_lol, e_lot, e_los, e_sll, e_slt, e_rvl, e_rvt, e_repr, e_isi, e_srtl, e_srtt, List.map_cons, List.map_nil, List.length_cons, List.length_nil, List.cons_append, List.nil_append, List.flatten_cons, List.flatten_nil, List.append_nil, List.replicate_succ, List.replicate_zero, List.getElem?_cons_zero, List.getElem?_cons_succ, List.set_cons_zero, List.set_cons_succ, Nat.reduceSub, Nat.reduceAdd, Int.reduceToNat, Int.reduceLE, Int.reduceLT, Int.reduceNeg, Nat.reduceLeDiff, Nat.reduceLT, Nat.zero_add, Option.some.injEq, Z.d.injEq, Z.c.injEq, D.bl.injEq, D.int.injEq, D.tup.injEq, D.lst.injEq, List.take_succ_cons, List.take_zero, exists_eq_left', exists_eq_left, true_and, and_true, if_true, Bool.not_true, Bool.not_false, Bool.false_eq_true, if_false, decide_true, decide_false, n_vK])
def rowT (r : Row) : D := .tup [.int r.1, .int r.2.1, .int r.2.2]
def rowsT (rs : List Row) : List D := rs.map rowT
theorem len_rowsT (rs : List Row) : (rowsT rs).length = rs.length := List.length_map _
theorem rowsT_app (a b : List Row) : rowsT (a ++ b) = rowsT a ++ rowsT b := List.map_append
theorem rowsT_one (a : Row) : rowsT [a] = [rowT a] := rfl
theorem get_rowsT {rs : List Row} {i : Nat} {d : D} (h : (rowsT rs)[i]? = some d) : ∃ r, rs[i]? = some r ∧ d = rowT r := by
  unfold rowsT at h
  rw [List.getElem?_map] at h
  cases q : rs[i]? with
  | none => rw [q] at h; cases h
  | some r =>
    rw [q] at h
    exact ⟨r, rfl, (Option.some.inj h).symm⟩
theorem rowsT_get {rs : List Row} {i : Nat} {r : Row} (h : rs[i]? = some r) : (rowsT rs)[i]? = some (rowT r) := by
  unfold rowsT
  rw [List.getElem?_map, h]
  rfl
theorem ok_rowsT (rs : List Row) : pyOk (.tup (rowsT rs)) = true := pyOk_of_mem fun d hd => by
  obtain ⟨r, _, rfl⟩ := List.mem_map.mp hd
  rfl
theorem eqN_rowT (r : Row) : EqN 1 (rowT r) := EqN.tup (e := 0) fun d hd => by
  simp only [List.mem_cons, List.not_mem_nil, or_false] at hd
  rcases hd with rfl | rfl | rfl <;> exact EqN.int _
theorem eqN_rowsT (rs : List Row) : EqN 2 (.tup (rowsT rs)) := EqN.tup (e := 1) fun d hd => by
  obtain ⟨r, _, rfl⟩ := List.mem_map.mp hd
  exact eqN_rowT r
theorem eqN_rowsL (rs : List Row) : EqN 2 (.lst (rowsT rs)) := EqN.lst (e := 1) fun d hd => by
  obtain ⟨r, _, rfl⟩ := List.mem_map.mp hd
  exact eqN_rowT r
/-! ### numbers within a bound -/
def Bd (i : Int) : Prop := -(10 ^ 170) ≤ i ∧ i ≤ 10 ^ 170
/-- a little less -/
def Bs (i : Int) : Prop := -(10 ^ 160) ≤ i ∧ i ≤ 10 ^ 160
theorem Bs.bd {i : Int} (h : Bs i) : Bd i := ⟨by have := h.1; omega, by have := h.2; omega⟩
def BdR (r : Row) : Prop := Bs r.1 ∧ Bs r.2.1 ∧ Bs r.2.2
theorem Bd.sm {i : Int} (h : Bd i) : Sm i := Sm.of (by have := h.1; omega) (by have := h.2; omega)
theorem div_bd {B i c : Int} (hB : 0 ≤ B) (h1 : -B ≤ i) (h2 : i ≤ B) (hc : 1 ≤ c) : -B ≤ i / c ∧ i / c ≤ B := by
  have a : i / c ≤ B := Int.le_trans (Int.ediv_le_ediv (by omega) h2) (Int.ediv_le_self _ hB)
  have h3 := Int.ediv_le_ediv (show 0 < c by omega) h1
  have h4 : -B ≤ (-B) / c := by
    rw [Int.le_ediv_iff_mul_le (by omega)]
    have : B * 1 ≤ B * c := Int.mul_le_mul_of_nonneg_left hc hB
    rw [Int.neg_mul]
    omega
  omega
theorem sm_div {i c : Int} (h : Bd i) (hc : 1 ≤ c) : Sm (i / c) := by
  have := div_bd (by decide) h.1 h.2 hc
  exact Bd.sm this
theorem dv_c {c : Int} (h1 : 1 ≤ c) (h2 : c ≤ 10 ^ 30) : Dv c := Dv.of (by omega) (by omega)
def sp_moved_row : DSpec := fun zs cs k => match zs with
  | [.d (.tup [.int a, .int b, .int c]), .d (.int j)] => k (.d (.tup [.int (a + j), .int (b + j), .int (c + j)])) cs
  | _ => False
theorem len_moved_row : ∀ zs cs q, sp_moved_row zs cs q → zs.length = (["row", "by"] : List Str).length := fun zs cs q h => by
  unfold sp_moved_row at h
  split at h
  · rfl
  · exact h.elim
def t_moved_row : DS :=
  (dRet (dTup (dCons (dOp addD (dOp ixD (dVar 0) (dC (.int 0))) (dVar 1)) (dCons (dOp addD (dOp ixD (dVar 0) (dC (.int 1))) (dVar 1)) (dCons (dOp addD (dOp ixD (dVar 0) (dC (.int 2))) (dVar 1)) dNil)))))
theorem rd_moved_row : ∀ zs cs q, sp_moved_row zs cs q → t_moved_row (endD cs.length q) (startD ["row", "by"] zs) cs := fun zs cs q h => by
  unfold sp_moved_row at h
  split at h
  rotate_left
  · exact h.elim
  rename_i a b c j
  simp only [startD, List.map_cons, List.map_nil, List.length_cons, List.length_nil, Nat.reduceAdd, Nat.zero_add, Nat.reduceSub, List.replicate_zero, List.replicate_succ, List.cons_append, List.nil_append, List.append_nil]
  unfold t_moved_row
  walk_at "dl"
  exact h
def sp_joined_rows : DSpec := fun zs cs k => match zs with
  | [.d (.lst xs)] => ∃ rows, xs = rowsT rows ∧ rows.length ≤ 15000000 ∧ k (.d (.lst (rowsT (join rows)))) cs
  | _ => False
theorem len_joined_rows : ∀ zs cs q, sp_joined_rows zs cs q → zs.length = (["rows"] : List Str).length := fun zs cs q h => by
  unfold sp_joined_rows at h
  split at h
  · rfl
  · exact h.elim
def t_joined_rows : DS :=
  (dSeq (dAsg (dLstC dNil) (dgName 1))
  (dSeq (dFor (diSeq (dVar 0)) (dgName 2) (dIfS (dAnd (dB (dOp neUD (dVar 1) (dLst dNil))) (dAnd (dB (dOp eqUD (dOp ixD (dVar 2) (dC (.int 0))) (dOp addD (dOp ixD (dOp ixD (dVar 1) (dUn negD (dC (.int 1)))) (dC (.int 1))) (dC (.int 1))))) (dB (dOp eqUD (dOp ixD (dVar 2) (dC (.int 2))) (dOp subD (dOp addD (dOp ixD (dOp ixD (dVar 1) (dUn negD (dC (.int 1)))) (dC (.int 2))) (dOp ixD (dVar 2) (dC (.int 0)))) (dOp ixD (dOp ixD (dVar 1) (dUn negD (dC (.int 1)))) (dC (.int 0)))))))) (dAsg (dTup (dCons (dOp ixD (dOp ixD (dVar 1) (dUn negD (dC (.int 1)))) (dC (.int 0))) (dCons (dOp ixD (dVar 2) (dC (.int 1))) (dCons (dOp ixD (dOp ixD (dVar 1) (dUn negD (dC (.int 1)))) (dC (.int 2))) dNil)))) (dgSet (dVar 1) (dUn negD (dC (.int 1))))) (dDrop (dAppend (dVar 1) (dVar 2)))))
  (dRet (dVar 1))))
theorem join_len (rows : List Row) : (join rows).length ≤ rows.length := by
  generalize hn : rows.length = n
  induction n generalizing rows with
  | zero =>
    rw [List.length_eq_zero_iff.mp hn]
    exact Nat.le_refl _
  | succ n ih =>
    have ne : rows ≠ [] := fun z => by rw [z] at hn; cases hn
    have e := (List.dropLast_concat_getLast ne).symm
    rw [e, join_snoc]
    have l : rows.dropLast.length = n := by rw [List.length_dropLast, hn]; rfl
    have := ih rows.dropLast l
    rcases List.eq_nil_or_concat (join rows.dropLast) with z | ⟨fs, a, z⟩
    · rw [z, joinInto_nil]
      simp
    · rw [List.concat_eq_append] at z
      rw [z] at this ⊢
      rw [joinInto_snoc]
      split <;> simp at this ⊢ <;> omega
theorem eqv_nilR (rs : List Row) : eqvD (.lst (rowsT rs)) (.lst []) = rs.isEmpty := by
  cases rs with
  | nil => rfl
  | cons a l => rfl
theorem at_m1R (fs : List Row) (a : Row) : atI (rowsT (fs ++ [a])) (-1) = some (rowT a) := by
  rw [rowsT_app, rowsT_one]
  exact at_last
theorem ix_lastR (fs : List Row) (a : Row) : ixN (rowsT (fs ++ [a])).length (-1) = some fs.length := by
  rw [len_rowsT, List.length_append]
  unfold ixN
  rw [if_neg (by decide), if_pos (by simp only [List.length_cons, List.length_nil]; omega)]
  congr 1
  simp only [List.length_cons, List.length_nil]
  omega
theorem rd_joined_rows : ∀ zs cs q, sp_joined_rows zs cs q → t_joined_rows (endD cs.length q) (startD ["rows", "found", "row"] zs) cs := fun zs cs q h => by
  unfold sp_joined_rows at h
  split at h
  rotate_left
  · exact h.elim
  rename_i xs
  simp only [startD, List.map_cons, List.map_nil, List.length_cons, List.length_nil, Nat.reduceAdd, Nat.zero_add, Nat.reduceSub, List.replicate_zero, List.replicate_succ, List.cons_append, List.nil_append, List.append_nil]
  obtain ⟨rows, rfl, hl, h⟩ := h
  unfold t_joined_rows
  try walk_at "dl"
  refine dFor_mk (rowsT rows) yes (cs ++ [.lst []]) (fun K h => by walk_at "dl"; exact h) (fun i en cx => ∃ (o2 : Option Z), en = [some (.d (.lst (rowsT rows))), some (.c cs.length), o2] ∧ cx = cs ++ [.lst (rowsT (join (rows.take i)))])
    ⟨_, rfl, rfl⟩ (fun i d en cx hd hI => ?_) (fun en cx hI => ?_) (fun _ _ _ _ => trivial)
  · obtain ⟨o2, rfl, rfl⟩ := hI
    obtain ⟨r, hr, rfl⟩ := get_rowsT hd
    obtain ⟨a, b, v⟩ := r
    have tk : rows.take (i + 1) = rows.take i ++ [(a, b, v)] := by
      rw [List.take_add_one, hr]
      rfl
    have ll := join_len (rows.take i)
    rw [List.length_take] at ll
    have stp := join_snoc (rows.take i) (a, b, v)
    rw [← tk] at stp
    generalize join (rows.take i) = fs at ll stp
    have il := (List.getElem?_eq_some_iff.mp hr).1
    simp only [rowT]
    try walk_at "dl"
    refine ⟨⟨(eqN_rowsL fs).eq (by decide), (EqN.lst (e := 0) (ds := []) (fun d hd => by simp at hd)).eq (by decide)⟩, ?_⟩
    rw [eqv_nilR]
    rcases List.eq_nil_or_concat fs with rfl | ⟨fs', l, rfl⟩
    · rw [show (!([] : List Row).isEmpty) = false from rfl]
      try walk_at "dl"
      refine ⟨lim_lt (by decide), .inl ⟨_, rfl, ?_⟩⟩
      rw [stp, joinInto_nil]
      rfl
    · rw [List.concat_eq_append] at *
      obtain ⟨p, q, w⟩ := l
      rw [show (!(fs' ++ [(p, q, w)]).isEmpty) = true by simp]
      try walk_at "dl"
      have eR : ∀ k : D → Prop, atD (rowsT (fs' ++ [(p, q, w)])) (-1) k = k (.tup [.int p, .int q, .int w]) := fun k => e_at (at_m1R _ _)
      simp only [eR]
      try walk_at "dl"
      have hll : fs'.length + 1 ≤ i := by
        rw [List.length_append] at ll
        simp only [List.length_cons, List.length_nil] at ll
        omega
      have no : lnkR (p, q, w) (a, b, v) = false → (rowsT (fs' ++ [(p, q, w)])).length < LIM ∧ Wkn (cs ++ [D.lst []]).length (fun en cx => ∃ o2 : Option Z, en = [some (.d (.lst (rowsT rows))), some (.c cs.length), o2] ∧ cx = cs ++ [.lst (rowsT (join (rows.take (i + 1))))])
          [some (.d (.lst (rowsT rows))), some (.c cs.length), some (.d (.tup [.int a, .int b, .int v]))] (cs ++ [.lst (rowsT (fs' ++ [(p, q, w)]) ++ [.tup [.int a, .int b, .int v]])]) := fun e => by
        refine ⟨lim_lt (by rw [len_rowsT, List.length_append]; simp only [List.length_cons, List.length_nil]; omega), .inl ⟨_, rfl, ?_⟩⟩
        rw [stp, joinInto_snoc, e, if_neg Bool.false_ne_true, rowsT_app (fs' ++ [(p, q, w)])]
        rfl
      by_cases c1 : a = q + 1
      · simp only [c1, decide_true, if_true]
        rw [← c1]
        try walk_at "dl"
        try simp only [eR]
        try walk_at "dl"
        by_cases c2 : v = w + a - p
        · simp only [c2, decide_true, if_true]
          try walk_at "dl"
          try simp only [eR]
          try walk_at "dl"
          refine ⟨fs'.length, ix_lastR fs' (p, q, w), .inl ⟨_, rfl, ?_⟩⟩
          rw [stp, joinInto_snoc, if_pos (by simp [lnkR]; omega), rowsT_app, rowsT_one, rowsT_app, rowsT_one]
          rw [← len_rowsT fs', set_snoc]
          rfl
        · simp only [c2, decide_false, Bool.false_eq_true, if_false]
          exact no (by simp [lnkR]; omega)
      · simp only [c1, decide_false, Bool.false_eq_true, if_false]
        try walk_at "dl"
        exact no (by simp [lnkR]; omega)
  · obtain ⟨o2, rfl, rfl⟩ := hI
    rw [len_rowsT, List.take_of_length_le (Nat.le_refl _)]
    try walk_at "dl"
    refine finZ_froz (Nat.le_refl _) (get_snoc _ _) ?_
    rw [take_snoc]
    exact h
end PA
set_option Elab.async false
set_option linter.all false
set_option maxRecDepth 100000
set_option maxHeartbeats 2000000
set_option autoImplicit false
namespace PA
open PySem L2 DL K01 PM
local macro_rules | `(tactic| walk_at "dl") => `(tactic| simp only [u_dSeq, u_dNext, u_dOwn, u_dOwnE, u_dFld, u_dMake, u_dMeth, u_dProp, u_dIsiO, u_dCallI, u_dSortSet, u_dFrz, e_isC, e_rgO, e_rgn, e_rgi, e_rgs, e_rgb, e_rgt, e_rgl, e_fz1, e_fz2, le_lim, lt_lim, set_snoc0, e_srtI, u_dBreak, u_dCont, u_dDrop, u_dRet, u_dRetN, u_dIfS, u_dNever, u_dAsg, u_dPar, u_dPutK, u_dAppend, u_dExtend, u_dCall, u_dVar, u_dC, u_dOp, u_dChain, u_dUn, u_dB, u_dNot, u_dAnd, u_dOr, u_dAndV, u_dOrV, u_dNotV, u_dIf, u_dNil, u_dCons, u_dTup, u_dLst, u_dLstC, u_dCB, u_dInK, u_dGetK, u_dDicC, u_dNoPart, u_dPart, u_dSl, u_dBits, u_dRev, u_dgName, u_dgsNil, u_dgsCons, u_dgTup, u_dgSet, u_diSeq, u_diR1, e_diR2, e_r2, u_diEnum, u_diEnumU, u_diZip, endD, finZ_d, finD, finC, List.take_length, u_dYes, wipeD, ix0, ix1, ix2, get_snoc, set_snoc, take_snoc, u_dOpC, u_dSlC, u_dListC, e_addC, e_mulC, e_loCl, e_loCt, e_loCs, e_wd, e_wc0, e_wcs, e_wsn, e_wc1, e_wc2, e_wl0, e_wl1, e_dl0, e_dl1, e_sl, e_st, e_ss, e_addi, e_adds, e_addt, e_addl, e_sub, e_muli, e_mult, e_mull, e_fdiv, e_mod, e_pow, e_neg, e_lt, e_le, e_gt, e_ge, e_eqi, e_eqs, e_eql, e_eqt, e_eqb, e_eqn, e_nei, e_nes, e_nel, e_net, e_neb, e_nen, e_isb, e_isn, e_inb, e_inn, e_in1, e_in2, e_in3, e_in4, e_in5, e_ixt, e_ixl, e_ixs, e_at0, e_at1, e_at2, e_at3, e_at4, e_at5, e_atl, e_keyi, e_keys, e_lenl, e_lent, e_lens, e_lend, e_maxi, e_mini, e_maxl, e_minl, e_sum, e_all, e_any, e_inti, e_intb, e_abs, e_tol, e_tot, e_tos, e_lol, e_lot, e_los, e_sll, e_slt, e_rvl, e_rvt, e_repr, e_isi, e_srtl, e_srtt, List.map_cons, List.map_nil, List.length_cons, List.length_nil, List.cons_append, List.nil_append, List.flatten_cons, List.flatten_nil, List.append_nil, List.replicate_succ, List.replicate_zero, List.getElem?_cons_zero, List.getElem?_cons_succ, List.set_cons_zero, List.set_cons_succ, Nat.reduceSub, Nat.reduceAdd, Int.reduceToNat, Int.reduceLE, Int.reduceLT, Int.reduceNeg, Nat.reduceLeDiff, Nat.reduceLT, Nat.zero_add, Option.some.injEq, Z.d.injEq, Z.c.injEq, D.bl.injEq, D.int.injEq, D.tup.injEq, D.lst.injEq, List.take_succ_cons, List.take_zero, exists_eq_left', exists_eq_left, true_and, and_true, if_true, Bool.not_true, Bool.not_false, Bool.false_eq_true, if_false, decide_true, decide_false, n_vK])
/-- what is known of rows that are to be brought to the one form -/
structure RowsOk (c : Int) (f : Int → Int) (rows : List Row) : Prop where
  psg : Psg c f
  cle : c ≤ 10 ^ 30
  val : Val c rows
  cov : Cov c rows f
  len : rows.length ≤ 10000000
  bd : ∀ r ∈ rows, BdR r
theorem cut_mid (a b : D) (m : List D) : cutG (a :: m ++ [b]) (some 1) (some (-1)) = m := by
  unfold cutG
  have h1 : HT.sIx (a :: m ++ [b]).length 0 (some 1) = 1 := by
    rw [show (1 : Int) = ((1 : Nat) : Int) from rfl, HT.sIx_nat]
    simp
  have h2 : HT.sIx (a :: m ++ [b]).length (a :: m ++ [b]).length (some (-1)) = m.length + 1 := by
    show (if (-1 : Int) < 0 then ((-1 : Int) + ((a :: m ++ [b]).length : Int)).toNat else min (-1 : Int).toNat (a :: m ++ [b]).length) = _
    rw [if_pos (by decide)]
    simp only [List.length_append, List.length_cons, List.length_nil]
    omega
  rw [h1, h2]
  simp
theorem rowsI (rs : List Row) : rowsT rs = (rs.map fun r => [r.1, r.2.1, r.2.2]).map rowD := by
  unfold rowsT
  rw [List.map_map]
  rfl
theorem rows_sorted {qs : List Row} {out : List (List Int)} (p : out.Perm (qs.map fun r => [r.1, r.2.1, r.2.2])) (st : out.Pairwise fun x y => lex3 (key3 y) (key3 x) = false) :
    ∃ rs : List Row, out = rs.map (fun r => [r.1, r.2.1, r.2.2]) ∧ rs.Perm qs ∧ rs.Pairwise fun a b => a.1 ≤ b.1 := by
  have e : out = (out.map key3).map fun r => [r.1, r.2.1, r.2.2] := by
    rw [List.map_map]
    conv => lhs; rw [← List.map_id out]
    refine List.map_congr_left fun x hx => ?_
    obtain ⟨r, _, rfl⟩ := List.mem_map.mp (p.mem_iff.mp hx)
    rfl
  refine ⟨out.map key3, e, ?_, ?_⟩
  · have := p.map key3
    rw [List.map_map] at this
    rw [show (key3 ∘ fun r : Row => [r.1, r.2.1, r.2.2]) = id from rfl, List.map_id] at this
    exact this
  · rw [List.pairwise_map]
    refine st.imp fun {x y} h => ?_
    have := lex3_no.mp h
    omega
def sp_normal_runs : DSpec := fun zs cs k => match zs with
  | [.d (.int c), .d (.lst xs)] => ∃ rows f, xs = rowsT rows ∧ RowsOk c f rows ∧ ∀ rs, Canon c f rs → rs.length ≤ rows.length → k (.d (.tup (rowsT rs))) cs
  | _ => False
theorem len_normal_runs : ∀ zs cs q, sp_normal_runs zs cs q → zs.length = (["cycle", "rows"] : List Str).length := fun zs cs q h => by
  unfold sp_normal_runs at h
  split at h
  · rfl
  · exact h.elim
def t_normal_runs : DS :=
  (dSeq (dAsg (dCall sp_joined_rows (dCons (dVar 1) dNil)) (dgName 2))
  (dSeq (dAsg (dOp ixD (dVar 2) (dC (.int 0))) (dgName 3))
  (dSeq (dAsg (dOp ixD (dVar 2) (dUn negD (dC (.int 1)))) (dgName 4))
  (dSeq (dAsg (dAndV (dOp eqUD (dOp addD (dOp ixD (dVar 3) (dC (.int 0))) (dVar 0)) (dOp addD (dOp ixD (dVar 4) (dC (.int 1))) (dC (.int 1)))) (dOp eqUD (dOp addD (dOp ixD (dVar 3) (dC (.int 2))) (dVar 0)) (dOp subD (dOp addD (dOp addD (dOp ixD (dVar 4) (dC (.int 2))) (dOp ixD (dVar 4) (dC (.int 1)))) (dC (.int 1))) (dOp ixD (dVar 4) (dC (.int 0)))))) (dgName 5))
  (dSeq (dIfS (dAnd (dB (dVar 5)) (dB (dOp eqUD (dCB lenD (dCons (dVar 2) dNil)) (dC (.int 1))))) (dRet (dTup (dCons (dTup (dCons (dC (.int 0)) (dCons (dOp subD (dVar 0) (dC (.int 1))) (dCons (dOp subD (dOp ixD (dVar 3) (dC (.int 2))) (dOp ixD (dVar 3) (dC (.int 0)))) dNil)))) dNil))) dNext)
  (dSeq (dIfS (dB (dVar 5)) (dAsg (dOp addD (dLst (dCons (dTup (dCons (dOp subD (dOp ixD (dVar 4) (dC (.int 0))) (dVar 0)) (dCons (dOp ixD (dVar 3) (dC (.int 1))) (dCons (dOp subD (dOp ixD (dVar 4) (dC (.int 2))) (dVar 0)) dNil)))) dNil)) (dSl (dVar 2) (dPart (dC (.int 1))) (dPart (dUn negD (dC (.int 1)))))) (dgName 2)) dNext)
  (dLock (dRet (dCB tupOfD (dCons (dCB sortedRD (dCons (dLc (diSeq (dVar 2)) (dgName 6) dYes (dCall sp_moved_row (dCons (dVar 6) (dCons (dOp subD (dC (.int 0)) (dOp mulD (dOp fdivD (dOp ixD (dVar 6) (dC (.int 0))) (dVar 0)) (dVar 0))) dNil))) [6]) dNil)) dNil))))))))))
theorem rd_normal_runs : ∀ zs cs q, sp_normal_runs zs cs q → t_normal_runs (endD cs.length q) (startD ["cycle", "rows", "found", "first", "last", "follows", "row"] zs) cs := fun zs cs q h => by
  unfold sp_normal_runs at h
  split at h
  rotate_left
  · exact h.elim
  rename_i c xs
  simp only [startD, List.map_cons, List.map_nil, List.length_cons, List.length_nil, Nat.reduceAdd, Nat.zero_add, Nat.reduceSub, List.replicate_zero, List.replicate_succ, List.cons_append, List.nil_append, List.append_nil]
  obtain ⟨rows, f, rfl, R, h⟩ := h
  have hc := R.psg.pos
  have J := rows_join R.val R.cov
  have jl := join_len rows
  have rl := R.len
  have r1 : 1 ≤ rows.length := by
    have := R.val.ne
    cases rows with
    | nil => exact absurd rfl this
    | cons a l => simp
  have bdj : ∀ r ∈ join rows, Bs r.1 := fun r hr => by
    obtain ⟨s, hs, o⟩ := (joined_of R.val.ok R.val.bef).sub r hr r.1 r.2.2 ⟨Int.le_refl _, J.val.ok r hr, by omega⟩
    have b := R.bd s hs
    have := R.val.ok s hs
    simp only [On] at o
    exact ⟨by have := b.1.1; omega, by have := b.2.1.2; omega⟩
  unfold t_normal_runs
  try walk_at "dl"
  simp only [sp_joined_rows]
  refine ⟨rows, rfl, by omega, ?_⟩
  generalize join rows = fs at J jl bdj
  obtain ⟨hd, tl, rfl⟩ : ∃ a l, fs = a :: l := by
    cases fs with
    | nil => exact absurd rfl J.val.ne
    | cons a l => exact ⟨a, l, rfl⟩
  obtain ⟨init, lt, e⟩ : ∃ l a, hd :: tl = l ++ [a] := ⟨_, _, (List.dropLast_concat_getLast (List.cons_ne_nil hd tl)).symm⟩
  have lastE : ∀ k : D → Prop, atD (rowsT (hd :: tl)) (-1) k = k (rowT lt) := fun k => by
    rw [e]
    exact e_at (at_m1R _ _)
  have headE : ∀ k : D → Prop, atD (rowsT (hd :: tl)) 0 k = k (rowT hd) := fun k => e_at0 _ _
  try walk_at "dl"
  simp only [lastE, headE]
  simp only [rowT]
  try walk_at "dl"
  generalize hT : (dLock _ : DS) = T
  have fin : ∀ (qs : List Row) (o5 : Bool), qs.length ≤ rows.length → (∀ r ∈ qs, Bd r.1) → (∀ out : List Row, out.Perm (qs.map (nrm c)) → (out.Pairwise fun a b => a.1 ≤ b.1) → Canon c f out) →
      T { nx := fun x c => q (Z.d D.non) (List.take (List.length cs) c), rt := FinZ (List.length cs) q } [some (.d (.int c)), some (.d (.lst (rowsT rows))), some (.d (.lst (rowsT qs))), some (.d (.tup [.int hd.1, .int hd.2.1, .int hd.2.2])), some (.d (.tup [.int lt.1, .int lt.2.1, .int lt.2.2])), some (.d (.bl o5)), none] cs := by
    intro qs o5 ql qb qc
    rw [← hT]
    unfold dLock
    walk_at "dl"
    refine dLc_mk (rowsT qs) yes cs (fun K h => by walk_at "dl"; exact h) (fun d => match d with
      | .tup [.int a, .int b, .int v] => rowT (nrm c (a, b, v))
      | _ => .non) (by rw [len_rowsT]; omega) (fun i d acc hd' P hP => ?_) ?_ (fun _ => trivial)
    · obtain ⟨r, hr, rfl⟩ := get_rowsT hd'
      obtain ⟨a, b, v⟩ := r
      have ba := qb _ (List.mem_of_getElem? hr)
      simp only [rowT] at hP ⊢
      walk_at "dl"
      refine ⟨dv_c hc R.cle, ⟨sm_div ba hc, (dv_c hc R.cle).2 |> fun h => Nat.lt_of_lt_of_le h (Nat.pow_le_pow_right (by decide) (by decide))⟩, ?_⟩
      simp only [sp_moved_row]
      exact hP
    · rw [show (rowsT qs).map (fun d => match d with
        | .tup [.int a, .int b, .int v] => rowT (nrm c (a, b, v))
        | _ => .non) = rowsT (qs.map (nrm c)) by unfold rowsT; rw [List.map_map, List.map_map]; rfl]
      walk_at "dl"
      refine ⟨_, 3, rowsI _, ⟨by decide, by decide, fun r hr => ?_⟩, fun out p st => ?_⟩
      · obtain ⟨s, _, rfl⟩ := List.mem_map.mp hr
        rfl
      · obtain ⟨rs, rfl, p2, st2⟩ := rows_sorted p st
        rw [← rowsI]
        try walk_at "dl"
        refine h rs (qc rs p2 st2) ?_
        rw [p2.length_eq, List.length_map]
        exact ql
  have jf : (hd :: tl).length ≤ rows.length := jl
  have fol : Fol c hd lt ↔ (hd.1 + c = lt.2.1 + 1 ∧ hd.2.2 + c = lt.2.2 + lt.2.1 + 1 - lt.1) := Iff.rfl
  have plain : ¬ Fol c hd lt → ∀ o5, T { nx := fun x c => q (Z.d D.non) (List.take (List.length cs) c), rt := FinZ (List.length cs) q } [some (.d (.int c)), some (.d (.lst (rowsT rows))), some (.d (.lst (rowsT (hd :: tl)))), some (.d (.tup [.int hd.1, .int hd.2.1, .int hd.2.2])), some (.d (.tup [.int lt.1, .int lt.2.1, .int lt.2.2])), some (.d (.bl o5)), none] cs := fun nf o5 =>
    fin (hd :: tl) o5 jf (fun r hr => (bdj r hr).bd) fun out p st => normal_plain R.psg J rfl (by rw [e]; exact List.getLast?_concat) nf p st
  clear hT
  by_cases c1 : hd.1 + c = lt.2.1 + 1
  · by_cases c2 : hd.2.2 + c = lt.2.2 + lt.2.1 + 1 - lt.1
    · simp only [c1, c2, decide_true, if_true]
      rw [len_rowsT]
      cases tl with
      | nil =>
        have el : lt = hd := by
          have := congrArg List.getLast? e
          rw [List.getLast?_concat] at this
          exact (Option.some.inj this).symm
        subst el
        simp only [List.length_cons, List.length_nil]
        exact h _ (normal_one R.psg J ⟨c1, c2⟩) r1
      | cons t0 tl =>
        obtain ⟨mid, em⟩ : ∃ mid, hd :: t0 :: tl = hd :: mid ++ [lt] := by
          cases init with
          | nil => simp at e
          | cons i0 il =>
            simp only [List.cons_append, List.cons.injEq] at e
            exact ⟨il, by rw [e.2]; rfl⟩
        rw [em] at J jf bdj ⊢
        have nl : ¬ (((hd :: mid ++ [lt]).length : Int) = 1) := by
          simp only [List.length_append, List.length_cons, List.length_nil]
          omega
        simp only [nl, decide_false, Bool.false_eq_true, if_false]
        have cm : cutG (rowsT (hd :: mid ++ [lt])) (some 1) (some (-1)) = rowsT mid := by
          rw [rowsT_app]
          exact cut_mid _ _ _
        rw [cm]
        have jf' := jf
        simp only [List.length_append, List.length_cons, List.length_nil] at jf'
        refine ⟨lim_le (by rw [len_rowsT]; omega), ?_⟩
        have := fin ((lt.1 - c, hd.2.1, lt.2.2 - c) :: mid) true (by simp only [List.length_cons]; omega) (fun r hr => ?_) (fun out p st => normal_wrap R.psg J ⟨c1, c2⟩ p st)
        · simpa only [c2, decide_true, rowsT, List.map_cons, rowT] using this
        · rcases List.mem_cons.mp hr with z | z
          · subst z
            have b := bdj lt (by simp)
            have b2 := bdj hd (by simp)
            have o := J.val.ok lt (by simp)
            have cl := R.cle
            have b0 := b.1
            have b3 := b.2
            exact ⟨by show -(10 ^ 170) ≤ lt.1 - c; omega, by show lt.1 - c ≤ 10 ^ 170; omega⟩
          · exact (bdj r (by simp [z])).bd
    · simp only [c1, c2, decide_true, decide_false, if_true, Bool.false_eq_true, if_false]
      exact plain (fun z => c2 z.2) _
  · simp only [c1, decide_false, Bool.false_eq_true, if_false]
    exact plain (fun z => c1 z.1) _
end PA
set_option Elab.async false
set_option linter.all false
set_option maxRecDepth 100000
set_option maxHeartbeats 2000000
set_option autoImplicit false
namespace PA
open PySem L2 DL K01 PM
local macro_rules | `(tactic| walk_at "dl") => `(tactic| simp only [u_dSeq, u_dNext, u_dOwn, u_dOwnE, u_dFld, u_dMake, u_dMeth, u_dProp, u_dIsiO, u_dCallI, u_dSortSet, u_dFrz, e_isC, e_rgO, e_rgn, e_rgi, e_rgs, e_rgb, e_rgt, e_rgl, e_fz1, e_fz2, le_lim, lt_lim, set_snoc0, e_srtI, u_dBreak, u_dCont, u_dDrop, u_dRet, u_dRetN, u_dIfS, u_dNever, u_dAsg, u_dPar, u_dPutK, u_dAppend, u_dExtend, u_dCall, u_dVar, u_dC, u_dOp, u_dChain, u_dUn, u_dB, u_dNot, u_dAnd, u_dOr, u_dAndV, u_dOrV, u_dNotV, u_dIf, u_dNil, u_dCons, u_dTup, u_dLst, u_dLstC, u_dCB, u_dInK, u_dGetK, u_dDicC, u_dNoPart, u_dPart, u_dSl, u_dBits, u_dRev, u_dgName, u_dgsNil, u_dgsCons, u_dgTup, u_dgSet, u_diSeq, u_diR1, e_diR2, e_r2, u_diEnum, u_diEnumU, u_diZip, endD, finZ_d, finD, finC, List.take_length, u_dYes, wipeD, ix0, ix1, ix2, get_snoc, set_snoc, take_snoc, u_dOpC, u_dSlC, u_dListC, e_addC, e_mulC, e_loCl, e_loCt, e_loCs, e_wd, e_wc0, e_wcs, e_wsn, e_wc1, e_wc2, e_wl0, e_wl1, e_dl0, e_dl1, e_sl, e_st, e_ss, e_addi, e_adds, e_addt, e_addl, e_sub, e_muli, e_mult, e_mull, e_fdiv, e_mod, e_pow, e_neg, e_lt, e_le, e_gt, e_ge, e_eqi, e_eqs, e_eql, e_eqt, e_eqb, e_eqn, e_nei, e_nes, e_nel, e_net, e_neb, e_nen, e_isb, e_isn, e_inb, e_inn, e_in1, e_in2, e_in3, e_in4, e_in5, e_ixt, e_ixl, e_ixs, e_at0, e_at1, e_at2, e_at3, e_at4, e_at5, e_atl, e_keyi, e_keys, e_lenl, e_lent, e_lens, e_lend, e_maxi, e_mini, e_maxl, e_minl, e_sum, e_all, e_any, e_inti, e_intb, e_abs, e_tol, e_tot, e_tos, e_lol, e_lot, e_los, e_sll, e_slt, e_rvl, e_rvt, e_repr, e_isi, e_srtl, e_srtt, List.map_cons, List.map_nil, List.length_cons, List.length_nil, List.cons_append, List.nil_append, List.flatten_cons, List.flatten_nil, List.append_nil, List.replicate_succ, List.replicate_zero, List.getElem?_cons_zero, List.getElem?_cons_succ, List.set_cons_zero, List.set_cons_succ, Nat.reduceSub, Nat.reduceAdd, Int.reduceToNat, Int.reduceLE, Int.reduceLT, Int.reduceNeg, Nat.reduceLeDiff, Nat.reduceLT, Nat.zero_add, Option.some.injEq, Z.d.injEq, Z.c.injEq, D.bl.injEq, D.int.injEq, D.tup.injEq, D.lst.injEq, List.take_succ_cons, List.take_zero, exists_eq_left', exists_eq_left, true_and, and_true, if_true, Bool.not_true, Bool.not_false, Bool.false_eq_true, if_false, decide_true, decide_false, n_vK])
/-- a passage's runs as they are held -/
structure Pas (c : Int) (f : Int → Int) (rs : List Row) (N : Nat) (M : Int) : Prop where
  psg : Psg c f
  can : Canon c f rs
  cle : c ≤ 10 ^ 30
  len : rs.length ≤ N
  mag : -M ≤ f 0 ∧ f 0 ≤ M
theorem Pas.norm {c : Int} {f : Int → Int} {rs : List Row} {N : Nat} {M : Int} (p : Pas c f rs N M) : Norm c f rs := p.can.norm p.psg
end PA
set_option Elab.async false
set_option linter.all false
set_option maxRecDepth 100000
set_option maxHeartbeats 2000000
set_option autoImplicit false
namespace PA
open PySem L2 DL K01 PM
local macro_rules | `(tactic| walk_at "dl") => `(tactic| simp only [u_dSeq, u_dNext, u_dOwn, u_dOwnE, u_dFld, u_dMake, u_dMeth, u_dProp, u_dIsiO, u_dCallI, u_dSortSet, u_dFrz, e_isC, e_rgO, e_rgn, e_rgi, e_rgs, e_rgb, e_rgt, e_rgl, e_fz1, e_fz2, le_lim, lt_lim, set_snoc0, e_srtI, u_dBreak, u_dCont, u_dDrop, u_dRet, u_dRetN, u_dIfS, u_dNever, u_dAsg, u_dPar, u_dPutK, u_dAppend, u_dExtend, u_dCall, u_dVar, u_dC, u_dOp, u_dChain, u_dUn, u_dB, u_dNot, u_dAnd, u_dOr, u_dAndV, u_dOrV, u_dNotV, u_dIf, u_dNil, u_dCons, u_dTup, u_dLst, u_dLstC, u_dCB, u_dInK, u_dGetK, u_dDicC, u_dNoPart, u_dPart, u_dSl, u_dBits, u_dRev, u_dgName, u_dgsNil, u_dgsCons, u_dgTup, u_dgSet, u_diSeq, u_diR1, e_diR2, e_r2, u_diEnum, u_diEnumU, u_diZip, endD, finZ_d, finD, finC, List.take_length, u_dYes, wipeD, ix0, ix1, ix2, get_snoc, set_snoc, take_snoc, u_dOpC, u_dSlC, u_dListC, e_addC, e_mulC, e_loCl, e_loCt, e_loCs, e_wd, e_wc0, e_wcs, e_wsn, e_wc1, e_wc2, e_wl0, e_wl1, e_dl0, e_dl1, e_sl, e_st, e_ss, e_addi, e_adds, e_addt, e_addl, e_sub, e_muli, e_mult, e_mull, e_fdiv, e_mod, e_pow, e_neg, e_lt, e_le, e_gt, e_ge, e_eqi, e_eqs, e_eql, e_eqt, e_eqb, e_eqn, e_nei, e_nes, e_nel, e_net, e_neb, e_nen, e_isb, e_isn, e_inb, e_inn, e_in1, e_in2, e_in3, e_in4, e_in5, e_ixt, e_ixl, e_ixs, e_at0, e_at1, e_at2, e_at3, e_at4, e_at5, e_atl, e_keyi, e_keys, e_lenl, e_lent, e_lens, e_lend, e_maxi, e_mini, e_maxl, e_minl, e_sum, e_all, e_any, e_inti, e_intb, e_abs, e_tol, e_tot, e_tos, e_lol, e_lot, e_los, e_sll, e_slt, e_rvl, e_rvt, e_repr, e_isi, e_srtl, e_srtt, List.map_cons, List.map_nil, List.length_cons, List.length_nil, List.cons_append, List.nil_append, List.flatten_cons, List.flatten_nil, List.append_nil, List.replicate_succ, List.replicate_zero, List.getElem?_cons_zero, List.getElem?_cons_succ, List.set_cons_zero, List.set_cons_succ, Nat.reduceSub, Nat.reduceAdd, Int.reduceToNat, Int.reduceLE, Int.reduceLT, Int.reduceNeg, Nat.reduceLeDiff, Nat.reduceLT, Nat.zero_add, Option.some.injEq, Z.d.injEq, Z.c.injEq, D.bl.injEq, D.int.injEq, D.tup.injEq, D.lst.injEq, List.take_succ_cons, List.take_zero, exists_eq_left', exists_eq_left, true_and, and_true, if_true, Bool.not_true, Bool.not_false, Bool.false_eq_true, if_false, decide_true, decide_false, n_vK])
theorem mag_at {c : Int} {f : Int → Int} (p : Psg c f) (x : Int) : f 0 + x - c ≤ f x ∧ f x ≤ f 0 + x + c := by
  have hc := p.pos
  have d := Int.emod_add_mul_ediv x c
  have m0 := Int.emod_nonneg x (show c ≠ 0 by omega)
  have m1 := Int.emod_lt_of_pos x (show 0 < c by omega)
  have e := p.perK (x / c) (x % c)
  rw [Int.mul_comm (x / c) c, show x % c + c * (x / c) = x by omega] at e
  have a := p.mono 0 (x % c) m0
  have b := p.mono (x % c) (0 + c) (by omega)
  rw [p.per] at b
  omega
end PA
set_option Elab.async false
set_option linter.all false
set_option maxRecDepth 100000
set_option maxHeartbeats 2000000
set_option autoImplicit false
namespace PA
open PySem L2 DL K01 PM
local macro_rules | `(tactic| walk_at "dl") => `(tactic| simp only [u_dSeq, u_dNext, u_dOwn, u_dOwnE, u_dFld, u_dMake, u_dMeth, u_dProp, u_dIsiO, u_dCallI, u_dSortSet, u_dFrz, e_isC, e_rgO, e_rgn, e_rgi, e_rgs, e_rgb, e_rgt, e_rgl, e_fz1, e_fz2, le_lim, lt_lim, set_snoc0, e_srtI, u_dBreak, u_dCont, u_dDrop, u_dRet, u_dRetN, u_dIfS, u_dNever, u_dAsg, u_dPar, u_dPutK, u_dAppend, u_dExtend, u_dCall, u_dVar, u_dC, u_dOp, u_dChain, u_dUn, u_dB, u_dNot, u_dAnd, u_dOr, u_dAndV, u_dOrV, u_dNotV, u_dIf, u_dNil, u_dCons, u_dTup, u_dLst, u_dLstC, u_dCB, u_dInK, u_dGetK, u_dDicC, u_dNoPart, u_dPart, u_dSl, u_dBits, u_dRev, u_dgName, u_dgsNil, u_dgsCons, u_dgTup, u_dgSet, u_diSeq, u_diR1, e_diR2, e_r2, u_diEnum, u_diEnumU, u_diZip, endD, finZ_d, finD, finC, List.take_length, u_dYes, wipeD, ix0, ix1, ix2, get_snoc, set_snoc, take_snoc, u_dOpC, u_dSlC, u_dListC, e_addC, e_mulC, e_loCl, e_loCt, e_loCs, e_wd, e_wc0, e_wcs, e_wsn, e_wc1, e_wc2, e_wl0, e_wl1, e_dl0, e_dl1, e_sl, e_st, e_ss, e_addi, e_adds, e_addt, e_addl, e_sub, e_muli, e_mult, e_mull, e_fdiv, e_mod, e_pow, e_neg, e_lt, e_le, e_gt, e_ge, e_eqi, e_eqs, e_eql, e_eqt, e_eqb, e_eqn, e_nei, e_nes, e_nel, e_net, e_neb, e_nen, e_isb, e_isn, e_inb, e_inn, e_in1, e_in2, e_in3, e_in4, e_in5, e_ixt, e_ixl, e_ixs, e_at0, e_at1, e_at2, e_at3, e_at4, e_at5, e_atl, e_keyi, e_keys, e_lenl, e_lent, e_lens, e_lend, e_maxi, e_mini, e_maxl, e_minl, e_sum, e_all, e_any, e_inti, e_intb, e_abs, e_tol, e_tot, e_tos, e_lol, e_lot, e_los, e_sll, e_slt, e_rvl, e_rvt, e_repr, e_isi, e_srtl, e_srtt, List.map_cons, List.map_nil, List.length_cons, List.length_nil, List.cons_append, List.nil_append, List.flatten_cons, List.flatten_nil, List.append_nil, List.replicate_succ, List.replicate_zero, List.getElem?_cons_zero, List.getElem?_cons_succ, List.set_cons_zero, List.set_cons_succ, Nat.reduceSub, Nat.reduceAdd, Int.reduceToNat, Int.reduceLE, Int.reduceLT, Int.reduceNeg, Nat.reduceLeDiff, Nat.reduceLT, Nat.zero_add, Option.some.injEq, Z.d.injEq, Z.c.injEq, D.bl.injEq, D.int.injEq, D.tup.injEq, D.lst.injEq, List.take_succ_cons, List.take_zero, exists_eq_left', exists_eq_left, true_and, and_true, if_true, Bool.not_true, Bool.not_false, Bool.false_eq_true, if_false, decide_true, decide_false, n_vK])
section
variable {c : Int} {f : Int → Int} {rs : List Row}
theorem gap_next (p : Psg c f) (n : Norm c f rs) {i : Nat} {r s : Row} (hi : rs[i]? = some r) (hj : rs[i + 1]? = some s) : At f s (r.2.1 + 1) := by
  have hc := p.pos
  have b := n.sorted hi hj (by omega)
  have ms := List.mem_of_getElem? hj
  have mr := List.mem_of_getElem? hi
  have os := n.val.ok s ms
  have or := n.val.ok r mr
  have rs_ := n.rng s ms
  simp only [Bef] at b
  refine ⟨os, by omega, n.cov.on s ms, fun y h1 h2 hl => ?_⟩
  obtain ⟨t, ht, k, o⟩ := n.cov.ex y hl
  have rt := n.rng t ht
  have w := n.val.wrap t ht r mr
  simp only [On] at o
  simp only [Bef, mv] at w
  rcases Int.lt_trichotomy k 0 with l | l | l
  · have := mul_step (show k + 1 ≤ 0 by omega) (show 0 ≤ c by omega)
    omega
  · subst l
    obtain ⟨j, hjj⟩ := List.getElem?_of_mem ht
    rcases Nat.lt_trichotomy j i with q | q | q
    · have := n.sorted hjj hi q
      simp only [Bef] at this
      omega
    · subst q
      rw [hi] at hjj
      cases hjj
      omega
    · by_cases z : j = i + 1
      · subst z
        rw [hj] at hjj
        cases hjj
        omega
      · have := n.sorted hj hjj (by omega)
        simp only [Bef] at this
        omega
  · have := mul_step (show 0 + 1 ≤ k by omega) (show 0 ≤ c by omega)
    omega
theorem gap_last (p : Psg c f) (n : Norm c f rs) {r r0 : Row} (hi : rs.getLast? = some r) (hj : rs[0]? = some r0) : At f (mv r0 c) (r.2.1 + 1) := by
  have hc := p.pos
  have m0 := List.mem_of_getElem? hj
  have mr := List.mem_of_getLast? hi
  have o0 := n.val.ok r0 m0
  have w0 := n.val.wrap r mr r0 m0
  simp only [Bef, mv] at w0
  have on' : ∀ x y, On (mv r0 c) x y → Lst f x ∧ f x = y := fun x y o => by
    simp only [On, mv] at o
    have q := n.cov.on r0 m0 (x - c) (y - c) ⟨by omega, by omega, by omega⟩
    have e := p.per (x - c)
    have l := lst_per p 1 (x - c)
    rw [Int.one_mul] at l
    rw [show x - c + c = x by omega] at e l
    exact ⟨l.mpr q.1, by omega⟩
  refine ⟨by simp only [mv]; omega, by simp only [mv]; omega, on', fun y h1 h2 hl => ?_⟩
  simp only [mv] at h2
  obtain ⟨t, ht, k, o⟩ := n.cov.ex y hl
  have lm := n.lastMost hi ht
  have hd : r0.1 ≤ t.1 := by
    obtain ⟨j, hjj⟩ := List.getElem?_of_mem ht
    by_cases z : j = 0
    · subst z
      rw [hj] at hjj
      cases hjj
      omega
    · have := n.sorted hj hjj (by omega)
      simp only [Bef] at this
      omega
  have w := n.val.wrap t ht r0 m0
  simp only [On] at o
  simp only [Bef, mv] at w
  rcases Int.lt_trichotomy k 0 with l | l | l
  · have := mul_step (show k + 1 ≤ 0 by omega) (show 0 ≤ c by omega)
    omega
  · subst l
    omega
  · have := mul_step (show 0 + 1 ≤ k by omega) (show 0 ≤ c by omega)
    omega
end
end PA
set_option Elab.async false
set_option linter.all false
set_option maxRecDepth 100000
set_option maxHeartbeats 2000000
set_option autoImplicit false
namespace PA
open PySem L2 DL K01 PM
local macro_rules | `(tactic| walk_at "dl") => `(tactic| simp only [u_dSeq, u_dNext, u_dOwn, u_dOwnE, u_dFld, u_dMake, u_dMeth, u_dProp, u_dIsiO, u_dCallI, u_dSortSet, u_dFrz, e_isC, e_rgO, e_rgn, e_rgi, e_rgs, e_rgb, e_rgt, e_rgl, e_fz1, e_fz2, le_lim, lt_lim, set_snoc0, e_srtI, u_dBreak, u_dCont, u_dDrop, u_dRet, u_dRetN, u_dIfS, u_dNever, u_dAsg, u_dPar, u_dPutK, u_dAppend, u_dExtend, u_dCall, u_dVar, u_dC, u_dOp, u_dChain, u_dUn, u_dB, u_dNot, u_dAnd, u_dOr, u_dAndV, u_dOrV, u_dNotV, u_dIf, u_dNil, u_dCons, u_dTup, u_dLst, u_dLstC, u_dCB, u_dInK, u_dGetK, u_dDicC, u_dNoPart, u_dPart, u_dSl, u_dBits, u_dRev, u_dgName, u_dgsNil, u_dgsCons, u_dgTup, u_dgSet, u_diSeq, u_diR1, e_diR2, e_r2, u_diEnum, u_diEnumU, u_diZip, endD, finZ_d, finD, finC, List.take_length, u_dYes, wipeD, ix0, ix1, ix2, get_snoc, set_snoc, take_snoc, u_dOpC, u_dSlC, u_dListC, e_addC, e_mulC, e_loCl, e_loCt, e_loCs, e_wd, e_wc0, e_wcs, e_wsn, e_wc1, e_wc2, e_wl0, e_wl1, e_dl0, e_dl1, e_sl, e_st, e_ss, e_addi, e_adds, e_addt, e_addl, e_sub, e_muli, e_mult, e_mull, e_fdiv, e_mod, e_pow, e_neg, e_lt, e_le, e_gt, e_ge, e_eqi, e_eqs, e_eql, e_eqt, e_eqb, e_eqn, e_nei, e_nes, e_nel, e_net, e_neb, e_nen, e_isb, e_isn, e_inb, e_inn, e_in1, e_in2, e_in3, e_in4, e_in5, e_ixt, e_ixl, e_ixs, e_at0, e_at1, e_at2, e_at3, e_at4, e_at5, e_atl, e_keyi, e_keys, e_lenl, e_lent, e_lens, e_lend, e_maxi, e_mini, e_maxl, e_minl, e_sum, e_all, e_any, e_inti, e_intb, e_abs, e_tol, e_tot, e_tos, e_lol, e_lot, e_los, e_sll, e_slt, e_rvl, e_rvt, e_repr, e_isi, e_srtl, e_srtt, List.map_cons, List.map_nil, List.length_cons, List.length_nil, List.cons_append, List.nil_append, List.flatten_cons, List.flatten_nil, List.append_nil, List.replicate_succ, List.replicate_zero, List.getElem?_cons_zero, List.getElem?_cons_succ, List.set_cons_zero, List.set_cons_succ, Nat.reduceSub, Nat.reduceAdd, Int.reduceToNat, Int.reduceLE, Int.reduceLT, Int.reduceNeg, Nat.reduceLeDiff, Nat.reduceLT, Nat.zero_add, Option.some.injEq, Z.d.injEq, Z.c.injEq, D.bl.injEq, D.int.injEq, D.tup.injEq, D.lst.injEq, List.take_succ_cons, List.take_zero, exists_eq_left', exists_eq_left, true_and, and_true, if_true, Bool.not_true, Bool.not_false, Bool.false_eq_true, if_false, decide_true, decide_false, n_vK])
/-! ### pieces on which two passages are lines -/
/-- from lo to hi, one behind the other -/
def TileP (lo hi : Int) : List (Int × Int) → Prop
  | [] => lo = hi + 1
  | p :: ps => p.1 = lo ∧ p.1 ≤ p.2 ∧ TileP (p.2 + 1) hi ps
structure Cpc (c : Int) (f g : Int → Int) (ps : List (Int × Int)) : Prop where
  tile : TileP 0 (c - 1) ps
  rng : ∀ p ∈ ps, 0 ≤ p.1 ∧ p.2 < c
  lf : ∀ p ∈ ps, ∀ x, p.1 ≤ x → x ≤ p.2 → f x = f p.1 + rise f p.1 * (x - p.1)
  lg : ∀ p ∈ ps, ∀ x, p.1 ≤ x → x ≤ p.2 → g x = g p.1 + rise g p.1 * (x - p.1)
end PA
set_option Elab.async false
set_option linter.all false
set_option maxRecDepth 100000
set_option maxHeartbeats 2000000
set_option autoImplicit false
namespace PA
open PySem L2 DL K01 PM
local macro_rules | `(tactic| walk_at "dl") => `(tactic| simp only [u_dSeq, u_dNext, u_dOwn, u_dOwnE, u_dFld, u_dMake, u_dMeth, u_dProp, u_dIsiO, u_dCallI, u_dSortSet, u_dFrz, e_isC, e_rgO, e_rgn, e_rgi, e_rgs, e_rgb, e_rgt, e_rgl, e_fz1, e_fz2, le_lim, lt_lim, set_snoc0, e_srtI, u_dBreak, u_dCont, u_dDrop, u_dRet, u_dRetN, u_dIfS, u_dNever, u_dAsg, u_dPar, u_dPutK, u_dAppend, u_dExtend, u_dCall, u_dVar, u_dC, u_dOp, u_dChain, u_dUn, u_dB, u_dNot, u_dAnd, u_dOr, u_dAndV, u_dOrV, u_dNotV, u_dIf, u_dNil, u_dCons, u_dTup, u_dLst, u_dLstC, u_dCB, u_dInK, u_dGetK, u_dDicC, u_dNoPart, u_dPart, u_dSl, u_dBits, u_dRev, u_dgName, u_dgsNil, u_dgsCons, u_dgTup, u_dgSet, u_diSeq, u_diR1, e_diR2, e_r2, u_diEnum, u_diEnumU, u_diZip, endD, finZ_d, finD, finC, List.take_length, u_dYes, wipeD, ix0, ix1, ix2, get_snoc, set_snoc, take_snoc, u_dOpC, u_dSlC, u_dListC, e_addC, e_mulC, e_loCl, e_loCt, e_loCs, e_wd, e_wc0, e_wcs, e_wsn, e_wc1, e_wc2, e_wl0, e_wl1, e_dl0, e_dl1, e_sl, e_st, e_ss, e_addi, e_adds, e_addt, e_addl, e_sub, e_muli, e_mult, e_mull, e_fdiv, e_mod, e_pow, e_neg, e_lt, e_le, e_gt, e_ge, e_eqi, e_eqs, e_eql, e_eqt, e_eqb, e_eqn, e_nei, e_nes, e_nel, e_net, e_neb, e_nen, e_isb, e_isn, e_inb, e_inn, e_in1, e_in2, e_in3, e_in4, e_in5, e_ixt, e_ixl, e_ixs, e_at0, e_at1, e_at2, e_at3, e_at4, e_at5, e_atl, e_keyi, e_keys, e_lenl, e_lent, e_lens, e_lend, e_maxi, e_mini, e_maxl, e_minl, e_sum, e_all, e_any, e_inti, e_intb, e_abs, e_tol, e_tot, e_tos, e_lol, e_lot, e_los, e_sll, e_slt, e_rvl, e_rvt, e_repr, e_isi, e_srtl, e_srtt, List.map_cons, List.map_nil, List.length_cons, List.length_nil, List.cons_append, List.nil_append, List.flatten_cons, List.flatten_nil, List.append_nil, List.replicate_succ, List.replicate_zero, List.getElem?_cons_zero, List.getElem?_cons_succ, List.set_cons_zero, List.set_cons_succ, Nat.reduceSub, Nat.reduceAdd, Int.reduceToNat, Int.reduceLE, Int.reduceLT, Int.reduceNeg, Nat.reduceLeDiff, Nat.reduceLT, Nat.zero_add, Option.some.injEq, Z.d.injEq, Z.c.injEq, D.bl.injEq, D.int.injEq, D.tup.injEq, D.lst.injEq, List.take_succ_cons, List.take_zero, exists_eq_left', exists_eq_left, true_and, and_true, if_true, Bool.not_true, Bool.not_false, Bool.false_eq_true, if_false, decide_true, decide_false, n_vK])
theorem cut_tail (xs : List D) : cutG xs (some 1) none = xs.tail := by
  unfold cutG
  rw [HT.sIx_none, show (1 : Int) = ((1 : Nat) : Int) from rfl, HT.sIx_nat]
  cases xs with
  | nil => simp
  | cons a l => simp
end PA
set_option Elab.async false
set_option linter.all false
set_option maxRecDepth 100000
set_option maxHeartbeats 2000000
set_option autoImplicit false
namespace PA
open PySem L2 DL K01 PM
local macro_rules | `(tactic| walk_at "dl") => `(tactic| simp only [u_dSeq, u_dNext, u_dOwn, u_dOwnE, u_dFld, u_dMake, u_dMeth, u_dProp, u_dIsiO, u_dCallI, u_dSortSet, u_dFrz, e_isC, e_rgO, e_rgn, e_rgi, e_rgs, e_rgb, e_rgt, e_rgl, e_fz1, e_fz2, le_lim, lt_lim, set_snoc0, e_srtI, u_dBreak, u_dCont, u_dDrop, u_dRet, u_dRetN, u_dIfS, u_dNever, u_dAsg, u_dPar, u_dPutK, u_dAppend, u_dExtend, u_dCall, u_dVar, u_dC, u_dOp, u_dChain, u_dUn, u_dB, u_dNot, u_dAnd, u_dOr, u_dAndV, u_dOrV, u_dNotV, u_dIf, u_dNil, u_dCons, u_dTup, u_dLst, u_dLstC, u_dCB, u_dInK, u_dGetK, u_dDicC, u_dNoPart, u_dPart, u_dSl, u_dBits, u_dRev, u_dgName, u_dgsNil, u_dgsCons, u_dgTup, u_dgSet, u_diSeq, u_diR1, e_diR2, e_r2, u_diEnum, u_diEnumU, u_diZip, endD, finZ_d, finD, finC, List.take_length, u_dYes, wipeD, ix0, ix1, ix2, get_snoc, set_snoc, take_snoc, u_dOpC, u_dSlC, u_dListC, e_addC, e_mulC, e_loCl, e_loCt, e_loCs, e_wd, e_wc0, e_wcs, e_wsn, e_wc1, e_wc2, e_wl0, e_wl1, e_dl0, e_dl1, e_sl, e_st, e_ss, e_addi, e_adds, e_addt, e_addl, e_sub, e_muli, e_mult, e_mull, e_fdiv, e_mod, e_pow, e_neg, e_lt, e_le, e_gt, e_ge, e_eqi, e_eqs, e_eql, e_eqt, e_eqb, e_eqn, e_nei, e_nes, e_nel, e_net, e_neb, e_nen, e_isb, e_isn, e_inb, e_inn, e_in1, e_in2, e_in3, e_in4, e_in5, e_ixt, e_ixl, e_ixs, e_at0, e_at1, e_at2, e_at3, e_at4, e_at5, e_atl, e_keyi, e_keys, e_lenl, e_lent, e_lens, e_lend, e_maxi, e_mini, e_maxl, e_minl, e_sum, e_all, e_any, e_inti, e_intb, e_abs, e_tol, e_tot, e_tos, e_lol, e_lot, e_los, e_sll, e_slt, e_rvl, e_rvt, e_repr, e_isi, e_srtl, e_srtt, List.map_cons, List.map_nil, List.length_cons, List.length_nil, List.cons_append, List.nil_append, List.flatten_cons, List.flatten_nil, List.append_nil, List.replicate_succ, List.replicate_zero, List.getElem?_cons_zero, List.getElem?_cons_succ, List.set_cons_zero, List.set_cons_succ, Nat.reduceSub, Nat.reduceAdd, Int.reduceToNat, Int.reduceLE, Int.reduceLT, Int.reduceNeg, Nat.reduceLeDiff, Nat.reduceLT, Nat.zero_add, Option.some.injEq, Z.d.injEq, Z.c.injEq, D.bl.injEq, D.int.injEq, D.tup.injEq, D.lst.injEq, List.take_succ_cons, List.take_zero, exists_eq_left', exists_eq_left, true_and, and_true, if_true, Bool.not_true, Bool.not_false, Bool.false_eq_true, if_false, decide_true, decide_false, n_vK])
end PA
set_option Elab.async false
set_option linter.all false
set_option maxRecDepth 100000
set_option maxHeartbeats 2000000
set_option autoImplicit false
namespace PA
open PySem L2 DL K01 PM
local macro_rules | `(tactic| walk_at "dl") => `(tactic| simp only [u_dSeq, u_dNext, u_dOwn, u_dOwnE, u_dFld, u_dMake, u_dMeth, u_dProp, u_dIsiO, u_dCallI, u_dSortSet, u_dFrz, e_isC, e_rgO, e_rgn, e_rgi, e_rgs, e_rgb, e_rgt, e_rgl, e_fz1, e_fz2, le_lim, lt_lim, set_snoc0, e_srtI, u_dBreak, u_dCont, u_dDrop, u_dRet, u_dRetN, u_dIfS, u_dNever, u_dAsg, u_dPar, u_dPutK, u_dAppend, u_dExtend, u_dCall, u_dVar, u_dC, u_dOp, u_dChain, u_dUn, u_dB, u_dNot, u_dAnd, u_dOr, u_dAndV, u_dOrV, u_dNotV, u_dIf, u_dNil, u_dCons, u_dTup, u_dLst, u_dLstC, u_dCB, u_dInK, u_dGetK, u_dDicC, u_dNoPart, u_dPart, u_dSl, u_dBits, u_dRev, u_dgName, u_dgsNil, u_dgsCons, u_dgTup, u_dgSet, u_diSeq, u_diR1, e_diR2, e_r2, u_diEnum, u_diEnumU, u_diZip, endD, finZ_d, finD, finC, List.take_length, u_dYes, wipeD, ix0, ix1, ix2, get_snoc, set_snoc, take_snoc, u_dOpC, u_dSlC, u_dListC, e_addC, e_mulC, e_loCl, e_loCt, e_loCs, e_wd, e_wc0, e_wcs, e_wsn, e_wc1, e_wc2, e_wl0, e_wl1, e_dl0, e_dl1, e_sl, e_st, e_ss, e_addi, e_adds, e_addt, e_addl, e_sub, e_muli, e_mult, e_mull, e_fdiv, e_mod, e_pow, e_neg, e_lt, e_le, e_gt, e_ge, e_eqi, e_eqs, e_eql, e_eqt, e_eqb, e_eqn, e_nei, e_nes, e_nel, e_net, e_neb, e_nen, e_isb, e_isn, e_inb, e_inn, e_in1, e_in2, e_in3, e_in4, e_in5, e_ixt, e_ixl, e_ixs, e_at0, e_at1, e_at2, e_at3, e_at4, e_at5, e_atl, e_keyi, e_keys, e_lenl, e_lent, e_lens, e_lend, e_maxi, e_mini, e_maxl, e_minl, e_sum, e_all, e_any, e_inti, e_intb, e_abs, e_tol, e_tot, e_tos, e_lol, e_lot, e_los, e_sll, e_slt, e_rvl, e_rvt, e_repr, e_isi, e_srtl, e_srtt, List.map_cons, List.map_nil, List.length_cons, List.length_nil, List.cons_append, List.nil_append, List.flatten_cons, List.flatten_nil, List.append_nil, List.replicate_succ, List.replicate_zero, List.getElem?_cons_zero, List.getElem?_cons_succ, List.set_cons_zero, List.set_cons_succ, Nat.reduceSub, Nat.reduceAdd, Int.reduceToNat, Int.reduceLE, Int.reduceLT, Int.reduceNeg, Nat.reduceLeDiff, Nat.reduceLT, Nat.zero_add, Option.some.injEq, Z.d.injEq, Z.c.injEq, D.bl.injEq, D.int.injEq, D.tup.injEq, D.lst.injEq, List.take_succ_cons, List.take_zero, exists_eq_left', exists_eq_left, true_and, and_true, if_true, Bool.not_true, Bool.not_false, Bool.false_eq_true, if_false, decide_true, decide_false, n_vK])
end PA
set_option Elab.async false
set_option linter.all false
set_option maxRecDepth 100000
set_option maxHeartbeats 2000000
set_option autoImplicit false
namespace PA
open PySem L2 DL K01 PM
local macro_rules | `(tactic| walk_at "dl") => `(tactic| simp only [u_dSeq, u_dNext, u_dOwn, u_dOwnE, u_dFld, u_dMake, u_dMeth, u_dProp, u_dIsiO, u_dCallI, u_dSortSet, u_dFrz, e_isC, e_rgO, e_rgn, e_rgi, e_rgs, e_rgb, e_rgt, e_rgl, e_fz1, e_fz2, le_lim, lt_lim, set_snoc0, e_srtI, u_dBreak, u_dCont, u_dDrop, u_dRet, u_dRetN, u_dIfS, u_dNever, u_dAsg, u_dPar, u_dPutK, u_dAppend, u_dExtend, u_dCall, u_dVar, u_dC, u_dOp, u_dChain, u_dUn, u_dB, u_dNot, u_dAnd, u_dOr, u_dAndV, u_dOrV, u_dNotV, u_dIf, u_dNil, u_dCons, u_dTup, u_dLst, u_dLstC, u_dCB, u_dInK, u_dGetK, u_dDicC, u_dNoPart, u_dPart, u_dSl, u_dBits, u_dRev, u_dgName, u_dgsNil, u_dgsCons, u_dgTup, u_dgSet, u_diSeq, u_diR1, e_diR2, e_r2, u_diEnum, u_diEnumU, u_diZip, endD, finZ_d, finD, finC, List.take_length, u_dYes, wipeD, ix0, ix1, ix2, get_snoc, set_snoc, take_snoc, u_dOpC, u_dSlC, u_dListC, e_addC, e_mulC, e_loCl, e_loCt, e_loCs, e_wd, e_wc0, e_wcs, e_wsn, e_wc1, e_wc2, e_wl0, e_wl1, e_dl0, e_dl1, e_sl, e_st, e_ss, e_addi, e_adds, e_addt, e_addl, e_sub, e_muli, e_mult, e_mull, e_fdiv, e_mod, e_pow, e_neg, e_lt, e_le, e_gt, e_ge, e_eqi, e_eqs, e_eql, e_eqt, e_eqb, e_eqn, e_nei, e_nes, e_nel, e_net, e_neb, e_nen, e_isb, e_isn, e_inb, e_inn, e_in1, e_in2, e_in3, e_in4, e_in5, e_ixt, e_ixl, e_ixs, e_at0, e_at1, e_at2, e_at3, e_at4, e_at5, e_atl, e_keyi, e_keys, e_lenl, e_lent, e_lens, e_lend, e_maxi, e_mini, e_maxl, e_minl, e_sum, e_all, e_any, e_inti, e_intb, e_abs, e_tol, e_tot, e_tos, e_lol, e_lot, e_los, e_sll, e_slt, e_rvl, e_rvt, e_repr, e_isi, e_srtl, e_srtt, List.map_cons, List.map_nil, List.length_cons, List.length_nil, List.cons_append, List.nil_append, List.flatten_cons, List.flatten_nil, List.append_nil, List.replicate_succ, List.replicate_zero, List.getElem?_cons_zero, List.getElem?_cons_succ, List.set_cons_zero, List.set_cons_succ, Nat.reduceSub, Nat.reduceAdd, Int.reduceToNat, Int.reduceLE, Int.reduceLT, Int.reduceNeg, Nat.reduceLeDiff, Nat.reduceLT, Nat.zero_add, Option.some.injEq, Z.d.injEq, Z.c.injEq, D.bl.injEq, D.int.injEq, D.tup.injEq, D.lst.injEq, List.take_succ_cons, List.take_zero, exists_eq_left', exists_eq_left, true_and, and_true, if_true, Bool.not_true, Bool.not_false, Bool.false_eq_true, if_false, decide_true, decide_false, n_vK])
end PA
set_option Elab.async false
set_option linter.all false
set_option maxRecDepth 100000
set_option maxHeartbeats 2000000
set_option autoImplicit false
namespace PA
open PySem L2 DL K01 PM
local macro_rules | `(tactic| walk_at "dl") => `(tactic| simp only [u_dSeq, u_dNext, u_dOwn, u_dOwnE, u_dFld, u_dMake, u_dMeth, u_dProp, u_dIsiO, u_dCallI, u_dSortSet, u_dFrz, e_isC, e_rgO, e_rgn, e_rgi, e_rgs, e_rgb, e_rgt, e_rgl, e_fz1, e_fz2, le_lim, lt_lim, set_snoc0, e_srtI, u_dBreak, u_dCont, u_dDrop, u_dRet, u_dRetN, u_dIfS, u_dNever, u_dAsg, u_dPar, u_dPutK, u_dAppend, u_dExtend, u_dCall, u_dVar, u_dC, u_dOp, u_dChain, u_dUn, u_dB, u_dNot, u_dAnd, u_dOr, u_dAndV, u_dOrV, u_dNotV, u_dIf, u_dNil, u_dCons, u_dTup, u_dLst, u_dLstC, u_dCB, u_dInK, u_dGetK, u_dDicC, u_dNoPart, u_dPart, u_dSl, u_dBits, u_dRev, u_dgName, u_dgsNil, u_dgsCons, u_dgTup, u_dgSet, u_diSeq, u_diR1, e_diR2, e_r2, u_diEnum, u_diEnumU, u_diZip, endD, finZ_d, finD, finC, List.take_length, u_dYes, wipeD, ix0, ix1, ix2, get_snoc, set_snoc, take_snoc, u_dOpC, u_dSlC, u_dListC, e_addC, e_mulC, e_loCl, e_loCt, e_loCs, e_wd, e_wc0, e_wcs, e_wsn, e_wc1, e_wc2, e_wl0, e_wl1, e_dl0, e_dl1, e_sl, e_st, e_ss, e_addi, e_adds, e_addt, e_addl, e_sub, e_muli, e_mult, e_mull, e_fdiv, e_mod, e_pow, e_neg, e_lt, e_le, e_gt, e_ge, e_eqi, e_eqs, e_eql, e_eqt, e_eqb, e_eqn, e_nei, e_nes, e_nel, e_net, e_neb, e_nen, e_isb, e_isn, e_inb, e_inn, e_in1, e_in2, e_in3, e_in4, e_in5, e_ixt, e_ixl, e_ixs, e_at0, e_at1, e_at2, e_at3, e_at4, e_at5, e_atl, e_keyi, e_keys, e_lenl, e_lent, e_lens, e_lend, e_maxi, e_mini, e_maxl, e_minl, e_sum, e_all, e_any, e_inti, e_intb, e_abs, e_tol, e_tot, e_tos, e_lol, e_lot, e_los, e_sll, e_slt, e_rvl, e_rvt, e_repr, e_isi, e_srtl, e_srtt, List.map_cons, List.map_nil, List.length_cons, List.length_nil, List.cons_append, List.nil_append, List.flatten_cons, List.flatten_nil, List.append_nil, List.replicate_succ, List.replicate_zero, List.getElem?_cons_zero, List.getElem?_cons_succ, List.set_cons_zero, List.set_cons_succ, Nat.reduceSub, Nat.reduceAdd, Int.reduceToNat, Int.reduceLE, Int.reduceLT, Int.reduceNeg, Nat.reduceLeDiff, Nat.reduceLT, Nat.zero_add, Option.some.injEq, Z.d.injEq, Z.c.injEq, D.bl.injEq, D.int.injEq, D.tup.injEq, D.lst.injEq, List.take_succ_cons, List.take_zero, exists_eq_left', exists_eq_left, true_and, and_true, if_true, Bool.not_true, Bool.not_false, Bool.false_eq_true, if_false, decide_true, decide_false, n_vK])
def sp_is_row : DSpec := fun zs cs k => match zs with
  | [.d (.tup [.int a, .int b, .int v])] => k (.d (.bl (decide (a ≤ b)))) cs
  | _ => False
theorem len_is_row : ∀ zs cs q, sp_is_row zs cs q → zs.length = (["value"] : List Str).length := fun zs cs q h => by
  unfold sp_is_row at h
  split at h
  · rfl
  · exact h.elim
def t_is_row : DS :=
  (dSeq (dIfS (dOr (dNot (dB (dCB (isiN "tuple") (dCons (dVar 0) (dCons (dC (.ty "tuple")) dNil))))) (dOr (dB (dOp neUD (dCB lenD (dCons (dVar 0) dNil)) (dC (.int 3)))) (dNot (dB (dCB allD (dCons (dLc (diSeq (dVar 0)) (dgName 1) dYes (dCall sp_is_int (dCons (dVar 1) dNil)) [1]) dNil)))))) (dRet (dC (.bl false))) dNext)
  (dRet (dOp leD (dOp ixD (dVar 0) (dC (.int 0))) (dOp ixD (dVar 0) (dC (.int 1))))))
theorem rd_is_row : ∀ zs cs q, sp_is_row zs cs q → t_is_row (endD cs.length q) (startD ["value", "number"] zs) cs := fun zs cs q h => by
  unfold sp_is_row at h
  split at h
  rotate_left
  · exact h.elim
  rename_i a b v
  simp only [startD, List.map_cons, List.map_nil, List.length_cons, List.length_nil, Nat.reduceAdd, Nat.zero_add, Nat.reduceSub, List.replicate_zero, List.replicate_succ, List.cons_append, List.nil_append, List.append_nil]
  unfold t_is_row
  try walk_at "dl"
  refine ⟨true, kit_tup (x := .tup [.int a, .int b, .int v]) rfl, ?_⟩
  try walk_at "dl"
  rw [if_neg (by decide)]
  refine dLc_mk [.int a, .int b, .int v] yes cs (fun K h => by walk_at "dl"; exact h) (fun _ => .bl true) (by simp) (fun i d acc hd' P hP => ?_) ?_ (fun _ => trivial)
  · have hd2 : ∃ n, d = .int n := by
      have := List.mem_of_getElem? hd'
      simp only [List.mem_cons, List.not_mem_nil, or_false] at this
      rcases this with e | e | e
      · exact ⟨a, e⟩
      · exact ⟨b, e⟩
      · exact ⟨v, e⟩
    obtain ⟨n, rfl⟩ := hd2
    try walk_at "dl"
    simp only [sp_is_int]
    exact ⟨rfl, hP⟩
  · try walk_at "dl"
    refine ⟨[true, true, true], rfl, ?_⟩
    simpa using h
def sp_are_runs : DSpec := fun zs cs k => match zs with
  | [.d (.int c), .d (.tup xs)] => ∃ rs, xs = rowsT rs ∧ (Val c rs ∧ rs.length ≤ 1000000) ∧ k (.d (.bl true)) cs
  | _ => False
theorem len_are_runs : ∀ zs cs q, sp_are_runs zs cs q → zs.length = (["cycle", "value"] : List Str).length := fun zs cs q h => by
  unfold sp_are_runs at h
  split at h
  · rfl
  · exact h.elim
def t_are_runs : DS :=
  (dSeq (dIfS (dOr (dNot (dB (dCB (isiN "tuple") (dCons (dVar 1) (dCons (dC (.ty "tuple")) dNil))))) (dOr (dB (dOp eqUD (dVar 1) (dTup dNil))) (dNot (dB (dCB allD (dCons (dLc (diSeq (dVar 1)) (dgName 5) dYes (dCall sp_is_row (dCons (dVar 5) dNil)) [5]) dNil)))))) (dRet (dC (.bl false))) dNext)
  (dSeq (dAsg (dTup (dCons (dOp addD (dOp ixD (dOp ixD (dVar 1) (dC (.int 0))) (dC (.int 0))) (dVar 0)) (dCons (dOp addD (dOp ixD (dOp ixD (dVar 1) (dC (.int 0))) (dC (.int 1))) (dVar 0)) (dCons (dOp addD (dOp ixD (dOp ixD (dVar 1) (dC (.int 0))) (dC (.int 2))) (dVar 0)) dNil)))) (dgName 2))
  (dSeq (dFor (diZip (dVar 1) (dOp addD (dSl (dVar 1) (dPart (dC (.int 1))) dNoPart) (dTup (dCons (dVar 2) dNil)))) (dgTup 2 (dgsCons (dgName 3) (dgsCons (dgName 4) dgsNil))) (dIfS (dOr (dB (dOp leD (dOp ixD (dVar 4) (dC (.int 0))) (dOp ixD (dVar 3) (dC (.int 1))))) (dB (dOp leD (dOp ixD (dVar 4) (dC (.int 2))) (dOp subD (dOp addD (dOp ixD (dVar 3) (dC (.int 2))) (dOp ixD (dVar 3) (dC (.int 1)))) (dOp ixD (dVar 3) (dC (.int 0))))))) (dRet (dC (.bl false))) dNext))
  (dRet (dC (.bl true))))))
theorem rd_are_runs : ∀ zs cs q, sp_are_runs zs cs q → t_are_runs (endD cs.length q) (startD ["cycle", "value", "moved", "one", "other", "row"] zs) cs := fun zs cs q h => by
  unfold sp_are_runs at h
  split at h
  rotate_left
  · exact h.elim
  rename_i c xs
  simp only [startD, List.map_cons, List.map_nil, List.length_cons, List.length_nil, Nat.reduceAdd, Nat.zero_add, Nat.reduceSub, List.replicate_zero, List.replicate_succ, List.cons_append, List.nil_append, List.append_nil]
  obtain ⟨rs, rfl, ⟨v, len⟩, h⟩ := h
  have hd0 : ∃ r0, rs[0]? = some r0 := by
    cases q : rs with
    | nil => exact absurd q v.ne
    | cons a l => exact ⟨a, rfl⟩
  obtain ⟨r0, hr0⟩ := hd0
  have h0 : ∀ k : D → Prop, atD (rowsT rs) 0 k = k (rowT r0) := fun k => e_at (at_nat (i := 0) (rowsT_get hr0))
  unfold t_are_runs
  try walk_at "dl"
  refine ⟨true, kit_tup (x := .tup (rowsT rs)) (ok_rowsT rs), ?_⟩
  try walk_at "dl"
  refine ⟨⟨(eqN_rowsT rs).eq (by decide), (EqN.tup (e := 0) (ds := []) (fun d hd => by simp at hd)).eq (by decide)⟩, ?_⟩
  have ev : eqvD (.tup (rowsT rs)) (.tup []) = false := by
    cases rs with
    | nil => cases hr0
    | cons a l => rfl
  rw [ev, if_neg Bool.false_ne_true]
  refine dLc_mk (rowsT rs) yes cs (fun K h => by walk_at "dl"; exact h) (fun _ => .bl true) (by rw [len_rowsT]; omega) (fun i d acc hd' P hP => ?_) ?_ (fun _ => trivial)
  · obtain ⟨r, hr, rfl⟩ := get_rowsT hd'
    simp only [rowT]
    try walk_at "dl"
    simp only [sp_is_row]
    rw [decide_eq_true (v.ok r (List.mem_of_getElem? hr))]
    exact hP
  · try walk_at "dl"
    refine ⟨List.replicate rs.length true, by rw [List.map_replicate]; unfold rowsT; rw [List.map_map]; exact List.map_const' .., ?_⟩
    rw [show (List.replicate rs.length true).all id = true by simp]
    try walk_at "dl"
    simp only [h0]
    simp only [rowT]
    try walk_at "dl"
    refine dFor_it ?_
    try walk_at "dl"
    rw [cut_tail]
    have tl : (rowsT rs).tail = rowsT rs.tail := by unfold rowsT; rw [List.map_tail]
    rw [tl]
    refine ⟨lim_le (by rw [len_rowsT, List.length_tail]; omega), ?_⟩
    rw [show rowsT rs.tail ++ [D.tup [D.int (r0.1 + c), D.int (r0.2.1 + c), D.int (r0.2.2 + c)]] = rowsT (rs.tail ++ [mv r0 c]) by rw [rowsT_app]; rfl]
    refine dForB_mk (fun i en cx => ∃ (o3 o4 : Option Z) (z : D), en = [some (.d (.int c)), some (.d (.tup (rowsT rs))), some (.d z), o3, o4, none] ∧ cx = cs) ⟨_, _, _, rfl, rfl⟩ (fun i d en cx hd hI => ?_) (fun en cx hI => ?_) (fun _ _ _ _ => trivial)
    · obtain ⟨o3, o4, z, rfl, rfl⟩ := hI
      obtain ⟨d1, d2, h1, h2, rfl⟩ := zipD_get hd
      obtain ⟨a, ha, rfl⟩ := get_rowsT h1
      obtain ⟨b, hb, rfl⟩ := get_rowsT h2
      have ma := List.mem_of_getElem? ha
      have bf : Bef a b := by
        by_cases y : i < rs.tail.length
        · rw [List.getElem?_append_left y, List.getElem?_tail] at hb
          obtain ⟨l1, rfl⟩ := List.getElem?_eq_some_iff.mp ha
          obtain ⟨l2, rfl⟩ := List.getElem?_eq_some_iff.mp hb
          exact (List.pairwise_iff_getElem.mp v.bef) i (i + 1) l1 l2 (by omega)
        · rw [List.getElem?_append_right (by omega)] at hb
          have : b = mv r0 c := by
            have := List.mem_of_getElem? hb
            simpa using this
          rw [this]
          exact v.wrap a ma r0 (List.mem_of_getElem? hr0)
      simp only [Bef] at bf
      have n1 : ¬ b.1 ≤ a.2.1 := by omega
      have n2 : ¬ b.2.2 ≤ a.2.2 + a.2.1 - a.1 := by omega
      simp only [rowT]
      try walk_at "dl"
      simp only [n1, n2, decide_false, Bool.false_eq_true, if_false]
      exact .inl ⟨_, _, _, rfl, rfl⟩
    · obtain ⟨o3, o4, z, rfl, rfl⟩ := hI
      try walk_at "dl"
      exact h
end PA
set_option Elab.async false
set_option linter.all false
set_option maxRecDepth 100000
set_option maxHeartbeats 2000000
set_option autoImplicit false
namespace PA
open PySem L2 DL K01 PM
local macro_rules | `(tactic| walk_at "dl") => `(tactic| simp only [u_dSeq, u_dNext, u_dOwn, u_dOwnE, u_dFld, u_dMake, u_dMeth, u_dProp, u_dIsiO, u_dCallI, u_dSortSet, u_dFrz, e_isC, e_rgO, e_rgn, e_rgi, e_rgs, e_rgb, e_rgt, e_rgl, e_fz1, e_fz2, le_lim, lt_lim, set_snoc0, e_srtI, u_dBreak, u_dCont, u_dDrop, u_dRet, u_dRetN, u_dIfS, u_dNever, u_dAsg, u_dPar, u_dPutK, u_dAppend, u_dExtend, u_dCall, u_dVar, u_dC, u_dOp, u_dChain, u_dUn, u_dB, u_dNot, u_dAnd, u_dOr, u_dAndV, u_dOrV, u_dNotV, u_dIf, u_dNil, u_dCons, u_dTup, u_dLst, u_dLstC, u_dCB, u_dInK, u_dGetK, u_dDicC, u_dNoPart, u_dPart, u_dSl, u_dBits, u_dRev, u_dgName, u_dgsNil, u_dgsCons, u_dgTup, u_dgSet, u_diSeq, u_diR1, e_diR2, e_r2, u_diEnum, u_diEnumU, u_diZip, endD, finZ_d, finD, finC, List.take_length, u_dYes, wipeD, ix0, ix1, ix2, get_snoc, set_snoc, take_snoc, u_dOpC, u_dSlC, u_dListC, e_addC, e_mulC, e_loCl, e_loCt, e_loCs, e_wd, e_wc0, e_wcs, e_wsn, e_wc1, e_wc2, e_wl0, e_wl1, e_dl0, e_dl1, e_sl, e_st, e_ss, e_addi, e_adds, e_addt, e_addl, e_sub, e_muli, e_mult, e_mull, e_fdiv, e_mod, e_pow, e_neg, e_lt, e_le, e_gt, e_ge, e_eqi, e_eqs, e_eql, e_eqt, e_eqb, e_eqn, e_nei, e_nes, e_nel, e_net, e_neb, e_nen, e_isb, e_isn, e_inb, e_inn, e_in1, e_in2, e_in3, e_in4, e_in5, e_ixt, e_ixl, e_ixs, e_at0, e_at1, e_at2, e_at3, e_at4, e_at5, e_atl, e_keyi, e_keys, e_lenl, e_lent, e_lens, e_lend, e_maxi, e_mini, e_maxl, e_minl, e_sum, e_all, e_any, e_inti, e_intb, e_abs, e_tol, e_tot, e_tos, e_lol, e_lot, e_los, e_sll, e_slt, e_rvl, e_rvt, e_repr, e_isi, e_srtl, e_srtt, List.map_cons, List.map_nil, List.length_cons, List.length_nil, List.cons_append, List.nil_append, List.flatten_cons, List.flatten_nil, List.append_nil, List.replicate_succ, List.replicate_zero, List.getElem?_cons_zero, List.getElem?_cons_succ, List.set_cons_zero, List.set_cons_succ, Nat.reduceSub, Nat.reduceAdd, Int.reduceToNat, Int.reduceLE, Int.reduceLT, Int.reduceNeg, Nat.reduceLeDiff, Nat.reduceLT, Nat.zero_add, Option.some.injEq, Z.d.injEq, Z.c.injEq, D.bl.injEq, D.int.injEq, D.tup.injEq, D.lst.injEq, List.take_succ_cons, List.take_zero, exists_eq_left', exists_eq_left, true_and, and_true, if_true, Bool.not_true, Bool.not_false, Bool.false_eq_true, if_false, decide_true, decide_false, n_vK])
def psgD (cA : Str → Addr) (c : Int) (rs : List Row) : D := .ob (cA "Passage") ["own_cycle", "own_runs"] [.int c, .tup (rowsT rs)]
def sp_Passage_init (cA : Str → Addr) : DSpec := fun zs cs k => match zs with
  | [.c n, .d (.int c), .d (.tup xs)] => cs[n]? = some (.ob (cA "Passage") [] []) ∧ ∃ rs f, xs = rowsT rs ∧ (RowsOk c f rs ∧ rs.length ≤ 1000000) ∧ ∀ out, Canon c f out → out.length ≤ rs.length → k (.d .non) (cs.set n (psgD cA c out))
  | _ => False
theorem len_Passage_init (cA : Str → Addr) : ∀ zs cs q, (sp_Passage_init cA) zs cs q → zs.length = (["self", "cycle", "runs"] : List Str).length := fun zs cs q h => by
  unfold sp_Passage_init at h
  split at h
  · rfl
  · exact h.elim
def t_Passage_init (cA : Str → Addr) : DS :=
  (dSeq (dDrop (dCall sp_require_cycle (dCons (dVar 1) dNil)))
  (dSeq (dIfS (dNot (dB (dCall sp_are_runs (dCons (dVar 1) (dCons (dVar 2) dNil))))) dNever dNext)
  (dSeq (dSetF (cA "Passage") "own_cycle" (dVar 0) (dVar 1))
  (dSetF (cA "Passage") "own_runs" (dVar 0) (dCall sp_normal_runs (dCons (dVar 1) (dCons (dCB lstOfD (dCons (dVar 2) dNil)) dNil)))))))
theorem rd_Passage_init (cA : Str → Addr) : ∀ zs cs q, (sp_Passage_init cA) zs cs q → t_Passage_init cA (endD cs.length q) (startD ["self", "cycle", "runs"] zs) cs := fun zs cs q h => by
  unfold sp_Passage_init at h
  split at h
  rotate_left
  · exact h.elim
  rename_i n c xs
  simp only [startD, List.map_cons, List.map_nil, List.length_cons, List.length_nil, Nat.reduceAdd, Nat.zero_add, Nat.reduceSub, List.replicate_zero, List.replicate_succ, List.cons_append, List.nil_append, List.append_nil]
  obtain ⟨hn, rs, f, rfl, ⟨R, len⟩, h⟩ := h
  have hc := R.psg.pos
  have cle := R.cle
  unfold t_Passage_init
  try walk_at "dl"
  simp only [sp_require_cycle, sp_are_runs]
  have hnl : n < cs.length := (List.getElem?_eq_some_iff.mp hn).1
  refine ⟨⟨rfl, by simp only [inRange, hc, cle, decide_true, Bool.and_self]⟩, rs, rfl, ⟨R.val, len⟩, true, rfl, ?_⟩
  rw [if_neg (by decide)]
  unfold dSetF
  try walk_at "dl"
  simp only [hn]
  refine ⟨trivial, by decide, ?_⟩
  try walk_at "dl"
  simp only [sp_normal_runs]
  refine ⟨rs, f, rfl, R, fun out hc' hl => ?_⟩
  have g2 : (cs.set n (.ob (cA "Passage") (putN "own_cycle" []) (putD "own_cycle" (.int c) [] [])))[n]? = some (.ob (cA "Passage") (putN "own_cycle" []) (putD "own_cycle" (.int c) [] [])) := List.getElem?_set_self hnl
  try walk_at "dl"
  simp only [g2]
  refine ⟨trivial, by decide, ?_⟩
  rw [List.set_set, List.take_of_length_le (by rw [List.length_set]; exact Nat.le_refl _)]
  exact h out hc' hl
/-! ### properties, the call, the operators -/
end PA
set_option Elab.async false
set_option linter.all false
set_option maxRecDepth 100000
set_option maxHeartbeats 2000000
set_option autoImplicit false
namespace PA
open PySem L2 DL K01 PM
local macro_rules | `(tactic| walk_at "dl") => `(tactic| simp only [u_dSeq, u_dNext, u_dOwn, u_dOwnE, u_dFld, u_dMake, u_dMeth, u_dProp, u_dIsiO, u_dCallI, u_dSortSet, u_dFrz, e_isC, e_rgO, e_rgn, e_rgi, e_rgs, e_rgb, e_rgt, e_rgl, e_fz1, e_fz2, le_lim, lt_lim, set_snoc0, e_srtI, u_dBreak, u_dCont, u_dDrop, u_dRet, u_dRetN, u_dIfS, u_dNever, u_dAsg, u_dPar, u_dPutK, u_dAppend, u_dExtend, u_dCall, u_dVar, u_dC, u_dOp, u_dChain, u_dUn, u_dB, u_dNot, u_dAnd, u_dOr, u_dAndV, u_dOrV, u_dNotV, u_dIf, u_dNil, u_dCons, u_dTup, u_dLst, u_dLstC, u_dCB, u_dInK, u_dGetK, u_dDicC, u_dNoPart, u_dPart, u_dSl, u_dBits, u_dRev, u_dgName, u_dgsNil, u_dgsCons, u_dgTup, u_dgSet, u_diSeq, u_diR1, e_diR2, e_r2, u_diEnum, u_diEnumU, u_diZip, endD, finZ_d, finD, finC, List.take_length, u_dYes, wipeD, ix0, ix1, ix2, get_snoc, set_snoc, take_snoc, u_dOpC, u_dSlC, u_dListC, e_addC, e_mulC, e_loCl, e_loCt, e_loCs, e_wd, e_wc0, e_wcs, e_wsn, e_wc1, e_wc2, e_wl0, e_wl1, e_dl0, e_dl1, e_sl, e_st, e_ss, e_addi, e_adds, e_addt, e_addl, e_sub, e_muli, e_mult, e_mull, e_fdiv, e_mod, e_pow, e_neg, e_lt, e_le, e_gt, e_ge, e_eqi, e_eqs, e_eql, e_eqt, e_eqb, e_eqn, e_nei, e_nes, e_nel, e_net, e_neb, e_nen, e_isb, e_isn, e_inb, e_inn, e_in1, e_in2, e_in3, e_in4, e_in5, e_ixt, e_ixl, e_ixs, e_at0, e_at1, e_at2, e_at3, e_at4, e_at5, e_atl, e_keyi, e_keys, e_lenl, e_lent, e_lens, e_lend, e_maxi, e_mini, e_maxl, e_minl, e_sum, e_all, e_any, e_inti, e_intb, e_abs, e_tol, e_tot, e_tos, e_lol, e_lot, e_los, e_sll, e_slt, e_rvl, e_rvt, e_repr, e_isi, e_srtl, e_srtt, List.map_cons, List.map_nil, List.length_cons, List.length_nil, List.cons_append, List.nil_append, List.flatten_cons, List.flatten_nil, List.append_nil, List.replicate_succ, List.replicate_zero, List.getElem?_cons_zero, List.getElem?_cons_succ, List.set_cons_zero, List.set_cons_succ, Nat.reduceSub, Nat.reduceAdd, Int.reduceToNat, Int.reduceLE, Int.reduceLT, Int.reduceNeg, Nat.reduceLeDiff, Nat.reduceLT, Nat.zero_add, Option.some.injEq, Z.d.injEq, Z.c.injEq, D.bl.injEq, D.int.injEq, D.tup.injEq, D.lst.injEq, List.take_succ_cons, List.take_zero, exists_eq_left', exists_eq_left, true_and, and_true, if_true, Bool.not_true, Bool.not_false, Bool.false_eq_true, if_false, decide_true, decide_false, n_vK])
def sp_require_passage (cA : Str → Addr) : DSpec := fun zs cs k => match zs with
  | [.d (.ob C ns vs)] => C = cA "Passage" ∧ k (.d .non) cs
  | _ => False
theorem len_require_passage (cA : Str → Addr) : ∀ zs cs q, (sp_require_passage cA) zs cs q → zs.length = (["value"] : List Str).length := fun zs cs q h => by
  unfold sp_require_passage at h
  split at h
  · rfl
  · exact h.elim
def t_require_passage (cA : Str → Addr) : DS :=
  (dIfS (dNot (dB (dIsiO (cA "Passage") [] (dVar 0)))) dNever dNext)
theorem rd_require_passage (cA : Str → Addr) : ∀ zs cs q, (sp_require_passage cA) zs cs q → t_require_passage cA (endD cs.length q) (startD ["value"] zs) cs := fun zs cs q h => by
  unfold sp_require_passage at h
  split at h
  rotate_left
  · exact h.elim
  rename_i C ns vs
  simp only [startD, List.map_cons, List.map_nil, List.length_cons, List.length_nil, Nat.reduceAdd, Nat.zero_add, Nat.reduceSub, List.replicate_zero, List.replicate_succ, List.cons_append, List.nil_append, List.append_nil]
  obtain ⟨rfl, h⟩ := h
  unfold t_require_passage
  try walk_at "dl"
  rw [e_isO]
  exact .inl h
end PA
set_option Elab.async false
set_option linter.all false
set_option maxRecDepth 100000
set_option maxHeartbeats 2000000
set_option autoImplicit false
namespace PA
open PySem L2 DL K01 PM
local macro_rules | `(tactic| walk_at "dl") => `(tactic| simp only [u_dSeq, u_dNext, u_dOwn, u_dOwnE, u_dFld, u_dMake, u_dMeth, u_dProp, u_dIsiO, u_dCallI, u_dSortSet, u_dFrz, e_isC, e_rgO, e_rgn, e_rgi, e_rgs, e_rgb, e_rgt, e_rgl, e_fz1, e_fz2, le_lim, lt_lim, set_snoc0, e_srtI, u_dBreak, u_dCont, u_dDrop, u_dRet, u_dRetN, u_dIfS, u_dNever, u_dAsg, u_dPar, u_dPutK, u_dAppend, u_dExtend, u_dCall, u_dVar, u_dC, u_dOp, u_dChain, u_dUn, u_dB, u_dNot, u_dAnd, u_dOr, u_dAndV, u_dOrV, u_dNotV, u_dIf, u_dNil, u_dCons, u_dTup, u_dLst, u_dLstC, u_dCB, u_dInK, u_dGetK, u_dDicC, u_dNoPart, u_dPart, u_dSl, u_dBits, u_dRev, u_dgName, u_dgsNil, u_dgsCons, u_dgTup, u_dgSet, u_diSeq, u_diR1, e_diR2, e_r2, u_diEnum, u_diEnumU, u_diZip, endD, finZ_d, finD, finC, List.take_length, u_dYes, wipeD, ix0, ix1, ix2, get_snoc, set_snoc, take_snoc, u_dOpC, u_dSlC, u_dListC, e_addC, e_mulC, e_loCl, e_loCt, e_loCs, e_wd, e_wc0, e_wcs, e_wsn, e_wc1, e_wc2, e_wl0, e_wl1, e_dl0, e_dl1, e_sl, e_st, e_ss, e_addi, e_adds, e_addt, e_addl, e_sub, e_muli, e_mult, e_mull, e_fdiv, e_mod, e_pow, e_neg, e_lt, e_le, e_gt, e_ge, e_eqi, e_eqs, e_eql, e_eqt, e_eqb, e_eqn, e_nei, e_nes, e_nel, e_net, e_neb, e_nen, e_isb, e_isn, e_inb, e_inn, e_in1, e_in2, e_in3, e_in4, e_in5, e_ixt, e_ixl, e_ixs, e_at0, e_at1, e_at2, e_at3, e_at4, e_at5, e_atl, e_keyi, e_keys, e_lenl, e_lent, e_lens, e_lend, e_maxi, e_mini, e_maxl, e_minl, e_sum, e_all, e_any, e_inti, e_intb, e_abs, e_tol, e_tot, e_tos, e_lol, e_lot, e_los, e_sll, e_slt, e_rvl, e_rvt, e_repr, e_isi, e_srtl, e_srtt, List.map_cons, List.map_nil, List.length_cons, List.length_nil, List.cons_append, List.nil_append, List.flatten_cons, List.flatten_nil, List.append_nil, List.replicate_succ, List.replicate_zero, List.getElem?_cons_zero, List.getElem?_cons_succ, List.set_cons_zero, List.set_cons_succ, Nat.reduceSub, Nat.reduceAdd, Int.reduceToNat, Int.reduceLE, Int.reduceLT, Int.reduceNeg, Nat.reduceLeDiff, Nat.reduceLT, Nat.zero_add, Option.some.injEq, Z.d.injEq, Z.c.injEq, D.bl.injEq, D.int.injEq, D.tup.injEq, D.lst.injEq, List.take_succ_cons, List.take_zero, exists_eq_left', exists_eq_left, true_and, and_true, if_true, Bool.not_true, Bool.not_false, Bool.false_eq_true, if_false, decide_true, decide_false, n_vK])
theorem made {cA : Str → Addr} {c : Int} {out : List Row} {cs : Cs} {q : Z → Cs → Prop} (h : q (.d (psgD cA c out)) cs) : True ∧
    ∃ ns ds, (List.set (cs ++ [D.ob (cA (Str.ofString "Passage")) [] []]) (List.length cs) (psgD cA c out))[List.length cs]? = some (D.ob (cA (Str.ofString "Passage")) ns ds) ∧
        (q (Z.d (D.ob (cA (Str.ofString "Passage")) ns ds)) (List.take (List.length cs) (List.take (List.length cs) (List.set (cs ++ [D.ob (cA (Str.ofString "Passage")) [] []]) (List.length cs) (psgD cA c out)))) ∨
          FinZ (List.length cs) q (Z.c (List.length cs)) (List.set (cs ++ [D.ob (cA (Str.ofString "Passage")) [] []]) (List.length cs) (psgD cA c out))) := by
  have e : List.set (cs ++ [D.ob (cA (Str.ofString "Passage")) [] []]) (List.length cs) (psgD cA c out) = cs ++ [psgD cA c out] := set_snoc0 _ _ _
  rw [e]
  refine ⟨trivial, _, _, List.getElem?_concat_length, .inl ?_⟩
  rw [List.take_take, Nat.min_self, List.take_left' rfl]
  exact h
end PA
set_option Elab.async false
set_option linter.all false
set_option maxRecDepth 100000
set_option maxHeartbeats 2000000
set_option autoImplicit false
namespace PA
open PySem L2 DL K01 PM
local macro_rules | `(tactic| walk_at "dl") => `(tactic| simp only [u_dSeq, u_dNext, u_dOwn, u_dOwnE, u_dFld, u_dMake, u_dMeth, u_dProp, u_dIsiO, u_dCallI, u_dSortSet, u_dFrz, e_isC, e_rgO, e_rgn, e_rgi, e_rgs, e_rgb, e_rgt, e_rgl, e_fz1, e_fz2, le_lim, lt_lim, set_snoc0, e_srtI, u_dBreak, u_dCont, u_dDrop, u_dRet, u_dRetN, u_dIfS, u_dNever, u_dAsg, u_dPar, u_dPutK, u_dAppend, u_dExtend, u_dCall, u_dVar, u_dC, u_dOp, u_dChain, u_dUn, u_dB, u_dNot, u_dAnd, u_dOr, u_dAndV, u_dOrV, u_dNotV, u_dIf, u_dNil, u_dCons, u_dTup, u_dLst, u_dLstC, u_dCB, u_dInK, u_dGetK, u_dDicC, u_dNoPart, u_dPart, u_dSl, u_dBits, u_dRev, u_dgName, u_dgsNil, u_dgsCons, u_dgTup, u_dgSet, u_diSeq, u_diR1, e_diR2, e_r2, u_diEnum, u_diEnumU, u_diZip, endD, finZ_d, finD, finC, List.take_length, u_dYes, wipeD, ix0, ix1, ix2, get_snoc, set_snoc, take_snoc, u_dOpC, u_dSlC, u_dListC, e_addC, e_mulC, e_loCl, e_loCt, e_loCs, e_wd, e_wc0, e_wcs, e_wsn, e_wc1, e_wc2, e_wl0, e_wl1, e_dl0, e_dl1, e_sl, e_st, e_ss, e_addi, e_adds, e_addt, e_addl, e_sub, e_muli, e_mult, e_mull, e_fdiv, e_mod, e_pow, e_neg, e_lt, e_le, e_gt, e_ge, e_eqi, e_eqs, e_eql, e_eqt, e_eqb, e_eqn, e_nei, e_nes, e_nel, e_net, e_neb, e_nen, e_isb, e_isn, e_inb, e_inn, e_in1, e_in2, e_in3, e_in4, e_in5, e_ixt, e_ixl, e_ixs, e_at0, e_at1, e_at2, e_at3, e_at4, e_at5, e_atl, e_keyi, e_keys, e_lenl, e_lent, e_lens, e_lend, e_maxi, e_mini, e_maxl, e_minl, e_sum, e_all, e_any, e_inti, e_intb, e_abs, e_tol, e_tot, e_tos, e_lol, e_lot, e_los, e_sll, e_slt, e_rvl, e_rvt, e_repr, e_isi, e_srtl, e_srtt, List.map_cons, List.map_nil, List.length_cons, List.length_nil, List.cons_append, List.nil_append, List.flatten_cons, List.flatten_nil, List.append_nil, List.replicate_succ, List.replicate_zero, List.getElem?_cons_zero, List.getElem?_cons_succ, List.set_cons_zero, List.set_cons_succ, Nat.reduceSub, Nat.reduceAdd, Int.reduceToNat, Int.reduceLE, Int.reduceLT, Int.reduceNeg, Nat.reduceLeDiff, Nat.reduceLT, Nat.zero_add, Option.some.injEq, Z.d.injEq, Z.c.injEq, D.bl.injEq, D.int.injEq, D.tup.injEq, D.lst.injEq, List.take_succ_cons, List.take_zero, exists_eq_left', exists_eq_left, true_and, and_true, if_true, Bool.not_true, Bool.not_false, Bool.false_eq_true, if_false, decide_true, decide_false, n_vK])
end PA
set_option Elab.async false
set_option linter.all false
set_option maxRecDepth 100000
set_option maxHeartbeats 2000000
set_option autoImplicit false
namespace PA
open PySem L2 DL K01 PM
local macro_rules | `(tactic| walk_at "dl") => `(tactic| simp only [u_dSeq, u_dNext, u_dOwn, u_dOwnE, u_dFld, u_dMake, u_dMeth, u_dProp, u_dIsiO, u_dCallI, u_dSortSet, u_dFrz, e_isC, e_rgO, e_rgn, e_rgi, e_rgs, e_rgb, e_rgt, e_rgl, e_fz1, e_fz2, le_lim, lt_lim, set_snoc0, e_srtI, u_dBreak, u_dCont, u_dDrop, u_dRet, u_dRetN, u_dIfS, u_dNever, u_dAsg, u_dPar, u_dPutK, u_dAppend, u_dExtend, u_dCall, u_dVar, u_dC, u_dOp, u_dChain, u_dUn, u_dB, u_dNot, u_dAnd, u_dOr, u_dAndV, u_dOrV, u_dNotV, u_dIf, u_dNil, u_dCons, u_dTup, u_dLst, u_dLstC, u_dCB, u_dInK, u_dGetK, u_dDicC, u_dNoPart, u_dPart, u_dSl, u_dBits, u_dRev, u_dgName, u_dgsNil, u_dgsCons, u_dgTup, u_dgSet, u_diSeq, u_diR1, e_diR2, e_r2, u_diEnum, u_diEnumU, u_diZip, endD, finZ_d, finD, finC, List.take_length, u_dYes, wipeD, ix0, ix1, ix2, get_snoc, set_snoc, take_snoc, u_dOpC, u_dSlC, u_dListC, e_addC, e_mulC, e_loCl, e_loCt, e_loCs, e_wd, e_wc0, e_wcs, e_wsn, e_wc1, e_wc2, e_wl0, e_wl1, e_dl0, e_dl1, e_sl, e_st, e_ss, e_addi, e_adds, e_addt, e_addl, e_sub, e_muli, e_mult, e_mull, e_fdiv, e_mod, e_pow, e_neg, e_lt, e_le, e_gt, e_ge, e_eqi, e_eqs, e_eql, e_eqt, e_eqb, e_eqn, e_nei, e_nes, e_nel, e_net, e_neb, e_nen, e_isb, e_isn, e_inb, e_inn, e_in1, e_in2, e_in3, e_in4, e_in5, e_ixt, e_ixl, e_ixs, e_at0, e_at1, e_at2, e_at3, e_at4, e_at5, e_atl, e_keyi, e_keys, e_lenl, e_lent, e_lens, e_lend, e_maxi, e_mini, e_maxl, e_minl, e_sum, e_all, e_any, e_inti, e_intb, e_abs, e_tol, e_tot, e_tos, e_lol, e_lot, e_los, e_sll, e_slt, e_rvl, e_rvt, e_repr, e_isi, e_srtl, e_srtt, List.map_cons, List.map_nil, List.length_cons, List.length_nil, List.cons_append, List.nil_append, List.flatten_cons, List.flatten_nil, List.append_nil, List.replicate_succ, List.replicate_zero, List.getElem?_cons_zero, List.getElem?_cons_succ, List.set_cons_zero, List.set_cons_succ, Nat.reduceSub, Nat.reduceAdd, Int.reduceToNat, Int.reduceLE, Int.reduceLT, Int.reduceNeg, Nat.reduceLeDiff, Nat.reduceLT, Nat.zero_add, Option.some.injEq, Z.d.injEq, Z.c.injEq, D.bl.injEq, D.int.injEq, D.tup.injEq, D.lst.injEq, List.take_succ_cons, List.take_zero, exists_eq_left', exists_eq_left, true_and, and_true, if_true, Bool.not_true, Bool.not_false, Bool.false_eq_true, if_false, decide_true, decide_false, n_vK])
end PA
set_option Elab.async false
set_option linter.all false
set_option autoImplicit false
/-! PMG: latest starts: the other side of a passage -/
namespace PM
variable {c : Int} {f g f' g' : Int → Int} {rs : List Row}
/-- g tells the greatest start that arrives up to a moment -/
def Adj (f g : Int → Int) : Prop := ∀ x y, f x ≤ y ↔ x ≤ g y
theorem Adj.uniq (a : Adj f g) (b : Adj f g') (y : Int) : g y = g' y := by
  have h1 := (b _ _).mp ((a (g y) y).mpr (Int.le_refl _))
  have h2 := (a _ _).mp ((b (g' y) y).mpr (Int.le_refl _))
  omega
theorem Adj.congr (a : Adj f g) (e : ∀ x, f x = f' x) : Adj f' g := fun x y => by rw [← e]; exact a x y
theorem Adj.comp (a : Adj f f') (b : Adj g g') : Adj (fun x => g (f x)) (fun y => f' (g' y)) := fun x y => (b _ _).trans (a _ _)
theorem Adj.lst (p : Psg c f) (A : Adj f g) (y : Int) : Lst g y ↔ ∃ x, f x = y + 1 := by
  constructor
  · intro h
    refine ⟨g (y + 1), ?_⟩
    have a := (A (g (y + 1)) (y + 1)).mpr (Int.le_refl _)
    have b := A (g (y + 1)) y
    unfold Lst at h
    omega
  · rintro ⟨x, e⟩
    have a := A x (y + 1)
    have b := A x y
    unfold Lst
    omega
end PM
set_option Elab.async false
set_option linter.all false
set_option maxRecDepth 100000
set_option maxHeartbeats 2000000
set_option autoImplicit false
namespace PA
open PySem L2 DL K01 PM
local macro_rules | `(tactic| walk_at "dl") => `(tactic| simp only [u_dSeq, u_dNext, u_dOwn, u_dOwnE, u_dFld, u_dMake, u_dMeth, u_dProp, u_dIsiO, u_dCallI, u_dSortSet, u_dFrz, e_isC, e_rgO, e_rgn, e_rgi, e_rgs, e_rgb, e_rgt, e_rgl, e_fz1, e_fz2, le_lim, lt_lim, set_snoc0, e_srtI, u_dBreak, u_dCont, u_dDrop, u_dRet, u_dRetN, u_dIfS, u_dNever, u_dAsg, u_dPar, u_dPutK, u_dAppend, u_dExtend, u_dCall, u_dVar, u_dC, u_dOp, u_dChain, u_dUn, u_dB, u_dNot, u_dAnd, u_dOr, u_dAndV, u_dOrV, u_dNotV, u_dIf, u_dNil, u_dCons, u_dTup, u_dLst, u_dLstC, u_dCB, u_dInK, u_dGetK, u_dDicC, u_dNoPart, u_dPart, u_dSl, u_dBits, u_dRev, u_dgName, u_dgsNil, u_dgsCons, u_dgTup, u_dgSet, u_diSeq, u_diR1, e_diR2, e_r2, u_diEnum, u_diEnumU, u_diZip, endD, finZ_d, finD, finC, List.take_length, u_dYes, wipeD, ix0, ix1, ix2, get_snoc, set_snoc, take_snoc, u_dOpC, u_dSlC, u_dListC, e_addC, e_mulC, e_loCl, e_loCt, e_loCs, e_wd, e_wc0, e_wcs, e_wsn, e_wc1, e_wc2, e_wl0, e_wl1, e_dl0, e_dl1, e_sl, e_st, e_ss, e_addi, e_adds, e_addt, e_addl, e_sub, e_muli, e_mult, e_mull, e_fdiv, e_mod, e_pow, e_neg, e_lt, e_le, e_gt, e_ge, e_eqi, e_eqs, e_eql, e_eqt, e_eqb, e_eqn, e_nei, e_nes, e_nel, e_net, e_neb, e_nen, e_isb, e_isn, e_inb, e_inn, e_in1, e_in2, e_in3, e_in4, e_in5, e_ixt, e_ixl, e_ixs, e_at0, e_at1, e_at2, e_at3, e_at4, e_at5, e_atl, e_keyi, e_keys, e_lenl, e_lent, e_lens, e_lend, e_maxi, e_mini, e_maxl, e_minl, e_sum, e_all, e_any, e_inti, e_intb, e_abs, e_tol, e_tot, e_tos, e_lol, e_lot, e_los, e_sll, e_slt, e_rvl, e_rvt, e_repr, e_isi, e_srtl, e_srtt, List.map_cons, List.map_nil, List.length_cons, List.length_nil, List.cons_append, List.nil_append, List.flatten_cons, List.flatten_nil, List.append_nil, List.replicate_succ, List.replicate_zero, List.getElem?_cons_zero, List.getElem?_cons_succ, List.set_cons_zero, List.set_cons_succ, Nat.reduceSub, Nat.reduceAdd, Int.reduceToNat, Int.reduceLE, Int.reduceLT, Int.reduceNeg, Nat.reduceLeDiff, Nat.reduceLT, Nat.zero_add, Option.some.injEq, Z.d.injEq, Z.c.injEq, D.bl.injEq, D.int.injEq, D.tup.injEq, D.lst.injEq, List.take_succ_cons, List.take_zero, exists_eq_left', exists_eq_left, true_and, and_true, if_true, Bool.not_true, Bool.not_false, Bool.false_eq_true, if_false, decide_true, decide_false, n_vK])
end PA
set_option Elab.async false
set_option linter.all false
set_option maxRecDepth 100000
set_option maxHeartbeats 2000000
set_option autoImplicit false
/-! DLZC: three names at once -/
namespace DL
open PySem L2
section
variable {X : Cx} {pos : Pos}
/-- a, b, c = x, y, z -/
def dPar3 (i j l : Nat) (a : DA) : DS := fun D en cs => a en cs fun zs cs1 => match zs with
  | [z, w, y] => D.nx (((en.set i (some z)).set j (some w)).set l (some y)) cs1
  | _ => False
theorem u_dPar3 (i j l : Nat) (a : DA) (D0 : DEnds) (en : En) (cs : Cs) : dPar3 i j l a D0 en cs = (a en cs fun zs cs1 => match zs with
  | [z, w, y] => D0.nx (((en.set i (some z)).set j (some w)).set l (some y)) cs1
  | _ => False) := nd rfl
theorem qs_par3 (i j l : Nat) {x y z : Str} {a b c : Expr} {ta : TA} {da : DA} {px py pz pt : Pos} {kt k2 pt2} (hN : X.N.Nodup) (ha : QA X [a, b, c] ta da) (hi : X.N[i]? = some x := by rfl) (hj : X.N[j]? = some y := by rfl) (hl : X.N[l]? = some z := by rfl)
    (hij : i ≠ j := by decide) (hil : i ≠ l := by decide) (hjl : j ≠ l := by decide)
    (hx : X.env.scope.names.lookup x = some .local := by rfl) (hy : X.env.scope.names.lookup y = some .local := by rfl) (hz : X.env.scope.names.lookup z = some .local := by rfl)
    (hw : swappedStores [.Tuple [.Name x px, .Name y py, .Name z pz] kt pt] (.Tuple [a, b, c] k2 pt2) X.env = pure (some [x, y, z]) := by rfl)
    (hs : swapsWithSole [.Tuple [.Name x px, .Name y py, .Name z pz] kt pt] (.Tuple [a, b, c] k2 pt2) pos.line X.env = pure false := by rfl) (hc : X.calm = true := by rfl) :
    QS X (.Assign [.Tuple [.Name x px, .Name y py, .Name z pz] kt pt] (.Tuple [a, b, c] k2 pt2) pos) (tPar3 i j l ta) (dPar3 i j l da) := by
  refine ⟨ps_par3 hc hN hi hj hl hij hil hjl hx hy hz ha.pa hw hs, ?_⟩
  intro σ H S as en cs D E r e q p
  refine ha.sem σ H S as en cs _ _ r e q fun zs vs S1 H1 as1 cs1 e1 r1 v1 q1 => ?_
  split at q1
  · obtain ⟨v, _, rfl, h1, u, _, rfl, h2, t, _, rfl, h3, h4⟩ := v1
    exact ⟨v, u, t, by rw [h4], p.nx _ S1 H1 as1 _ cs1 e1 r1 ((((e.mono e1).set h1 i).set h2 j).set h3 l) q1⟩
  · exact q1.elim
end
end DL
set_option Elab.async false
set_option linter.all false
set_option maxRecDepth 100000
set_option maxHeartbeats 2000000
set_option autoImplicit false
namespace PA
open PySem L2 DL K01 PM
local macro_rules | `(tactic| walk_at "dl") => `(tactic| simp only [u_dPar3, u_dSeq, u_dNext, u_dOwn, u_dOwnE, u_dFld, u_dMake, u_dMeth, u_dProp, u_dIsiO, u_dCallI, u_dSortSet, u_dFrz, e_isC, e_rgO, e_rgn, e_rgi, e_rgs, e_rgb, e_rgt, e_rgl, e_fz1, e_fz2, le_lim, lt_lim, set_snoc0, e_srtI, u_dBreak, u_dCont, u_dDrop, u_dRet, u_dRetN, u_dIfS, u_dNever, u_dAsg, u_dPar, u_dPutK, u_dAppend, u_dExtend, u_dCall, u_dVar, u_dC, u_dOp, u_dChain, u_dUn, u_dB, u_dNot, u_dAnd, u_dOr, u_dAndV, u_dOrV, u_dNotV, u_dIf, u_dNil, u_dCons, u_dTup, u_dLst, u_dLstC, u_dCB, u_dInK, u_dGetK, u_dDicC, u_dNoPart, u_dPart, u_dSl, u_dBits, u_dRev, u_dgName, u_dgsNil, u_dgsCons, u_dgTup, u_dgSet, u_diSeq, u_diR1, e_diR2, e_r2, u_diEnum, u_diEnumU, u_diZip, endD, finZ_d, finD, finC, List.take_length, u_dYes, wipeD, ix0, ix1, ix2, get_snoc, set_snoc, take_snoc, u_dOpC, u_dSlC, u_dListC, e_addC, e_mulC, e_loCl, e_loCt, e_loCs, e_wd, e_wc0, e_wcs, e_wsn, e_wc1, e_wc2, e_wl0, e_wl1, e_dl0, e_dl1, e_sl, e_st, e_ss, e_addi, e_adds, e_addt, e_addl, e_sub, e_muli, e_mult, e_mull, e_fdiv, e_mod, e_pow, e_neg, e_lt, e_le, e_gt, e_ge, e_eqi, e_eqs, e_eql, e_eqt, e_eqb, e_eqn, e_nei, e_nes, e_nel, e_net, e_neb, e_nen, e_isb, e_isn, e_inb, e_inn, e_in1, e_in2, e_in3, e_in4, e_in5, e_ixt, e_ixl, e_ixs, e_at0, e_at1, e_at2, e_at3, e_at4, e_at5, e_atl, e_keyi, e_keys, e_lenl, e_lent, e_lens, e_lend, e_maxi, e_mini, e_maxl, e_minl, e_sum, e_all, e_any, e_inti, e_intb, e_abs, e_tol, e_tot, e_tos, e_lol, e_lot, e_los, e_sll, e_slt, e_rvl, e_rvt, e_repr, e_isi, e_srtl, e_srtt, List.map_cons, List.map_nil, List.length_cons, List.length_nil, List.cons_append, List.nil_append, List.flatten_cons, List.flatten_nil, List.append_nil, List.replicate_succ, List.replicate_zero, List.getElem?_cons_zero, List.getElem?_cons_succ, List.set_cons_zero, List.set_cons_succ, Nat.reduceSub, Nat.reduceAdd, Int.reduceToNat, Int.reduceLE, Int.reduceLT, Int.reduceNeg, Nat.reduceLeDiff, Nat.reduceLT, Nat.zero_add, Option.some.injEq, Z.d.injEq, Z.c.injEq, D.bl.injEq, D.int.injEq, D.tup.injEq, D.lst.injEq, List.take_succ_cons, List.take_zero, exists_eq_left', exists_eq_left, true_and, and_true, if_true, Bool.not_true, Bool.not_false, Bool.false_eq_true, if_false, decide_true, decide_false, n_vK])
/-! ### the draws -/
def Spring (L : Nat) (x : D) : Prop := ∃ d m c : Int, x = .lst [.int d, .int m, .int c] ∧ 0 ≤ d ∧ 0 ≤ m ∧ m < 10 ^ 50 ∧ 0 ≤ c ∧ c ≤ (L : Int)
theorem Spring.le {L M : Nat} {x : D} (h : Spring L x) (l : L ≤ M) : Spring M x :=
  let ⟨d, m, c, a, b, e, f, g, i⟩ := h
  ⟨d, m, c, a, b, e, f, g, by omega⟩
def sp_l_spring : DSpec := fun zs cs k => match zs with
  | [.d (.scr ns), .d (.int j)] => (0 ≤ j ∧ j < 1000) ∧ ∀ x, Spring 0 x → k (.c cs.length) (cs ++ [x])
  | _ => False
theorem len_l_spring : ∀ zs cs q, sp_l_spring zs cs q → zs.length = (["_law_script", "_law_k"] : List Str).length := fun zs cs q h => by
  unfold sp_l_spring at h
  split at h
  · rfl
  · exact h.elim
def t_l_spring : DS :=
  (dSeq (dAsg (dC (.int 0)) (dgName 2))
  (dSeq (dIfS (dB (dOp ltD (dVar 1) (dCB lenD (dCons (dVar 0) dNil)))) (dAsg (dOp ixD (dVar 0) (dVar 1)) (dgName 2)) dNext)
  (dLock (dRet (dLstC (dCons (dCB maxD (dCons (dC (.int 0)) (dCons (dOp subD (dVar 2) (dOp powD (dC (.int 10)) (dC (.int 18)))) dNil))) (dCons (dOp addD (dOp addD (dOp mulD (dOp modD (dVar 2) (dOp addD (dOp powD (dC (.int 10)) (dC (.int 39))) (dC (.int 7)))) (dC (.int 139))) (dOp mulD (dC (.int 60101)) (dVar 1))) (dC (.int 31))) (dCons (dC (.int 0)) dNil))))))))
theorem rd_l_spring : ∀ zs cs q, sp_l_spring zs cs q → t_l_spring (endD cs.length q) (startD ["_law_script", "_law_k", "_law_cell"] zs) cs := fun zs cs q h => by
  unfold sp_l_spring at h
  split at h
  rotate_left
  · exact h.elim
  rename_i ns j
  simp only [startD, List.map_cons, List.map_nil, List.length_cons, List.length_nil, Nat.reduceAdd, Nat.zero_add, Nat.reduceSub, List.replicate_zero, List.replicate_succ, List.cons_append, List.nil_append, List.append_nil]
  obtain ⟨⟨h1, h2⟩, h⟩ := h
  have fin : ∀ c : Int, FinZ cs.length q (.c cs.length) (cs ++ [.lst [.int (max 0 (c - 10 ^ 18)), .int (c % (10 ^ 39 + 7) * 139 + 60101 * j + 31), .int 0]]) := fun c => by
    refine finZ_new (Nat.le_refl _) (get_snoc _ _) ?_
    rw [List.take_left]
    have g1 := Int.emod_nonneg c (show (10 ^ 39 + 7 : Int) ≠ 0 from by decide)
    have g2 := Int.emod_lt_of_pos c (show (0 : Int) < 10 ^ 39 + 7 from by decide)
    generalize c % (10 ^ 39 + 7) = y at g1 g2 ⊢
    refine h _ ⟨_, _, _, rfl, Int.le_max_left _ _, ?_, ?_, by decide, by decide⟩
    · omega
    · omega
  have s10 : Sm 10 := Sm.of (by decide) (by decide)
  have s1 : Sm 60101 := Sm.of (by decide) (by decide)
  have s3 : Sm 139 := Sm.of (by decide) (by decide)
  have s2 : Sm j := Sm.of (by omega) (by omega)
  have sm : ∀ c : Int, Sm (c % (10 ^ 39 + 7)) := fun c => by
    have g1 := Int.emod_nonneg c (show (10 ^ 39 + 7 : Int) ≠ 0 from by decide)
    have g2 := Int.emod_lt_of_pos c (show (0 : Int) < 10 ^ 39 + 7 from by decide)
    generalize c % (10 ^ 39 + 7) = y at g1 g2 ⊢
    exact Sm.of (by omega) (by omega)
  unfold t_l_spring dLock
  by_cases hc : j < (ns.length : Int)
  · obtain ⟨c, e⟩ : ∃ c, atI ns j = some c := ⟨_, at_int h1 (List.getElem?_eq_getElem (by omega))⟩
    walk_at "dl"
    simp only [hc, decide_true, if_true]
    refine ⟨c, e, ?_⟩
    refine ⟨s10, s10, by decide, ⟨sm c, s3⟩, ⟨s1, s2⟩, ?_⟩
    exact fin c
  · walk_at "dl"
    simp only [hc, decide_false, Bool.false_eq_true, if_false]
    refine ⟨s10, s10, by decide, ⟨sm 0, s3⟩, ⟨s1, s2⟩, ?_⟩
    exact fin 0
def sp_l_take : DSpec := fun zs cs k => match zs, cs with
  | [.c 0, .d (.int b)], x :: rest => ∃ L, Spring L x ∧ (0 < b ∧ b ≤ 10 ^ 100 ∧ L ≤ 10 ^ 12) ∧ ∀ r x', 0 ≤ r → r < b → Spring (L + 1) x' → k (.d (.int r)) (x' :: rest)
  | _, _ => False
theorem len_l_take : ∀ zs cs q, sp_l_take zs cs q → zs.length = (["_law_spring_here", "_law_many"] : List Str).length := fun zs cs q h => by
  unfold sp_l_take at h
  split at h
  · rfl
  · exact h.elim
def t_l_take : DS :=
  (dSeq (dIfS (dB (dOp gtD (dOp ixD (dVar 0) (dC (.int 0))) (dC (.int 0)))) (dSeq (dAsg (dOp modD (dOp ixD (dVar 0) (dC (.int 0))) (dVar 1)) (dgName 2))
  (dSeq (dAsg (dOp fdivD (dOp ixD (dVar 0) (dC (.int 0))) (dVar 1)) (dgSet (dVar 0) (dC (.int 0))))
  (dRet (dVar 2)))) dNext)
  (dSeq (dAsg (dOp addD (dOp ixD (dVar 0) (dC (.int 2))) (dC (.int 1))) (dgSet (dVar 0) (dC (.int 2))))
  (dSeq (dAsg (dOp modD (dOp powD (dOp addD (dOp ixD (dVar 0) (dC (.int 1))) (dOp mulD (dC (.int 104395301)) (dOp ixD (dVar 0) (dC (.int 2))))) (dC (.int 3))) (dOp addD (dOp powD (dC (.int 10)) (dC (.int 44))) (dC (.int 31)))) (dgName 3))
  (dSeq (dAsg (dOp modD (dOp powD (dOp addD (dVar 3) (dOp mulD (dC (.int 86028121)) (dOp ixD (dVar 0) (dC (.int 2))))) (dC (.int 3))) (dOp addD (dOp powD (dC (.int 10)) (dC (.int 42))) (dC (.int 63)))) (dgName 3))
  (dRet (dOp modD (dOp fdivD (dVar 3) (dC (.int 262147))) (dVar 1)))))))
theorem rd_l_take : ∀ zs cs q, sp_l_take zs cs q → t_l_take (endD cs.length q) (startD ["_law_spring_here", "_law_many", "_law_found", "_law_mixed"] zs) cs := fun zs cs q h => by
  unfold sp_l_take at h
  split at h
  rotate_left
  · exact h.elim
  simp only [startD, List.map_cons, List.map_nil, List.length_cons, List.length_nil, Nat.reduceAdd, Nat.zero_add, Nat.reduceSub, List.replicate_zero, List.replicate_succ, List.cons_append, List.nil_append, List.append_nil]
  rename_i b x rest
  obtain ⟨L, ⟨d, m, c, rfl, d0, m0, m1, c0, c1⟩, ⟨b0, b1, hL⟩, h⟩ := h
  unfold t_l_take
  try walk_at "dl"
  have s10 : Sm 10 := Sm.of (by decide) (by decide)
  have s1 : Sm 104395301 := Sm.of (by decide) (by decide)
  have s2 : Sm 86028121 := Sm.of (by decide) (by decide)
  have s3 : Sm (c + 1) := Sm.of (by omega) (by omega)
  have s4 : Sm (m + 104395301 * (c + 1)) := Sm.of (by omega) (by omega)
  by_cases hd : 0 < d
  · rw [if_pos (by simpa using hd)]
    exact ⟨b0, Dv.of b0 (by omega), h _ _ (Int.emod_nonneg _ (by omega)) (Int.emod_lt_of_pos _ b0) ⟨_, _, _, rfl, Int.ediv_nonneg d0 (by omega), m0, m1, c0, by omega⟩⟩
  · rw [if_neg (by simpa using hd)]
    refine ⟨⟨s1, s3⟩, s4, s10, by decide, ⟨s2, s3⟩, ?_, s10, by decide, Dv.of (by decide) (by decide), b0, h _ _ (Int.emod_nonneg _ (by omega)) (Int.emod_lt_of_pos _ b0) ⟨_, _, _, rfl, d0, m0, m1, by omega, by omega⟩⟩
    have g1 := Int.emod_nonneg ((m + 104395301 * (c + 1)) ^ 3) (show (10 ^ 44 + 31 : Int) ≠ 0 from by decide)
    have g2 := Int.emod_lt_of_pos ((m + 104395301 * (c + 1)) ^ 3) (show (0 : Int) < 10 ^ 44 + 31 from by decide)
    generalize (m + 104395301 * (c + 1)) ^ 3 % (10 ^ 44 + 31) = y at g1 g2
    exact Sm.of (by omega) (by omega)
theorem take_use {L : Nat} {x : D} {rest : Cs} {b : Int} {k : Z → Cs → Prop} (hp : Spring L x) (hb : 0 < b ∧ b ≤ 10 ^ 100 ∧ L ≤ 10 ^ 12) (h : ∀ r x', 0 ≤ r → r < b → Spring (L + 1) x' → k (.d (.int r)) (x' :: rest)) :
    sp_l_take [.c 0, .d (.int b)] (x :: rest) k := ⟨L, hp, hb, h⟩
def sp_l_cycle : DSpec := fun zs cs k => match zs, cs with
  | [.c 0], x :: rest => ∃ L, Spring L x ∧ (L ≤ 10 ^ 11) ∧ ∀ c x', 1 ≤ c → c ≤ 10 ^ 30 → Spring (L + 10) x' → k (.d (.int c)) (x' :: rest)
  | _, _ => False
theorem len_l_cycle : ∀ zs cs q, sp_l_cycle zs cs q → zs.length = (["_law_spring_here"] : List Str).length := fun zs cs q h => by
  unfold sp_l_cycle at h
  split at h
  · rfl
  · exact h.elim
def t_l_cycle : DS :=
  (dSeq (dAsg (dLstC (dCons (dOp addD (dC (.int 1)) (dCall sp_l_take (dCons (dVar 0) (dCons (dC (.int 6)) dNil)))) (dCons (dOp addD (dC (.int 1)) (dCall sp_l_take (dCons (dVar 0) (dCons (dC (.int 30)) dNil)))) (dCons (dOp addD (dC (.int 41)) (dCall sp_l_take (dCons (dVar 0) (dCons (dOp powD (dC (.int 10)) (dC (.int 4))) dNil)))) (dCons (dOp powD (dC (.int 10)) (dC (.int 30))) dNil))))) (dgName 1))
  (dSeq (dDrop (dAppend (dVar 1) (dOp subD (dOp powD (dC (.int 10)) (dC (.int 30))) (dCall sp_l_take (dCons (dVar 0) (dCons (dOp subD (dOp powD (dC (.int 10)) (dC (.int 30))) (dOp powD (dC (.int 10)) (dC (.int 4)))) dNil))))))
  (dFrz 1 (dRet (dOp ixD (dVar 1) (dCall sp_l_take (dCons (dVar 0) (dCons (dC (.int 5)) dNil))))))))
theorem rd_l_cycle : ∀ zs cs q, sp_l_cycle zs cs q → t_l_cycle (endD cs.length q) (startD ["_law_spring_here", "_law_some"] zs) cs := fun zs cs q h => by
  unfold sp_l_cycle at h
  split at h
  rotate_left
  · exact h.elim
  simp only [startD, List.map_cons, List.map_nil, List.length_cons, List.length_nil, Nat.reduceAdd, Nat.zero_add, Nat.reduceSub, List.replicate_zero, List.replicate_succ, List.cons_append, List.nil_append, List.append_nil]
  rename_i x rest
  obtain ⟨L, hP, hL, h⟩ := h
  have s10 : Sm 10 := Sm.of (by decide) (by decide)
  unfold t_l_cycle
  try walk_at "dl"
  refine take_use hP ⟨by decide, by decide, by omega⟩ fun a x1 a0 a1 p1 => ?_
  try walk_at "dl"
  refine take_use p1 ⟨by decide, by decide, by omega⟩ fun b x2 b0 b1 p2 => ?_
  try walk_at "dl"
  refine ⟨s10, ?_⟩
  refine take_use p2 ⟨by decide, by decide, by omega⟩ fun e x3 e0 e1 p3 => ?_
  try walk_at "dl"
  refine ⟨s10, s10, s10, s10, ?_⟩
  refine take_use p3 ⟨by decide, by decide, by omega⟩ fun r x4 r0 r1 p4 => ?_
  try walk_at "dl"
  intro nb
  refine take_use p4 ⟨by decide, by decide, by omega⟩ fun t x5 t0 t1 p5 => ?_
  have p5 := p5.le (show L + 1 + 1 + 1 + 1 + 1 ≤ L + 10 by omega)
  try walk_at "dl"
  have : t = 0 ∨ t = 1 ∨ t = 2 ∨ t = 3 ∨ t = 4 := by omega
  rcases this with rfl | rfl | rfl | rfl | rfl
  · rw [e_at0]; exact h _ _ (by omega) (by omega) p5
  · rw [e_at1]; exact h _ _ (by omega) (by omega) p5
  · rw [e_at2]; exact h _ _ (by omega) (by omega) p5
  · rw [e_at3]; exact h _ _ (by omega) (by omega) p5
  · rw [e_at4]; exact h _ _ (by omega) (by omega) p5
def sp_l_shares : DSpec := fun zs cs k => match zs, cs with
  | [.c 0, .d (.int total), .d (.int many)], x :: rest => ∃ L, Spring L x ∧ (0 ≤ total ∧ total ≤ 10 ^ 90 ∧ 1 ≤ many ∧ many ≤ 1000 ∧ L ≤ 10 ^ 10) ∧
      ∀ (ps : List Int) x', (ps.length : Int) = many → (∀ p ∈ ps, 0 ≤ p) → ps.sum = total → Spring (L + 10000) x' → k (.d (.lst (ps.map D.int))) (x' :: rest)
  | _, _ => False
theorem cut_at {ps : List Int} {t : Int} (t0 : 0 ≤ t) (t1 : t ≤ ps.length) : cutG (ps.map D.int) (some t) none ++ cutG (ps.map D.int) none (some t) = (ps.drop t.toNat ++ ps.take t.toNat).map D.int := by
  obtain ⟨n, rfl⟩ : ∃ n : Nat, t = n := ⟨t.toNat, by omega⟩
  have hn : n ≤ ps.length := by omega
  have e1 : cutG (ps.map D.int) (some (n : Int)) none = (ps.map D.int).drop n := by
    unfold cutG
    rw [HT.sIx_none, HT.sIx_nat, List.length_map, Nat.min_eq_left hn, List.take_of_length_le (by rw [List.length_drop, List.length_map]; omega)]
  have e2 : cutG (ps.map D.int) none (some (n : Int)) = (ps.map D.int).take n := by
    unfold cutG
    rw [HT.sIx_none, HT.sIx_nat, List.length_map, Nat.min_eq_left hn, List.drop_zero, Nat.sub_zero]
  rw [e1, e2, List.map_append, List.map_drop, List.map_take, Int.toNat_natCast]
theorem len_l_shares : ∀ zs cs q, sp_l_shares zs cs q → zs.length = (["_law_spring_here", "_law_total", "_law_many"] : List Str).length := fun zs cs q h => by
  unfold sp_l_shares at h
  split at h
  · rfl
  · exact h.elim
def t_l_shares : DS :=
  (dSeq (dAsg (dLstC dNil) (dgName 3))
  (dSeq (dFor (diR1 (dOp subD (dVar 2) (dC (.int 1)))) (dgName 4) (dSeq (dDrop (dAppend (dVar 3) (dCall sp_l_take (dCons (dVar 0) (dCons (dOp ixD (dLst (dCons (dOp addD (dVar 1) (dC (.int 1))) (dCons (dOp addD (dCB minD (dCons (dVar 1) (dCons (dC (.int 3)) dNil))) (dC (.int 1))) dNil))) (dCall sp_l_take (dCons (dVar 0) (dCons (dC (.int 2)) dNil)))) dNil)))))
  (dAsg (dOp subD (dVar 1) (dOp ixD (dVar 3) (dUn negD (dC (.int 1))))) (dgName 1))))
  (dSeq (dDrop (dAppend (dVar 3) (dVar 1)))
  (dFrz 3 (dSeq (dAsg (dCall sp_l_take (dCons (dVar 0) (dCons (dVar 2) dNil))) (dgName 5))
  (dRet (dOp addD (dSl (dVar 3) (dPart (dVar 5)) dNoPart) (dSl (dVar 3) dNoPart (dPart (dVar 5))))))))))
theorem rd_l_shares : ∀ zs cs q, sp_l_shares zs cs q → t_l_shares (endD cs.length q) (startD ["_law_spring_here", "_law_total", "_law_many", "_law_found", "_law_turn", "_law_spot"] zs) cs := fun zs cs q h => by
  unfold sp_l_shares at h
  split at h
  rotate_left
  · exact h.elim
  simp only [startD, List.map_cons, List.map_nil, List.length_cons, List.length_nil, Nat.reduceAdd, Nat.zero_add, Nat.reduceSub, List.replicate_zero, List.replicate_succ, List.cons_append, List.nil_append, List.append_nil]
  rename_i total many x rest
  obtain ⟨L, hP, ⟨t0, t1, m1, m2, hL⟩, h⟩ := h
  unfold t_l_shares
  try walk_at "dl"
  refine dFor_mk (rgD 0 (many - 1).toNat) yes (x :: (rest ++ [.lst []])) (fun K h => by walk_at "dl"; exact ⟨⟨by omega, by omega⟩, h⟩)
    (fun i en cx => ∃ (x : D) (ps : List Int) (tot : Int) (o4 o5 : Option Z), en = [some (.c 0), some (.d (.int tot)), some (.d (.int many)), some (.c (rest.length + 1)), o4, o5] ∧ cx = x :: (rest ++ [.lst (ps.map D.int)]) ∧ ps.length = i ∧ (∀ p ∈ ps, 0 ≤ p) ∧ 0 ≤ tot ∧ ps.sum + tot = total ∧ tot ≤ total ∧ Spring (L + 2 * i) x)
    ⟨x, [], total, _, _, rfl, rfl, rfl, fun p hp => (by simp at hp), t0, by simp, Int.le_refl _, hP.le (by omega)⟩ (fun i d en cx hd hI => ?_) (fun en cx hI => ?_) (fun _ _ _ _ => trivial)
  · obtain ⟨hi, rfl⟩ := rgD_get hd
    obtain ⟨x, ps, tot, o4, o5, rfl, rfl, hpl, hps, tt0, sm, tt1, hp⟩ := hI
    try walk_at "dl"
    refine take_use hp ⟨by decide, by decide, by omega⟩ fun r x2 r0 r1 p2 => ?_
    try walk_at "dl"
    obtain ⟨bd, e, h1, h2⟩ : ∃ bd : Int, atI [D.int (tot + 1), D.int (min tot 3 + 1)] r = some (D.int bd) ∧ 1 ≤ bd ∧ bd ≤ tot + 1 := by
      have : r = 0 ∨ r = 1 := by omega
      rcases this with rfl | rfl
      · exact ⟨_, rfl, by omega, by omega⟩
      · exact ⟨_, rfl, by omega, by omega⟩
    rw [e_at e]
    try walk_at "dl"
    refine take_use p2 ⟨by omega, by omega, by omega⟩ fun s x3 s0 s1 p3 => ?_
    try walk_at "dl"
    refine ⟨by rw [List.length_map]; exact Nat.lt_of_lt_of_le (show ps.length < 1000 by omega) (by decide), .inl ⟨x3, ps ++ [s], tot - s, _, _, rfl, ?_, ?_, fun p hp' => ?_, by omega, ?_, by omega, p3.le (by omega)⟩⟩
    · rw [List.map_append]
      rfl
    · rw [List.length_append, hpl]
      rfl
    · rcases List.mem_append.mp hp' with q1 | q1
      · exact hps p q1
      · cases List.mem_singleton.mp q1
        exact s0
    · rw [List.sum_append, List.sum_cons, List.sum_nil]
      omega
  · obtain ⟨x, ps, tot, o4, o5, rfl, rfl, hpl, hps, tt0, sm, tt1, hp⟩ := hI
    rw [rgD_len] at hpl hp
    try walk_at "dl"
    refine ⟨by rw [List.length_map]; exact Nat.lt_of_lt_of_le (show ps.length < 1000 by omega) (by decide), fun nb => ?_⟩
    refine take_use hp ⟨by omega, by omega, by omega⟩ fun s x3 s0 s1 p3 => ?_
    refine ⟨s, rfl, s, rfl, ?_, ?_⟩
    · rw [show ps.map D.int ++ [D.int tot] = (ps ++ [tot]).map D.int by rw [List.map_append]; rfl, ← List.length_append, cut_at s0 (by rw [List.length_append]; simp only [List.length_cons, List.length_nil]; omega), List.length_map, List.length_append, List.length_drop, List.length_take]
      refine Nat.le_trans (show _ ≤ 2000 from ?_) (by decide)
      rw [List.length_append]; simp only [List.length_cons, List.length_nil]; omega
    · rw [show ps.map D.int ++ [D.int tot] = (ps ++ [tot]).map D.int by rw [List.map_append]; rfl, cut_at s0 (by rw [List.length_append]; simp only [List.length_cons, List.length_nil]; omega)]
      rw [List.take_succ_cons, List.take_left]
      refine h _ x3 ?_ (fun p hp' => ?_) ?_ (p3.le (by omega))
      · rw [List.length_append, List.length_drop, List.length_take, List.length_append]
        simp only [List.length_cons, List.length_nil]; omega
      · have : p ∈ ps ++ [tot] := by
          rcases List.mem_append.mp hp' with q1 | q1
          · exact List.mem_of_mem_drop q1
          · exact List.mem_of_mem_take q1
        rcases List.mem_append.mp this with q1 | q1
        · exact hps p q1
        · cases List.mem_singleton.mp q1
          exact tt0
      · have e := congrArg List.sum (List.take_append_drop s.toNat (ps ++ [tot]))
        rw [List.sum_append, List.sum_append, List.sum_cons, List.sum_nil] at e
        rw [List.sum_append]
        omega
end PA
set_option Elab.async false
set_option linter.all false
set_option maxRecDepth 100000
set_option maxHeartbeats 2000000
set_option autoImplicit false
namespace PA
open PySem L2 DL K01 PM
local macro_rules | `(tactic| walk_at "dl") => `(tactic| simp only [u_dPar3, u_dSeq, u_dNext, u_dOwn, u_dOwnE, u_dFld, u_dMake, u_dMeth, u_dProp, u_dIsiO, u_dCallI, u_dSortSet, u_dFrz, e_isC, e_rgO, e_rgn, e_rgi, e_rgs, e_rgb, e_rgt, e_rgl, e_fz1, e_fz2, le_lim, lt_lim, set_snoc0, e_srtI, u_dBreak, u_dCont, u_dDrop, u_dRet, u_dRetN, u_dIfS, u_dNever, u_dAsg, u_dPar, u_dPutK, u_dAppend, u_dExtend, u_dCall, u_dVar, u_dC, u_dOp, u_dChain, u_dUn, u_dB, u_dNot, u_dAnd, u_dOr, u_dAndV, u_dOrV, u_dNotV, u_dIf, u_dNil, u_dCons, u_dTup, u_dLst, u_dLstC, u_dCB, u_dInK, u_dGetK, u_dDicC, u_dNoPart, u_dPart, u_dSl, u_dBits, u_dRev, u_dgName, u_dgsNil, u_dgsCons, u_dgTup, u_dgSet, u_diSeq, u_diR1, e_diR2, e_r2, u_diEnum, u_diEnumU, u_diZip, endD, finZ_d, finD, finC, List.take_length, u_dYes, wipeD, ix0, ix1, ix2, get_snoc, set_snoc, take_snoc, u_dOpC, u_dSlC, u_dListC, e_addC, e_mulC, e_loCl, e_loCt, e_loCs, e_wd, e_wc0, e_wcs, e_wsn, e_wc1, e_wc2, e_wl0, e_wl1, e_dl0, e_dl1, e_sl, e_st, e_ss, e_addi, e_adds, e_addt, e_addl, e_sub, e_muli, e_mult, e_mull, e_fdiv, e_mod, e_pow, e_neg, e_lt, e_le, e_gt, e_ge, e_eqi, e_eqs, e_eql, e_eqt, e_eqb, e_eqn, e_nei, e_nes, e_nel, e_net, e_neb, e_nen, e_isb, e_isn, e_inb, e_inn, e_in1, e_in2, e_in3, e_in4, e_in5, e_ixt, e_ixl, e_ixs, e_at0, e_at1, e_at2, e_at3, e_at4, e_at5, e_atl, e_keyi, e_keys, e_lenl, e_lent, e_lens, e_lend, e_maxi, e_mini, e_maxl, e_minl, e_sum, e_all, e_any, e_inti, e_intb, e_abs, e_tol, e_tot, e_tos, e_lol, e_lot, e_los, e_sll, e_slt, e_rvl, e_rvt, e_repr, e_isi, e_srtl, e_srtt, List.map_cons, List.map_nil, List.length_cons, List.length_nil, List.cons_append, List.nil_append, List.flatten_cons, List.flatten_nil, List.append_nil, List.replicate_succ, List.replicate_zero, List.getElem?_cons_zero, List.getElem?_cons_succ, List.set_cons_zero, List.set_cons_succ, Nat.reduceSub, Nat.reduceAdd, Int.reduceToNat, Int.reduceLE, Int.reduceLT, Int.reduceNeg, Nat.reduceLeDiff, Nat.reduceLT, Nat.zero_add, Option.some.injEq, Z.d.injEq, Z.c.injEq, D.bl.injEq, D.int.injEq, D.tup.injEq, D.lst.injEq, List.take_succ_cons, List.take_zero, exists_eq_left', exists_eq_left, true_and, and_true, if_true, Bool.not_true, Bool.not_false, Bool.false_eq_true, if_false, decide_true, decide_false, n_vK])
/-- the rows of a passage drawn: within one cycle each -/
structure Win (c b v : Int) (F : List Row) (b' v' : Int) : Prop where
  ok : ∀ r ∈ F, r.1 ≤ r.2.1
  bef : F.Pairwise Bef
  rng : ∀ r ∈ F, b ≤ r.1 ∧ r.2.1 < b' ∧ v ≤ r.2.2 ∧ r.2.2 + (r.2.1 - r.1) < v'
theorem Win.nil {c b v : Int} : Win c b v [] b v := ⟨by simp, by simp, by simp⟩
theorem Win.snoc {c b v b' v' : Int} {F : List Row} (h : Win c b v F b' v') {g a s : Int} (g0 : 0 ≤ g) (a0 : 0 ≤ a) (s1 : 1 ≤ s) (lb : b ≤ b') (lv : v ≤ v') :
    Win c b v (F ++ [(b' + g, b' + g + s - 1, v' + a)]) (b' + g + s) (v' + a + s) := by
  refine ⟨fun r hr => ?_, pw_snoc h.bef fun r hr => ?_, fun r hr => ?_⟩
  · rcases List.mem_append.mp hr with q | q
    · exact h.ok r q
    · cases List.mem_singleton.mp q; simp only; omega
  · have := h.rng r hr
    simp only [Bef]; omega
  · rcases List.mem_append.mp hr with q | q
    · have := h.rng r q; omega
    · cases List.mem_singleton.mp q; simp only; omega
theorem Win.val {c b v : Int} {F : List Row} (h : Win c b v F (b + c) (v + c)) (ne : F ≠ []) : Val c F := by
  refine ⟨ne, h.ok, h.bef, fun r hr s hs => ?_⟩
  have := h.rng r hr
  have := h.rng s hs
  simp only [Bef, mv]; omega
theorem sum_take {xs : List Int} {i : Nat} {x : Int} (h : xs[i]? = some x) : (xs.take (i + 1)).sum = (xs.take i).sum + x := by
  rw [List.take_add_one, h, Option.toList_some, List.sum_append, List.sum_cons, List.sum_nil]
  omega
theorem get_two (xs : Cs) (a b : D) : (xs ++ [a, b])[xs.length + 1]? = some b := by
  rw [List.getElem?_append_right (by omega), show xs.length + 1 - xs.length = 1 by omega]
  rfl
theorem set_two (xs : Cs) (a b c : D) : (xs ++ [a, b]).set (xs.length + 1) c = xs ++ [a, c] := by
  rw [List.set_append_right _ _ (by omega), show xs.length + 1 - xs.length = 1 by omega]
  rfl
def sp_l_rows : DSpec := fun zs cs k => match zs, cs with
  | [.c 0, .d (.int c), .d (.int many), .d (.int b), .d (.int v)], x :: rest => ∃ L, Spring L x ∧ (1 ≤ c ∧ c ≤ 10 ^ 30 ∧ 1 ≤ many ∧ many ≤ 1000 ∧ -(10 ^ 100) ≤ b ∧ b ≤ 10 ^ 100 ∧ -(10 ^ 100) ≤ v ∧ v ≤ 10 ^ 100 ∧ L ≤ 10 ^ 9) ∧
      ∀ (F : List Row) f x', RowsOk c f F → (F.length : Int) ≤ many → Win c b v F (b + c) (v + c) → Spring (L + 100000) x' → k (.d (.lst (rowsT F))) (x' :: rest)
  | _, _ => False
theorem shares_use {L : Nat} {x : D} {rest : Cs} {t m : Int} {k : Z → Cs → Prop} (hp : Spring L x) (hb : 0 ≤ t ∧ t ≤ 10 ^ 90 ∧ 1 ≤ m ∧ m ≤ 1000 ∧ L ≤ 10 ^ 10)
    (h : ∀ (ps : List Int) x', (ps.length : Int) = m → (∀ p ∈ ps, 0 ≤ p) → ps.sum = t → Spring (L + 10000) x' → k (.d (.lst (ps.map D.int))) (x' :: rest)) : sp_l_shares [.c 0, .d (.int t), .d (.int m)] (x :: rest) k := ⟨L, hp, hb, h⟩
theorem len_l_rows : ∀ zs cs q, sp_l_rows zs cs q → zs.length = (["_law_spring_here", "_law_cycle_here", "_law_many", "_law_begin", "_law_arrival"] : List Str).length := fun zs cs q h => by
  unfold sp_l_rows at h
  split at h
  · rfl
  · exact h.elim
def t_l_rows : DS :=
  (dSeq (dPar3 5 6 2 (dCons (dLstC dNil) (dCons (dVar 1) (dCons (dCB minD (dCons (dVar 2) (dCons (dVar 1) dNil))) dNil))))
  (dSeq (dFor (diR1 (dVar 2)) (dgName 7) (dSeq (dAsg (dOp subD (dVar 6) (dOp subD (dOp subD (dVar 2) (dVar 7)) (dC (.int 1)))) (dgName 8))
  (dSeq (dDrop (dAppend (dVar 5) (dOp addD (dC (.int 1)) (dCall sp_l_take (dCons (dVar 0) (dCons (dOp ixD (dLst (dCons (dC (.int 1)) (dCons (dCB minD (dCons (dVar 8) (dCons (dC (.int 3)) dNil))) (dCons (dVar 8) dNil)))) (dCall sp_l_take (dCons (dVar 0) (dCons (dC (.int 3)) dNil)))) dNil))))))
  (dAsg (dOp subD (dVar 6) (dOp ixD (dVar 5) (dUn negD (dC (.int 1))))) (dgName 6)))))
  (dFrz 5 (dSeq (dPar3 9 10 11 (dCons (dCall sp_l_shares (dCons (dVar 0) (dCons (dVar 6) (dCons (dVar 2) dNil)))) (dCons (dCall sp_l_shares (dCons (dVar 0) (dCons (dVar 6) (dCons (dVar 2) dNil)))) (dCons (dLstC dNil) dNil))))
  (dSeq (dFor (diEnumU (dVar 5)) (dgTup 2 (dgsCons (dgName 12) (dgsCons (dgName 13) dgsNil))) (dSeq (dPar 3 4 (dCons (dOp addD (dVar 3) (dOp ixD (dVar 9) (dVar 12))) (dCons (dOp addD (dVar 4) (dOp ixD (dVar 10) (dVar 12))) dNil)))
  (dSeq (dDrop (dAppend (dVar 11) (dTup (dCons (dVar 3) (dCons (dOp subD (dOp addD (dVar 3) (dVar 13)) (dC (.int 1))) (dCons (dVar 4) dNil))))))
  (dPar 3 4 (dCons (dOp addD (dVar 3) (dVar 13)) (dCons (dOp addD (dVar 4) (dVar 13)) dNil))))))
  (dRet (dVar 11)))))))
theorem rd_l_rows : ∀ zs cs q, sp_l_rows zs cs q → t_l_rows (endD cs.length q) (startD ["_law_spring_here", "_law_cycle_here", "_law_many", "_law_begin", "_law_arrival", "_law_sizes", "_law_left", "_law_turn", "_law_room", "_law_starts_here", "_law_arrivals", "_law_found", "_law_spot", "_law_size_here"] zs) cs := fun zs cs q h => by
  unfold sp_l_rows at h
  split at h
  rotate_left
  · exact h.elim
  simp only [startD, List.map_cons, List.map_nil, List.length_cons, List.length_nil, Nat.reduceAdd, Nat.zero_add, Nat.reduceSub, List.replicate_zero, List.replicate_succ, List.cons_append, List.nil_append, List.append_nil]
  rename_i c many b v x rest
  obtain ⟨L, hP, ⟨c1, cle, m1, m2, b1, b2, v1, v2, hL⟩, h⟩ := h
  unfold t_l_rows
  try walk_at "dl"
  obtain ⟨m, hm, q1, q2, q3⟩ : ∃ m : Int, min many c = m ∧ 1 ≤ m ∧ m ≤ 1000 ∧ m ≤ c := ⟨_, rfl, by omega, by omega, by omega⟩
  have q4 : m ≤ many := by omega
  simp only [hm]
  refine dFor_mk (rgD 0 m.toNat) yes (x :: (rest ++ [.lst []])) (fun K h => by walk_at "dl"; exact ⟨⟨by omega, by omega⟩, h⟩)
    (fun i en cx => ∃ (x : D) (ss : List Int) (left : Int) (o7 o8 : Option Z), en = [some (.c 0), some (.d (.int c)), some (.d (.int m)), some (.d (.int b)), some (.d (.int v)), some (.c (rest.length + 1)), some (.d (.int left)), o7, o8, none, none, none, none, none] ∧ cx = x :: (rest ++ [.lst (ss.map D.int)]) ∧ ss.length = i ∧ (∀ s ∈ ss, 1 ≤ s) ∧ ss.sum + left = c ∧ m - i ≤ left ∧ left ≤ c ∧ Spring (L + 2 * i) x)
    ⟨x, [], c, _, _, rfl, rfl, rfl, fun p hp => (by simp at hp), by simp, by omega, by omega, hP.le (by omega)⟩ (fun i d en cx hd hI => ?_) (fun en cx hI => ?_) (fun _ _ _ _ => trivial)
  · obtain ⟨hi, rfl⟩ := rgD_get hd
    obtain ⟨x, ss, left, o7, o8, rfl, rfl, hpl, hps, sm, l1, l2, hp⟩ := hI
    have hi2 : (i : Int) < m := by omega
    try walk_at "dl"
    refine take_use hp ⟨by decide, by decide, by omega⟩ fun r x2 r0 r1 p2 => ?_
    try walk_at "dl"
    obtain ⟨bd, e, h1, h2⟩ : ∃ bd : Int, atI [D.int 1, D.int (min (left - (m - (i : Int) - 1)) 3), D.int (left - (m - (i : Int) - 1))] r = some (D.int bd) ∧ 1 ≤ bd ∧ bd ≤ left - (m - (i : Int) - 1) := by
      have : r = 0 ∨ r = 1 ∨ r = 2 := by omega
      rcases this with rfl | rfl | rfl
      · exact ⟨_, rfl, by omega, by omega⟩
      · exact ⟨_, rfl, by omega, by omega⟩
      · exact ⟨_, rfl, by omega, by omega⟩
    simp only [Int.zero_add]
    rw [e_at e]
    try walk_at "dl"
    refine take_use p2 ⟨by omega, by omega, by omega⟩ fun s x3 s0 s1 p3 => ?_
    try walk_at "dl"
    refine ⟨by rw [List.length_map]; exact Nat.lt_of_lt_of_le (show ss.length < 1000 by omega) (by decide), .inl ⟨x3, ss ++ [1 + s], left - (1 + s), _, _, rfl, ?_, ?_, fun p hp' => ?_, ?_, by omega, by omega, p3.le (by omega)⟩⟩
    · rw [List.map_append]
      rfl
    · rw [List.length_append, hpl]
      rfl
    · rcases List.mem_append.mp hp' with q1 | q1
      · exact hps p q1
      · cases List.mem_singleton.mp q1
        omega
    · rw [List.sum_append, List.sum_cons, List.sum_nil]
      omega
  · obtain ⟨x, ss, left, o7, o8, rfl, rfl, hpl, hps, sm, l1, l2, hp⟩ := hI
    rw [rgD_len] at hpl hp l1
    try walk_at "dl"
    intro nb
    refine shares_use hp ⟨by omega, by omega, by omega, by omega, by omega⟩ fun gs x2 gl gn gm p2 => ?_
    refine shares_use p2 ⟨by omega, by omega, by omega, by omega, by omega⟩ fun as x3 al an am p3 => ?_
    try walk_at "dl"
    have ml : ((m.toNat : Nat) : Int) = m := Int.toNat_of_nonneg (by omega)
    refine dFor_mk (enumD (ss.map D.int)) yes (x3 :: (rest ++ [.obj nb, .lst []])) (fun K h => by walk_at "dl"; simpa using h)
      (fun i en cx => ∃ (F : List Row) (b' v' : Int) (o12 o13 : Option Z), en = [some (.c 0), some (.d (.int c)), some (.d (.int m)), some (.d (.int b')), some (.d (.int v')), some (.d (.lst (ss.map D.int))), some (.d (.int left)), o7, o8, some (.d (.lst (gs.map D.int))), some (.d (.lst (as.map D.int))), some (.c (rest.length + 2)), o12, o13] ∧ cx = x3 :: (rest ++ [.obj nb, .lst (rowsT F)]) ∧ F.length = i ∧ Win c b v F b' v' ∧ b' = b + (gs.take i).sum + (ss.take i).sum ∧ v' = v + (as.take i).sum + (ss.take i).sum ∧ b ≤ b' ∧ v ≤ v')
      ⟨[], b, v, none, none, by simp, rfl, rfl, Win.nil, by simp, by simp, Int.le_refl _, Int.le_refl _⟩ (fun i d en cx hd hI => ?_) (fun en cx hI => ?_) (fun _ _ _ _ => trivial)
    · obtain ⟨d', hd', rfl⟩ := enumD_get hd
      obtain ⟨s, hs, rfl⟩ : ∃ s, ss[i]? = some s ∧ d' = .int s := by
        rw [List.getElem?_map] at hd'
        cases q : ss[i]? with
        | none => rw [q] at hd'; cases hd'
        | some r => rw [q] at hd'; exact ⟨r, rfl, (Option.some.inj hd').symm⟩
      have il := (List.getElem?_eq_some_iff.mp hs).1
      obtain ⟨F, b', v', o12, o13, rfl, rfl, fl, W, eb, ev, lb, lv⟩ := hI
      obtain ⟨g, hg⟩ : ∃ g, gs[i]? = some g := ⟨_, List.getElem?_eq_getElem (by omega)⟩
      obtain ⟨a, ha⟩ : ∃ a, as[i]? = some a := ⟨_, List.getElem?_eq_getElem (by omega)⟩
      have g0 := gn g (List.mem_of_getElem? hg)
      have a0 := an a (List.mem_of_getElem? ha)
      have s1 := hps s (List.mem_of_getElem? hs)
      have eg : atI (gs.map D.int) (i : Int) = some (.int g) := at_int (by omega) (by rw [List.getElem?_map, Int.toNat_natCast, hg]; rfl)
      have ea : atI (as.map D.int) (i : Int) = some (.int a) := at_int (by omega) (by rw [List.getElem?_map, Int.toNat_natCast, ha]; rfl)
      try walk_at "dl"
      rw [e_at eg]
      try walk_at "dl"
      rw [e_at ea]
      try walk_at "dl"
      simp only [get_two, set_two]
      refine ⟨by unfold rowsT; rw [List.length_map]; exact Nat.lt_of_lt_of_le (show F.length < 1001 by omega) (by decide), .inl ⟨F ++ [(b' + g, b' + g + s - 1, v' + a)], _, _, _, _, rfl, ?_, ?_, W.snoc g0 a0 s1 lb lv, ?_, ?_, by omega, by omega⟩⟩
      · unfold rowsT
        rw [List.map_append]
        rfl
      · rw [List.length_append, fl]
        rfl
      · rw [sum_take hg, sum_take hs]
        omega
      · rw [sum_take ha, sum_take hs]
        omega
    · obtain ⟨F, b', v', o12, o13, rfl, rfl, fl, W, eb, ev, lb, lv⟩ := hI
      rw [enumD_len, List.length_map] at fl eb ev
      try walk_at "dl"
      rw [List.take_of_length_le (by omega)] at eb ev
      rw [List.take_of_length_le (by omega)] at eb ev
      have e1 : b' = b + c := by omega
      have e2 : v' = v + c := by omega
      subst e1
      subst e2
      have ne : F ≠ [] := fun z => by rw [z] at fl; simp at fl; omega
      have V := W.val ne
      obtain ⟨f, pf, cf⟩ := fun_of c1 V
      refine finZ_froz (x := .lst (rowsT F)) (by omega) (by rw [List.getElem?_cons_succ]; exact get_two _ _ _) ?_
      rw [List.take_succ_cons, List.take_left]
      refine h F f x3 ⟨pf, cle, V, cf, by omega, fun r hr => ?_⟩ (by omega) W (p3.le (by omega))
      have w1 := W.rng r hr
      have w2 := W.ok r hr
      refine ⟨⟨by omega, by omega⟩, ⟨by omega, by omega⟩, ⟨by omega, by omega⟩⟩
theorem rows_use {L : Nat} {x : D} {rest : Cs} {c m b v : Int} {k : Z → Cs → Prop} (hp : Spring L x) (hb : 1 ≤ c ∧ c ≤ 10 ^ 30 ∧ 1 ≤ m ∧ m ≤ 1000 ∧ -(10 ^ 100) ≤ b ∧ b ≤ 10 ^ 100 ∧ -(10 ^ 100) ≤ v ∧ v ≤ 10 ^ 100 ∧ L ≤ 10 ^ 9)
    (h : ∀ (F : List Row) f x', RowsOk c f F → (F.length : Int) ≤ m → Win c b v F (b + c) (v + c) → Spring (L + 100000) x' → k (.d (.lst (rowsT F))) (x' :: rest)) :
    sp_l_rows [.c 0, .d (.int c), .d (.int m), .d (.int b), .d (.int v)] (x :: rest) k := ⟨L, hp, hb, h⟩
theorem Win.mag {c b v : Int} {F : List Row} {f : Int → Int} (W : Win c b v F (b + c) (v + c)) (R : RowsOk c f F) : v - b - 2 * c ≤ f 0 ∧ f 0 ≤ v - b + 2 * c := by
  obtain ⟨r, hr⟩ := List.exists_mem_of_ne_nil F R.val.ne
  have w1 := W.rng r hr
  have w2 := W.ok r hr
  have e := (R.cov.on r hr r.1 r.2.2 ⟨Int.le_refl _, w2, by omega⟩).2
  have m := mag_at R.psg r.1
  omega
def sp_l_drawn : DSpec := fun zs cs k => match zs, cs with
  | [.c 0, .d (.int c), .d (.int many)], x :: rest => ∃ L, Spring L x ∧ (1 ≤ c ∧ c ≤ 10 ^ 30 ∧ 1 ≤ many ∧ many ≤ 999 ∧ L ≤ 10 ^ 8) ∧
      ∀ (F : List Row) f b v x', RowsOk c f F → (F.length : Int) ≤ many → Win c b v F (b + c) (v + c) → (-(10 ^ 41) ≤ b ∧ b ≤ 10 ^ 41 ∧ -(10 ^ 41) ≤ v ∧ v ≤ 10 ^ 41) → Spring (L + 200000) x' → k (.d (.lst (rowsT F))) (x' :: rest)
  | _, _ => False
theorem len_l_drawn : ∀ zs cs q, sp_l_drawn zs cs q → zs.length = (["_law_spring_here", "_law_cycle_here", "_law_many"] : List Str).length := fun zs cs q h => by
  unfold sp_l_drawn at h
  split at h
  · rfl
  · exact h.elim
def t_l_drawn : DS :=
  (dSeq (dAsg (dOp ixD (dLst (dCons (dOp addD (dVar 1) (dC (.int 1))) (dCons (dOp powD (dC (.int 10)) (dC (.int 40))) dNil))) (dCall sp_l_take (dCons (dVar 0) (dCons (dC (.int 2)) dNil)))) (dgName 3))
  (dSeq (dAsg (dOp subD (dCall sp_l_take (dCons (dVar 0) (dCons (dVar 3) dNil))) (dOp fdivD (dVar 3) (dC (.int 2)))) (dgName 4))
  (dSeq (dAsg (dOp ixD (dLst (dCons (dOp addD (dVar 4) (dCall sp_l_take (dCons (dVar 0) (dCons (dOp addD (dOp mulD (dC (.int 2)) (dVar 1)) (dC (.int 9))) dNil)))) (dCons (dOp subD (dCall sp_l_take (dCons (dVar 0) (dCons (dVar 3) dNil))) (dOp fdivD (dVar 3) (dC (.int 2)))) dNil))) (dCall sp_l_take (dCons (dVar 0) (dCons (dC (.int 2)) dNil)))) (dgName 5))
  (dRet (dCall sp_l_rows (dCons (dVar 0) (dCons (dVar 1) (dCons (dOp addD (dC (.int 1)) (dCall sp_l_take (dCons (dVar 0) (dCons (dVar 2) dNil)))) (dCons (dVar 4) (dCons (dVar 5) dNil))))))))))
theorem rd_l_drawn : ∀ zs cs q, sp_l_drawn zs cs q → t_l_drawn (endD cs.length q) (startD ["_law_spring_here", "_law_cycle_here", "_law_many", "_law_far", "_law_begin", "_law_arrival"] zs) cs := fun zs cs q h => by
  unfold sp_l_drawn at h
  split at h
  rotate_left
  · exact h.elim
  simp only [startD, List.map_cons, List.map_nil, List.length_cons, List.length_nil, Nat.reduceAdd, Nat.zero_add, Nat.reduceSub, List.replicate_zero, List.replicate_succ, List.cons_append, List.nil_append, List.append_nil]
  rename_i c many x rest
  obtain ⟨L, hP, ⟨c1, cle, m1, m2, hL⟩, h⟩ := h
  have s10 : Sm 10 := Sm.of (by decide) (by decide)
  unfold t_l_drawn
  try walk_at "dl"
  refine ⟨s10, ?_⟩
  refine take_use hP ⟨by decide, by decide, by omega⟩ fun r x1 r0 r1 p1 => ?_
  obtain ⟨far, e, f1, f2⟩ : ∃ far : Int, atI [D.int (c + 1), D.int (10 ^ 40)] r = some (D.int far) ∧ 1 ≤ far ∧ far ≤ 10 ^ 40 := by
    have : r = 0 ∨ r = 1 := by omega
    rcases this with rfl | rfl
    · exact ⟨_, rfl, by omega, by omega⟩
    · exact ⟨_, rfl, by omega, by omega⟩
  try walk_at "dl"
  rw [e_at e]
  try walk_at "dl"
  refine take_use p1 ⟨by omega, by omega, by omega⟩ fun b x2 b0 b1 p2 => ?_
  try walk_at "dl"
  have s2 : Sm 2 := Sm.of (by decide) (by decide)
  refine ⟨Dv.of (by decide) (by decide), ⟨s2, Sm.of (by omega) (by omega)⟩, take_use p2 ⟨by omega, by omega, by omega⟩ fun t x3 t0 t1 p3 => ?_⟩
  try walk_at "dl"
  refine take_use p3 ⟨by omega, by omega, by omega⟩ fun u x4 u0 u1 p4 => ?_
  try walk_at "dl"
  refine ⟨Dv.of (by decide) (by decide), take_use p4 ⟨by omega, by omega, by omega⟩ fun r2 x5 r20 r21 p5 => ?_⟩
  obtain ⟨v, e2, v1, v2⟩ : ∃ v : Int, atI [D.int (b - far / 2 + t), D.int (u - far / 2)] r2 = some (D.int v) ∧ -(10 ^ 41) ≤ v ∧ v ≤ 10 ^ 41 := by
    have : r2 = 0 ∨ r2 = 1 := by omega
    rcases this with rfl | rfl
    · exact ⟨_, rfl, by omega, by omega⟩
    · exact ⟨_, rfl, by omega, by omega⟩
  try walk_at "dl"
  rw [e_at e2]
  try walk_at "dl"
  refine take_use p5 ⟨by omega, by omega, by omega⟩ fun m x6 m0 m1 p6 => ?_
  try walk_at "dl"
  refine rows_use p6 ⟨c1, cle, by omega, by omega, by omega, by omega, by omega, by omega, by omega⟩ fun F f x7 R fl W p7 => ?_
  rw [finZ_d, List.take_succ_cons, List.take_length]
  exact h F f _ _ x7 R (by omega) W ⟨by omega, by omega, v1, v2⟩ (p7.le (by omega))
end PA
set_option Elab.async false
set_option linter.all false
set_option maxRecDepth 100000
set_option maxHeartbeats 2000000
set_option autoImplicit false
namespace PA
open PySem L2 DL K01 PM
local macro_rules | `(tactic| walk_at "dl") => `(tactic| simp only [u_dPar3, u_dSeq, u_dNext, u_dOwn, u_dOwnE, u_dFld, u_dMake, u_dMeth, u_dProp, u_dIsiO, u_dCallI, u_dSortSet, u_dFrz, e_isC, e_rgO, e_rgn, e_rgi, e_rgs, e_rgb, e_rgt, e_rgl, e_fz1, e_fz2, le_lim, lt_lim, set_snoc0, e_srtI, u_dBreak, u_dCont, u_dDrop, u_dRet, u_dRetN, u_dIfS, u_dNever, u_dAsg, u_dPar, u_dPutK, u_dAppend, u_dExtend, u_dCall, u_dVar, u_dC, u_dOp, u_dChain, u_dUn, u_dB, u_dNot, u_dAnd, u_dOr, u_dAndV, u_dOrV, u_dNotV, u_dIf, u_dNil, u_dCons, u_dTup, u_dLst, u_dLstC, u_dCB, u_dInK, u_dGetK, u_dDicC, u_dNoPart, u_dPart, u_dSl, u_dBits, u_dRev, u_dgName, u_dgsNil, u_dgsCons, u_dgTup, u_dgSet, u_diSeq, u_diR1, e_diR2, e_r2, u_diEnum, u_diEnumU, u_diZip, endD, finZ_d, finD, finC, List.take_length, u_dYes, wipeD, ix0, ix1, ix2, get_snoc, set_snoc, take_snoc, u_dOpC, u_dSlC, u_dListC, e_addC, e_mulC, e_loCl, e_loCt, e_loCs, e_wd, e_wc0, e_wcs, e_wsn, e_wc1, e_wc2, e_wl0, e_wl1, e_dl0, e_dl1, e_sl, e_st, e_ss, e_addi, e_adds, e_addt, e_addl, e_sub, e_muli, e_mult, e_mull, e_fdiv, e_mod, e_pow, e_neg, e_lt, e_le, e_gt, e_ge, e_eqi, e_eqs, e_eql, e_eqt, e_eqb, e_eqn, e_nei, e_nes, e_nel, e_net, e_neb, e_nen, e_isb, e_isn, e_inb, e_inn, e_in1, e_in2, e_in3, e_in4, e_in5, e_ixt, e_ixl, e_ixs, e_at0, e_at1, e_at2, e_at3, e_at4, e_at5, e_atl, e_keyi, e_keys, e_lenl, e_lent, e_lens, e_lend, e_maxi, e_mini, e_maxl, e_minl, e_sum, e_all, e_any, e_inti, e_intb, e_abs, e_tol, e_tot, e_tos, e_lol, e_lot, e_los, e_sll, e_slt, e_rvl, e_rvt, e_repr, e_isi, e_srtl, e_srtt, List.map_cons, List.map_nil, List.length_cons, List.length_nil, List.cons_append, List.nil_append, List.flatten_cons, List.flatten_nil, List.append_nil, List.replicate_succ, List.replicate_zero, List.getElem?_cons_zero, List.getElem?_cons_succ, List.set_cons_zero, List.set_cons_succ, Nat.reduceSub, Nat.reduceAdd, Int.reduceToNat, Int.reduceLE, Int.reduceLT, Int.reduceNeg, Nat.reduceLeDiff, Nat.reduceLT, Nat.zero_add, Option.some.injEq, Z.d.injEq, Z.c.injEq, D.bl.injEq, D.int.injEq, D.tup.injEq, D.lst.injEq, List.take_succ_cons, List.take_zero, exists_eq_left', exists_eq_left, true_and, and_true, if_true, Bool.not_true, Bool.not_false, Bool.false_eq_true, if_false, decide_true, decide_false, n_vK])
theorem isC_psg (cA : Str → Addr) (c : Int) (rs : List Row) : isC (cA "Passage") (psgD cA c rs) = True := by
  simp only [psgD, e_isC]
theorem rgt_psg (cA : Str → Addr) (c : Int) (rs : List Row) : rgt (cA "Passage") (psgD cA c rs) = True := by
  simp only [psgD, e_rgO]
local macro_rules | `(tactic| walk_at "ww") => `(tactic| ((try walk_at "dl"); (try simp only [isC_psg, rgt_psg, true_and])))
theorem Pas.le {c : Int} {f : Int → Int} {rs : List Row} {N N' : Nat} {M M' : Int} (p : Pas c f rs N M) (l : N ≤ N') (m : M ≤ M') : Pas c f rs N' M' :=
  ⟨p.psg, p.can, p.cle, Nat.le_trans p.len l, by have := p.mag; omega⟩
end PA
set_option Elab.async false
set_option linter.all false
set_option autoImplicit false
/-! PMH: what the laws work out by themselves: the arrival from the rows, the runs from a table -/
namespace PM
variable {c : Int} {f g : Int → Int} {F rs : List Row}
theorem bef_idx (V : Val c F) {i j : Nat} {r s : Row} (hi : F[i]? = some r) (hj : F[j]? = some s) (l : i < j) : Bef r s := by
  obtain ⟨hi', rfl⟩ := List.getElem?_eq_some_iff.mp hi
  obtain ⟨hj', rfl⟩ := List.getElem?_eq_some_iff.mp hj
  exact List.pairwise_iff_getElem.mp V.bef i j hi' hj' l
theorem to_val (p : Psg c f) (V : Val c F) (C : Cov c F f) {start b t : Int} (hb : b = t * c) {i : Nat} {r : Row} (hi : F[i]? = some r) (le : start ≤ r.2.1 + b)
    (bef : ∀ (j : Nat) (s : Row), j < i → F[j]? = some s → s.2.1 + b < start) (lo : ∀ s ∈ F, s.2.1 + b - c < start) : f start = r.2.2 + b + max 0 (start - r.1 - b) := by
  have hc := p.pos
  have mr := List.mem_of_getElem? hi
  have ok := V.ok r mr
  have a : At f (mv r b) start := by
    refine ⟨by simp only [mv]; omega, by simp only [mv]; omega, fun z y o => ?_, fun y h1 h2 hl => ?_⟩
    · simp only [On, mv] at o
      have q := C.on r mr (z - b) (y - b) ⟨by omega, by omega, by omega⟩
      have e := p.perK t (z - b)
      have l := lst_per p t (z - b)
      rw [← hb, show z - b + b = z by omega] at e l
      exact ⟨l.mpr q.1, by omega⟩
    · simp only [mv] at h2
      obtain ⟨s, hs, k, o1, o2, _⟩ := C.ex y hl
      have e : y + k * c = (y - b) + (k + t) * c := by rw [Int.add_mul, ← hb]; omega
      rw [e] at o1 o2
      have l := lo s hs
      obtain ⟨j, hj⟩ := List.mem_iff_getElem?.mp hs
      rcases Int.lt_trichotomy (k + t) 0 with z | z | z
      · have w := (V.wrap r mr s hs).1
        simp only [mv] at w
        have := mul_step (k' := k + t) (k := 0) (c := c) (by omega) (by omega)
        rw [Int.zero_mul] at this
        omega
      · rw [z, Int.zero_mul, Int.add_zero] at o1 o2
        rcases Nat.lt_trichotomy j i with q | q | q
        · have := bef j s q hj
          omega
        · subst q
          rw [hi] at hj
          cases hj
          omega
        · have := (bef_idx V hi hj q).1
          omega
      · have := mul_step (k' := 0) (k := k + t) (c := c) (by omega) (by omega)
        rw [Int.zero_mul] at this
        omega
  have v := a.val p
  simp only [mv] at v
  rw [v]
  congr 2
  omega
/-! ### the runs from a table -/
theorem run_none {x : Int} (h : ¬ (Lst f x ∧ ¬ Lnk f (x - 1))) {r : Row} (m : RunM f r) : r.1 ≠ x := fun e => by
  subst e
  refine h ⟨(m.on r.1 (Int.le_refl _) m.le).1, fun q => m.lo ⟨q.1, ?_⟩⟩
  have a := (m.on r.1 (Int.le_refl _) m.le).2
  have b := q.2.2
  rw [show r.1 - 1 + 1 = r.1 by omega] at b
  omega
/-- what has been found of the starts ahead of x -/
structure Part (f : Int → Int) (x : Int) (F : List Row) : Prop where
  ord : F.Pairwise fun a b => a.1 < b.1
  mem : ∀ r, r ∈ F ↔ 0 ≤ r.1 ∧ r.1 < x ∧ RunM f r
theorem Part.nil : Part f 0 [] := ⟨by simp, fun r => ⟨fun h => by simp at h, fun h => by omega⟩⟩
theorem Part.skip {x : Int} (P : Part f x F) (h : ¬ (Lst f x ∧ ¬ Lnk f (x - 1))) : Part f (x + 1) F :=
  ⟨P.ord, fun r => (P.mem r).trans ⟨fun q => ⟨q.1, by omega, q.2.2⟩, fun q => ⟨q.1, by have := run_none h q.2.2; omega, q.2.2⟩⟩⟩
theorem Part.snoc {x y : Int} (P : Part f x F) (x0 : 0 ≤ x) (m : RunM f (x, y, f x)) : Part f (x + 1) (F ++ [(x, y, f x)]) := by
  refine ⟨List.pairwise_append.mpr ⟨P.ord, by simp, fun a ha b hb => ?_⟩, fun r => ⟨fun h => ?_, fun h => ?_⟩⟩
  · cases List.mem_singleton.mp hb
    exact ((P.mem a).mp ha).2.1
  · rcases List.mem_append.mp h with q | q
    · have := (P.mem r).mp q
      exact ⟨this.1, by omega, this.2.2⟩
    · cases List.mem_singleton.mp q
      exact ⟨x0, by simp only; omega, m⟩
  · by_cases e : r.1 = x
    · have : r = (x, y, f x) := RunM.same h.2.2 m (x := x) (by omega) (by have := h.2.2.le; omega) (Int.le_refl _) m.le
      rw [this]
      simp
    · exact List.mem_append_left _ ((P.mem r).mpr ⟨h.1, by omega, h.2.2⟩)
end PM
set_option Elab.async false
set_option linter.all false
set_option maxRecDepth 100000
set_option maxHeartbeats 2000000
set_option autoImplicit false
namespace PA
open PySem L2 DL K01 PM
local macro_rules | `(tactic| walk_at "dl") => `(tactic| simp only [u_dPar3, u_dSeq, u_dNext, u_dOwn, u_dOwnE, u_dFld, u_dMake, u_dMeth, u_dProp, u_dIsiO, u_dCallI, u_dSortSet, u_dFrz, e_isC, e_rgO, e_rgn, e_rgi, e_rgs, e_rgb, e_rgt, e_rgl, e_fz1, e_fz2, le_lim, lt_lim, set_snoc0, e_srtI, u_dBreak, u_dCont, u_dDrop, u_dRet, u_dRetN, u_dIfS, u_dNever, u_dAsg, u_dPar, u_dPutK, u_dAppend, u_dExtend, u_dCall, u_dVar, u_dC, u_dOp, u_dChain, u_dUn, u_dB, u_dNot, u_dAnd, u_dOr, u_dAndV, u_dOrV, u_dNotV, u_dIf, u_dNil, u_dCons, u_dTup, u_dLst, u_dLstC, u_dCB, u_dInK, u_dGetK, u_dDicC, u_dNoPart, u_dPart, u_dSl, u_dBits, u_dRev, u_dgName, u_dgsNil, u_dgsCons, u_dgTup, u_dgSet, u_diSeq, u_diR1, e_diR2, e_r2, u_diEnum, u_diEnumU, u_diZip, endD, finZ_d, finD, finC, List.take_length, u_dYes, wipeD, ix0, ix1, ix2, get_snoc, set_snoc, take_snoc, u_dOpC, u_dSlC, u_dListC, e_addC, e_mulC, e_loCl, e_loCt, e_loCs, e_wd, e_wc0, e_wcs, e_wsn, e_wc1, e_wc2, e_wl0, e_wl1, e_dl0, e_dl1, e_sl, e_st, e_ss, e_addi, e_adds, e_addt, e_addl, e_sub, e_muli, e_mult, e_mull, e_fdiv, e_mod, e_pow, e_neg, e_lt, e_le, e_gt, e_ge, e_eqi, e_eqs, e_eql, e_eqt, e_eqb, e_eqn, e_nei, e_nes, e_nel, e_net, e_neb, e_nen, e_isb, e_isn, e_inb, e_inn, e_in1, e_in2, e_in3, e_in4, e_in5, e_ixt, e_ixl, e_ixs, e_at0, e_at1, e_at2, e_at3, e_at4, e_at5, e_atl, e_keyi, e_keys, e_lenl, e_lent, e_lens, e_lend, e_maxi, e_mini, e_maxl, e_minl, e_sum, e_all, e_any, e_inti, e_intb, e_abs, e_tol, e_tot, e_tos, e_lol, e_lot, e_los, e_sll, e_slt, e_rvl, e_rvt, e_repr, e_isi, e_srtl, e_srtt, List.map_cons, List.map_nil, List.length_cons, List.length_nil, List.cons_append, List.nil_append, List.flatten_cons, List.flatten_nil, List.append_nil, List.replicate_succ, List.replicate_zero, List.getElem?_cons_zero, List.getElem?_cons_succ, List.set_cons_zero, List.set_cons_succ, Nat.reduceSub, Nat.reduceAdd, Int.reduceToNat, Int.reduceLE, Int.reduceLT, Int.reduceNeg, Nat.reduceLeDiff, Nat.reduceLT, Nat.zero_add, Option.some.injEq, Z.d.injEq, Z.c.injEq, D.bl.injEq, D.int.injEq, D.tup.injEq, D.lst.injEq, List.take_succ_cons, List.take_zero, exists_eq_left', exists_eq_left, true_and, and_true, if_true, Bool.not_true, Bool.not_false, Bool.false_eq_true, if_false, decide_true, decide_false, n_vK])
theorem dWhile_mk {c : DT} {b : DS} {D0 : DEnds} {en : En} {cs : Cs} (I : Nat → En → Cs → Prop) (m : Nat) (h0 : I m en cs)
    (st : ∀ m en cs1, I m en cs1 → c en cs1 fun k cs2 => if k = true then b { D0 with nx := Wkn cs.length fun en2 cs2 => ∃ m', m' < m ∧ I m' en2 cs2, ct := Wkn cs.length fun en2 cs2 => ∃ m', m' < m ∧ I m' en2 cs2, bk := D0.nx } en cs2 else D0.nx en cs2) :
    dWhile c b D0 en cs := ⟨I, ⟨m, h0⟩, st⟩
def sp_l_to : DSpec := fun zs cs k => match zs with
  | [.d (.int c), .d (.lst xs), .d (.int s)] => ∃ F f, xs = rowsT F ∧ (RowsOk c f F ∧ -(10 ^ 165) ≤ s ∧ s ≤ 10 ^ 165) ∧ k (.d (.int (f s))) cs
  | _ => False
theorem len_l_to : ∀ zs cs q, sp_l_to zs cs q → zs.length = (["_law_cycle_here", "_law_rows_here", "_law_start"] : List Str).length := fun zs cs q h => by
  unfold sp_l_to at h
  split at h
  · rfl
  · exact h.elim
def t_l_to : DS :=
  (dSeq (dAsg (dOp fdivD (dOp subD (dVar 2) (dOp ixD (dOp ixD (dVar 1) (dC (.int 0))) (dC (.int 0)))) (dVar 0)) (dgName 3))
  (dSeq (dFor (diSeq (dTup (dCons (dOp mulD (dVar 3) (dVar 0)) (dCons (dOp mulD (dOp addD (dVar 3) (dC (.int 1))) (dVar 0)) dNil)))) (dgName 4) (dFor (diSeq (dVar 1)) (dgTup 3 (dgsCons (dgName 5) (dgsCons (dgName 6) (dgsCons (dgName 7) dgsNil)))) (dIfS (dB (dOp geD (dOp addD (dVar 6) (dVar 4)) (dVar 2))) (dRet (dOp addD (dOp addD (dVar 7) (dVar 4)) (dCB maxD (dCons (dC (.int 0)) (dCons (dOp subD (dOp subD (dVar 2) (dVar 5)) (dVar 4)) dNil))))) dNext)))
  (dRet (dC .non))))
theorem rd_l_to : ∀ zs cs q, sp_l_to zs cs q → t_l_to (endD cs.length q) (startD ["_law_cycle_here", "_law_rows_here", "_law_start", "_law_turns", "_law_by", "_law_first", "_law_last", "_law_arrival"] zs) cs := fun zs cs q h => by
  unfold sp_l_to at h
  split at h
  rotate_left
  · exact h.elim
  rename_i c xs s
  simp only [startD, List.map_cons, List.map_nil, List.length_cons, List.length_nil, Nat.reduceAdd, Nat.zero_add, Nat.reduceSub, List.replicate_zero, List.replicate_succ, List.cons_append, List.nil_append, List.append_nil]
  obtain ⟨F, f, rfl, ⟨R, s0, s1⟩, h⟩ := h
  have hc := R.psg.pos
  have cle := R.cle
  have V := R.val
  obtain ⟨r0, hr0⟩ : ∃ r0, F[0]? = some r0 := by
    cases q : F with
    | nil => exact absurd q V.ne
    | cons a l => exact ⟨a, rfl⟩
  have m0 := List.mem_of_getElem? hr0
  have b0 := R.bd r0 m0
  have ok0 := V.ok r0 m0
  have h0 : ∀ k : D → Prop, atD (rowsT F) 0 k = k (rowT r0) := fun k => e_at (at_nat (i := 0) (rowsT_get hr0))
  have e0 := b0.1
  unfold Bs at e0
  have dd := Int.emod_add_mul_ediv (s - r0.1) c
  have dm0 := Int.emod_nonneg (s - r0.1) (show c ≠ 0 by omega)
  have dm1 := Int.emod_lt_of_pos (s - r0.1) (show 0 < c by omega)
  have st : Sm ((s - r0.1) / c) := sm_div ⟨by omega, by omega⟩ hc
  have st1 : Sm ((s - r0.1) / c + 1) := by
    have e := Int.add_mul_ediv_right (s - r0.1) 1 (show c ≠ 0 by omega)
    rw [← e]
    exact sm_div ⟨by omega, by omega⟩ hc
  have sc : Sm c := Sm.of (by omega) (by omega)
  generalize ht : (s - r0.1) / c = t at dd st st1
  have tc : c * t = t * c := Int.mul_comm _ _
  have t1 : (t + 1) * c = t * c + c := by rw [Int.add_mul]; omega
  unfold t_l_to
  try walk_at "dl"
  rw [h0]
  simp only [rowT]
  try walk_at "dl"
  simp only [ht]
  refine ⟨Dv.of (by omega) (by omega), ?_⟩
  refine dFor_mk [D.int (t * c), D.int ((t + 1) * c)] yes cs (fun K h => by walk_at "dl"; exact ⟨⟨st, sc⟩, ⟨st1, sc⟩, h⟩)
    (fun i en cx => ∃ o4 o5 o6 o7 : Option Z, en = [some (.d (.int c)), some (.d (.lst (rowsT F))), some (.d (.int s)), some (.d (.int t)), o4, o5, o6, o7] ∧ cx = cs ∧ (i = 0 ∨ (i = 1 ∧ ∀ r ∈ F, r.2.1 + t * c < s)))
    ⟨_, _, _, _, rfl, rfl, .inl rfl⟩ (fun i d en cx hd hI => ?_) (fun en cx hI => ?_) (fun _ _ _ _ => trivial)
  · obtain ⟨o4, o5, o6, o7, rfl, rfl, hi⟩ := hI
    have hby : ∃ b k, d = .int b ∧ b = k * c ∧ (∀ r ∈ F, r.2.1 + b - c < s) ∧ ((i = 0 ∧ b = t * c) ∨ (i = 1 ∧ s ≤ r0.1 + b)) := by
      rcases hi with rfl | ⟨rfl, hf⟩
      · refine ⟨t * c, t, ?_, rfl, fun r hr => ?_, .inl ⟨rfl, rfl⟩⟩
        · simpa using hd.symm
        · have w := (V.wrap r hr r0 m0).1
          simp only [mv] at w
          omega
      · refine ⟨(t + 1) * c, t + 1, ?_, rfl, fun r hr => ?_, .inr ⟨rfl, by omega⟩⟩
        · simpa using hd.symm
        · have := hf r hr
          omega
    obtain ⟨b, k, rfl, hb, lo, hb2⟩ := hby
    try walk_at "dl"
    refine dFor_mk (rowsT F) yes cx (fun K h => by walk_at "dl"; exact h)
      (fun j en cy => ∃ o5 o6 o7 : Option Z, en = [some (.d (.int c)), some (.d (.lst (rowsT F))), some (.d (.int s)), some (.d (.int t)), some (.d (.int b)), o5, o6, o7] ∧ cy = cx ∧ ∀ (i : Nat) (r : Row), i < j → F[i]? = some r → r.2.1 + b < s)
      ⟨_, _, _, rfl, rfl, fun i r h => by omega⟩ (fun j d en cy hd hI => ?_) (fun en cy hI => ?_) (fun _ _ _ _ => trivial)
    · obtain ⟨o5, o6, o7, rfl, rfl, hj⟩ := hI
      obtain ⟨r, hr, rfl⟩ := get_rowsT hd
      simp only [rowT]
      try walk_at "dl"
      by_cases e : s ≤ r.2.1 + b
      · have v := to_val R.psg V R.cov hb hr e hj lo
        simp only [e, decide_true, if_true]
        rw [v] at h
        simpa using h
      · simp only [e, decide_false, Bool.false_eq_true, if_false]
        refine .inl ⟨_, _, _, rfl, rfl, fun i r' h1 h2 => ?_⟩
        by_cases q : i = j
        · subst q
          rw [hr] at h2
          cases h2
          omega
        · exact hj i r' (by omega) h2
    · obtain ⟨o5, o6, o7, rfl, rfl, hj⟩ := hI
      rw [len_rowsT] at hj
      have all : ∀ r ∈ F, r.2.1 + b < s := fun r hr => by
        obtain ⟨j, hj'⟩ := List.mem_iff_getElem?.mp hr
        exact hj j r (List.getElem?_eq_some_iff.mp hj').1 hj'
      rcases hb2 with ⟨rfl, rfl⟩ | ⟨rfl, hs⟩
      · exact .inl ⟨_, _, _, _, rfl, rfl, .inr ⟨rfl, all⟩⟩
      · have := all r0 m0
        omega
  · obtain ⟨o4, o5, o6, o7, rfl, rfl, hi⟩ := hI
    simp at hi
/-! ### tables of one cycle -/
def tabT (f : Int → Int) (n : Nat) : List D := (List.range n).map fun i : Nat => D.int (f (i : Int))
theorem tabT_len (f : Int → Int) (n : Nat) : (tabT f n).length = n := by simp [tabT]
theorem tabT_at (f : Int → Int) {n : Nat} {i : Int} (h0 : 0 ≤ i) (h1 : i < n) : atI (tabT f n) i = some (.int (f i)) := at_int h0 (by
  unfold tabT
  rw [List.getElem?_map, List.getElem?_range (by omega), Option.map_some, Int.toNat_of_nonneg h0])
theorem tab_rg {f : Int → Int} {n : Nat} {G : D → D} (h : ∀ i : Int, G (.int i) = .int (f i)) : (rgD 0 n).map G = tabT f n := by
  unfold rgD tabT
  rw [List.map_map]
  refine List.map_congr_left fun i _ => ?_
  rw [Function.comp, h, Int.zero_add]
def sp_l_of : DSpec := fun zs cs k => match zs with
  | [.d (.lst xs), .d (.int s)] => ∃ f n, xs = tabT f n ∧ (Psg n f ∧ n ≤ 1000 ∧ -(10 ^ 165) ≤ s ∧ s ≤ 10 ^ 165) ∧ k (.d (.int (f s))) cs
  | _ => False
theorem len_l_of : ∀ zs cs q, sp_l_of zs cs q → zs.length = (["_law_table", "_law_start"] : List Str).length := fun zs cs q h => by
  unfold sp_l_of at h
  split at h
  · rfl
  · exact h.elim
def t_l_of : DS :=
  (dSeq (dAsg (dCB lenD (dCons (dVar 0) dNil)) (dgName 2))
  (dRet (dOp addD (dOp ixD (dVar 0) (dOp modD (dVar 1) (dVar 2))) (dOp mulD (dOp fdivD (dVar 1) (dVar 2)) (dVar 2)))))
theorem rd_l_of : ∀ zs cs q, sp_l_of zs cs q → t_l_of (endD cs.length q) (startD ["_law_table", "_law_start", "_law_size_here"] zs) cs := fun zs cs q h => by
  unfold sp_l_of at h
  split at h
  rotate_left
  · exact h.elim
  rename_i xs s
  simp only [startD, List.map_cons, List.map_nil, List.length_cons, List.length_nil, Nat.reduceAdd, Nat.zero_add, Nat.reduceSub, List.replicate_zero, List.replicate_succ, List.cons_append, List.nil_append, List.append_nil]
  obtain ⟨f, n, rfl, ⟨p, n1, s0, s1⟩, h⟩ := h
  have hc := p.pos
  have m0 := Int.emod_nonneg s (show (n : Int) ≠ 0 by omega)
  have m1 := Int.emod_lt_of_pos s (show 0 < (n : Int) by omega)
  have e := p.perK (s / n) (s % n)
  have d0 := Int.emod_add_mul_ediv s n
  rw [Int.mul_comm] at d0
  rw [d0] at e
  rw [e] at h
  unfold t_l_of
  try walk_at "dl"
  rw [tabT_len]
  refine ⟨hc, ?_⟩
  rw [e_at (tabT_at f m0 m1)]
  try walk_at "dl"
  exact ⟨Dv.of (by omega) (by omega), ⟨sm_div ⟨by omega, by omega⟩ hc, Sm.of (by omega) (by omega)⟩, h⟩
theorem of_use {f : Int → Int} {n : Nat} {s : Int} {cs : Cs} {k : Z → Cs → Prop} (p : Psg n f) (n1 : n ≤ 1000) (s0 : -(10 ^ 165) ≤ s) (s1 : s ≤ 10 ^ 165) (h : k (.d (.int (f s))) cs) : sp_l_of [.d (.lst (tabT f n)), .d (.int s)] cs k :=
  ⟨f, n, rfl, ⟨p, n1, s0, s1⟩, h⟩
def sp_l_same : DSpec := fun zs cs k => match zs with
  | [.d a, .d b] => (a = b ∧ RpOk a) ∧ k (.d (.bl true)) cs
  | _ => False
theorem len_l_same : ∀ zs cs q, sp_l_same zs cs q → zs.length = (["_law_actual", "_law_expected"] : List Str).length := fun zs cs q h => by
  unfold sp_l_same at h
  split at h
  · rfl
  · exact h.elim
def t_l_same : DS :=
  (dRet (dOp eqUD (dCB reprD (dCons (dVar 0) dNil)) (dCB reprD (dCons (dVar 1) dNil))))
theorem rd_l_same : ∀ zs cs q, sp_l_same zs cs q → t_l_same (endD cs.length q) (startD ["_law_actual", "_law_expected"] zs) cs := fun zs cs q h => by
  unfold sp_l_same at h
  split at h
  rotate_left
  · exact h.elim
  rename_i a b
  simp only [startD, List.map_cons, List.map_nil, List.length_cons, List.length_nil, Nat.reduceAdd, Nat.zero_add, Nat.reduceSub, List.replicate_zero, List.replicate_succ, List.cons_append, List.nil_append, List.append_nil]
  obtain ⟨⟨rfl, ha⟩, h⟩ := h
  unfold t_l_same
  try walk_at "dl"
  exact ⟨ha, ha, h⟩
theorem rpn_row {r : Row} (h : (-(10 ^ 199) < r.1 ∧ r.1 < 10 ^ 199) ∧ (-(10 ^ 199) < r.2.1 ∧ r.2.1 < 10 ^ 199) ∧ (-(10 ^ 199) < r.2.2 ∧ r.2.2 < 10 ^ 199)) : RpN 612 1 (rowT r) := by
  unfold rowT
  exact RpN.tup (w := 201) (e := 0) 3 (Nat.le_refl _) fun d hd => by
    simp only [List.mem_cons, List.not_mem_nil, or_false] at hd
    rcases hd with rfl | rfl | rfl
    · exact RpN.int (by omega) (by omega)
    · exact RpN.int (by omega) (by omega)
    · exact RpN.int (by omega) (by omega)
theorem to_use {c s : Int} {F : List Row} {f : Int → Int} {cs : Cs} {k : Z → Cs → Prop} (R : RowsOk c f F) (s0 : -(10 ^ 165) ≤ s) (s1 : s ≤ 10 ^ 165) (h : k (.d (.int (f s))) cs) : sp_l_to [.d (.int c), .d (.lst (rowsT F)), .d (.int s)] cs k :=
  ⟨F, f, rfl, ⟨R, s0, s1⟩, h⟩
theorem drawn_use {L : Nat} {x : D} {rest : Cs} {c m : Int} {k : Z → Cs → Prop} (hp : Spring L x) (hb : 1 ≤ c ∧ c ≤ 10 ^ 30 ∧ 1 ≤ m ∧ m ≤ 999 ∧ L ≤ 10 ^ 8)
    (h : ∀ (F : List Row) f b v x', RowsOk c f F → (F.length : Int) ≤ m → Win c b v F (b + c) (v + c) → (-(10 ^ 41) ≤ b ∧ b ≤ 10 ^ 41 ∧ -(10 ^ 41) ≤ v ∧ v ≤ 10 ^ 41) → Spring (L + 200000) x' → k (.d (.lst (rowsT F))) (x' :: rest)) :
    sp_l_drawn [.c 0, .d (.int c), .d (.int m)] (x :: rest) k := ⟨L, hp, hb, h⟩
theorem fold_psg (cA : Str → Addr) (c : Int) (rs : List Row) : D.ob (cA "Passage") ["own_cycle", "own_runs"] [.int c, .tup (rowsT rs)] = psgD cA c rs := nd rfl
end PA
set_option Elab.async false
set_option linter.all false
set_option autoImplicit false
/-! PMI: the holes between marked places that come again with each cycle: platoons and gaps -/
namespace PM
variable {c : Int} {f g : Int → Int} {M N : Int → Prop}
def Per (c : Int) (M : Int → Prop) : Prop := ∀ x, M (x + c) ↔ M x
theorem Per.k (h : Per c M) (k x : Int) : M (x + k * c) ↔ M x := by
  have nat : ∀ (n : Nat) (x : Int), M (x + n * c) ↔ M x := fun n => by
    induction n with
    | zero => intro x; simp
    | succ n ih =>
      intro x
      have e : x + ((n + 1 : Nat) : Int) * c = x + n * c + c := by rw [Int.natCast_succ, Int.add_mul]; omega
      rw [e, h, ih]
  rcases Int.le_total 0 k with l | l
  · have := nat k.toNat x
    rwa [Int.toNat_of_nonneg l] at this
  · have := nat (-k).toNat (x + k * c)
    rw [Int.toNat_of_nonneg (by omega), Int.neg_mul, show x + k * c + -(k * c) = x by omega] at this
    exact this.symm
/-- two neighbours among the marked places, more than one apart -/
structure Hole (M : Int → Prop) (p q : Int) : Prop where
  far : p + 1 < q
  lo : M p
  hi : M q
  no : ∀ y, p < y → y < q → ¬ M y
theorem Hole.mv (P : Per c M) {p q : Int} (h : Hole M p q) (k : Int) : Hole M (p + k * c) (q + k * c) :=
  ⟨by have := h.far; omega, (P.k k p).mpr h.lo, (P.k k q).mpr h.hi, fun y a b m => by
    have := (P.k (-k) y).mpr m
    rw [Int.neg_mul] at this
    exact h.no _ (by omega) (by omega) this⟩
theorem Hole.same {p q q' : Int} (a : Hole M p q) (b : Hole M p q') : q = q' := by
  rcases Int.lt_trichotomy q q' with z | z | z
  · exact absurd a.hi (b.no q (by have := a.far; omega) z)
  · exact z
  · exact absurd b.hi (a.no q' (by have := b.far; omega) z)
/-- a hole as a row: its first place, its end, 0 -/
def IsH (M : Int → Prop) (h : Row) : Prop := h.2.2 = 0 ∧ Hole M (h.1 - 1) h.2.1
structure Holes (c : Int) (M : Int → Prop) (H : List Row) : Prop where
  ord : H.Pairwise fun a b => a.1 < b.1
  mem : ∀ h, h ∈ H ↔ 0 ≤ h.1 ∧ h.1 < c ∧ IsH M h
theorem Holes.uniq {H H' : List Row} (a : Holes c M H) (b : Holes c M H') : H = H' := sorted_same a.ord b.ord fun r => (a.mem r).trans (b.mem r).symm
theorem Holes.congr {H : List Row} (a : Holes c M H) (e : ∀ x, M x ↔ N x) : Holes c N H := by
  have : M = N := funext fun x => propext (e x)
  subst this
  exact a
/-- the holes that end behind a0, up to a -/
structure Part2 (c : Int) (M : Int → Prop) (a0 a : Int) (H : List Row) : Prop where
  dis : H.Pairwise fun a b => a.1 ≠ b.1
  mem : ∀ h, h ∈ H ↔ 0 ≤ h.1 ∧ h.1 < c ∧ IsH M h ∧ ∃ k : Int, a0 < h.2.1 + k * c ∧ h.2.1 + k * c ≤ a
theorem Part2.nil (hc : 1 ≤ c) (a0 : Int) : Part2 c M a0 a0 [] := ⟨by simp, fun h => ⟨fun q => by simp at q, fun ⟨_, _, _, k, q⟩ => by omega⟩⟩
def up (c a : Int) : Int := 0 - (a + 1) / c * c
/-- one stretch of marks more, from s to l -/
theorem Part2.step (hc : 1 ≤ c) (P : Per c M) {a0 a s l : Int} {H : List Row} (h : Part2 c M a0 a H) (la : a0 ≤ a) (ma : M a) (as_ : a < s) (sl : s ≤ l) (lc : l ≤ a0 + c) (no : ∀ y, a < y → y < s → ¬ M y) (ms : ∀ y, s ≤ y → y ≤ l → M y) :
    Part2 c M a0 l (if a + 1 < s then H ++ [(a + 1 + up c a, s + up c a, 0)] else H) := by
  have d0 := Int.emod_add_mul_ediv (a + 1) c
  have m0 := Int.emod_nonneg (a + 1) (show c ≠ 0 by omega)
  have m1 := Int.emod_lt_of_pos (a + 1) (show 0 < c by omega)
  have ue : up c a = -((a + 1) / c) * c := by unfold up; rw [Int.neg_mul]; omega
  have uc : (a + 1) / c * c = c * ((a + 1) / c) := Int.mul_comm _ _
  have u0 : 0 ≤ a + 1 + up c a ∧ a + 1 + up c a < c := by unfold up; omega
  -- a hole that ends in (a, l] is the new one
  have key : ∀ h : Row, IsH M h → ∀ k : Int, a < h.2.1 + k * c → h.2.1 + k * c ≤ l → h.1 - 1 + k * c = a ∧ h.2.1 + k * c = s ∧ a + 1 < s := fun h ih k q1 q2 => by
    have m := ih.2.mv P k
    have fr := m.far
    have e1 : h.2.1 + k * c = s := by
      rcases Int.lt_trichotomy (h.2.1 + k * c) s with z | z | z
      · exact absurd m.hi (no _ q1 z)
      · exact z
      · exact absurd (ms (h.2.1 + k * c - 1) (by omega) (by omega)) (m.no _ (by omega) (by omega))
    have e2 : h.1 - 1 + k * c = a := by
      rcases Int.lt_trichotomy (h.1 - 1 + k * c) a with z | z | z
      · exact absurd ma (m.no a z (by omega))
      · exact z
      · exact absurd m.lo (no _ z (by omega))
    exact ⟨e2, e1, by omega⟩
  by_cases e : a + 1 < s
  · rw [if_pos e]
    have hn : IsH M (a + 1 + up c a, s + up c a, 0) := by
      refine ⟨rfl, ?_⟩
      have m := (Hole.mk (M := M) e ma (ms s (Int.le_refl _) sl) no).mv P (-((a + 1) / c))
      rw [← ue] at m
      simp only
      rw [show a + 1 + up c a - 1 = a + up c a by omega]
      exact m
    refine ⟨List.pairwise_append.mpr ⟨h.dis, by simp, fun x hx y hy => ?_⟩, fun r => ⟨fun hr => ?_, fun ⟨r0, r1, ir, k, q1, q2⟩ => ?_⟩⟩
    · cases List.mem_singleton.mp hy
      obtain ⟨x0, x1, ix, k, k1, k2⟩ := (h.mem x).mp hx
      intro z
      simp only at z
      have sm := Hole.same (M := M) (p := x.1 - 1) ix.2 (by have := hn.2; simp only at this; rw [← z] at this; exact this)
      -- s + up = x.2.1 stands both in (a0, a] and at s, whole cycles apart
      have e3 : s = x.2.1 + ((a + 1) / c) * c := by unfold up at sm; omega
      rcases Int.lt_trichotomy k ((a + 1) / c) with w | w | w
      · have := mul_step (k' := k) (k := (a + 1) / c) (c := c) (by omega) (by omega)
        omega
      · rw [w] at k2
        omega
      · have := mul_step (k' := (a + 1) / c) (k := k) (c := c) (by omega) (by omega)
        omega
    · rcases List.mem_append.mp hr with q | q
      · obtain ⟨x0, x1, ix, k, k1, k2⟩ := (h.mem r).mp q
        exact ⟨x0, x1, ix, k, k1, by omega⟩
      · cases List.mem_singleton.mp q
        exact ⟨u0.1, u0.2, hn, (a + 1) / c, by unfold up; simp only; omega, by unfold up; simp only; omega⟩
    · by_cases w : r.2.1 + k * c ≤ a
      · exact List.mem_append_left _ ((h.mem r).mpr ⟨r0, r1, ir, k, q1, w⟩)
      · obtain ⟨e1, e2, _⟩ := key r ir k (by omega) q2
        refine List.mem_append_right _ (List.mem_singleton.mpr ?_)
        have kk : k = (a + 1) / c := by
          rcases Int.lt_trichotomy k ((a + 1) / c) with w | w | w
          · have := mul_step (k' := k) (k := (a + 1) / c) (c := c) (by omega) (by omega)
            omega
          · exact w
          · have := mul_step (k' := (a + 1) / c) (k := k) (c := c) (by omega) (by omega)
            omega
        subst kk
        exact Prod.ext (by simp only; unfold up; omega) (Prod.ext (by simp only; unfold up; omega) ir.1)
  · rw [if_neg e]
    refine ⟨h.dis, fun r => (h.mem r).trans ⟨fun ⟨x0, x1, ix, k, k1, k2⟩ => ⟨x0, x1, ix, k, k1, by omega⟩, fun ⟨r0, r1, ir, k, q1, q2⟩ => ?_⟩⟩
    by_cases w : r.2.1 + k * c ≤ a
    · exact ⟨r0, r1, ir, k, q1, w⟩
    · obtain ⟨_, _, z⟩ := key r ir k (by omega) q2
      omega
theorem Part2.all (hc : 1 ≤ c) {a0 : Int} {H : List Row} (h : Part2 c M a0 (a0 + c) H) : ∀ r, r ∈ H ↔ 0 ≤ r.1 ∧ r.1 < c ∧ IsH M r := fun r =>
  (h.mem r).trans ⟨fun ⟨x0, x1, ix, _⟩ => ⟨x0, x1, ix⟩, fun ⟨x0, x1, ix⟩ => ⟨x0, x1, ix, -((r.2.1 - a0 - 1) / c), by
    have d0 := Int.emod_add_mul_ediv (r.2.1 - a0 - 1) c
    have m0 := Int.emod_nonneg (r.2.1 - a0 - 1) (show c ≠ 0 by omega)
    have m1 := Int.emod_lt_of_pos (r.2.1 - a0 - 1) (show 0 < c by omega)
    rw [Int.neg_mul, Int.mul_comm ((r.2.1 - a0 - 1) / c) c]
    omega⟩⟩
/-- sorted, they are the holes -/
theorem Part2.holes (hc : 1 ≤ c) {a0 : Int} {H out : List Row} (h : Part2 c M a0 (a0 + c) H) (p : out.Perm H) (st : out.Pairwise fun a b => a.1 ≤ b.1) : Holes c M out := by
  have nd : out.Pairwise fun a b => a.1 ≠ b.1 := (p.pairwise_iff (fun {a b} q => Ne.symm q)).mpr h.dis
  refine ⟨(st.and nd).imp fun {a b} q => by have := q.1; have := q.2; omega, fun r => (p.mem_iff).trans (h.all hc r)⟩
/-- a pair of places moved into the first cycle -/
def mvp (c : Int) (r : Row) : Row := (r.1 - r.1 / c * c, r.2.1 - r.1 / c * c, 0)
/-- marks moved by one: their holes -/
theorem Holes.back (hc : 1 ≤ c) (P : Per c M) {H out : List Row} (h : Holes c M H) (e : ∀ x, N x ↔ M (x + 1)) (p : out.Perm (H.map fun h => mvp c (h.1 - 1, h.2.1 - 1, 0))) (st : out.Pairwise fun a b => a.1 ≤ b.1) : Holes c N out := by
  have nr : ∀ h : Row, 0 ≤ h.1 → h.1 < c → (mvp c (h.1 - 1, h.2.1 - 1, 0)).1 = (if h.1 = 0 then c - 1 else h.1 - 1) ∧ (mvp c (h.1 - 1, h.2.1 - 1, 0)).2.1 = (if h.1 = 0 then h.2.1 - 1 + c else h.2.1 - 1) := fun h h0 h1 => by
    unfold mvp
    simp only
    by_cases z : h.1 = 0
    · rw [if_pos z, if_pos z, z]
      have : (0 - 1 : Int) / c = -1 := by
        have d0 := Int.emod_add_mul_ediv (0 - 1) c
        have m0 := Int.emod_nonneg (0 - 1) (show c ≠ 0 by omega)
        have m1 := Int.emod_lt_of_pos (0 - 1) (show 0 < c by omega)
        rcases Int.lt_trichotomy ((0 - 1 : Int) / c) (-1) with w | w | w
        · have := mul_step (k' := (0 - 1) / c) (k := -1) (c := c) (by omega) (by omega)
          rw [Int.mul_comm] at d0
          omega
        · exact w
        · have := mul_step (k' := -1) (k := (0 - 1) / c) (c := c) (by omega) (by omega)
          rw [Int.mul_comm] at d0
          omega
      rw [this]
      omega
    · rw [if_neg z, if_neg z, Int.ediv_eq_zero_of_lt (by omega) (by omega)]
      omega
  have nd : (H.map fun h => mvp c (h.1 - 1, h.2.1 - 1, 0)).Pairwise fun a b => a.1 ≠ b.1 := by
    rw [List.pairwise_map]
    refine h.ord.imp_of_mem fun {a b} ha hb l => ?_
    obtain ⟨a0, a1, _⟩ := (h.mem a).mp ha
    obtain ⟨b0, b1, _⟩ := (h.mem b).mp hb
    simp only [(nr a a0 a1).1, (nr b b0 b1).1]
    split <;> split <;> omega
  have nd' : out.Pairwise fun a b => a.1 ≠ b.1 := (p.pairwise_iff (fun {a b} q => Ne.symm q)).mpr nd
  have PN : Per c N := fun x => by rw [e, e, show x + c + 1 = x + 1 + c by omega]; exact P _
  have hol : ∀ p q, Hole N p q ↔ Hole M (p + 1) (q + 1) := fun p q =>
    ⟨fun h => ⟨by have := h.far; omega, (e p).mp h.lo, (e q).mp h.hi, fun y a b m => h.no (y - 1) (by omega) (by omega) ((e _).mpr (by rw [show y - 1 + 1 = y by omega]; exact m))⟩,
     fun h => ⟨by have := h.far; omega, (e p).mpr h.lo, (e q).mpr h.hi, fun y a b m => h.no (y + 1) (by omega) (by omega) ((e y).mp m)⟩⟩
  refine ⟨(st.and nd').imp fun {a b} q => by have := q.1; have := q.2; omega, fun r => (p.mem_iff).trans ⟨fun hr => ?_, fun ⟨r0, r1, r2, r3⟩ => ?_⟩⟩
  · obtain ⟨x, hx, rfl⟩ := List.mem_map.mp hr
    obtain ⟨x0, x1, x2, x3⟩ := (h.mem x).mp hx
    obtain ⟨n1, n2⟩ := nr x x0 x1
    refine ⟨by rw [n1]; split <;> omega, by rw [n1]; split <;> omega, rfl, ?_⟩
    rw [n1, n2, hol]
    by_cases z : x.1 = 0
    · rw [if_pos z, if_pos z]
      have m := x3.mv P 1
      rw [Int.one_mul, z] at m
      rw [show c - 1 - 1 + 1 = 0 - 1 + c by omega, show x.2.1 - 1 + c + 1 = x.2.1 + c by omega]
      exact m
    · rw [if_neg z, if_neg z, show x.1 - 1 - 1 + 1 = x.1 - 1 by omega, show x.2.1 - 1 + 1 = x.2.1 by omega]
      exact x3
  · rw [hol] at r3
    refine List.mem_map.mpr ?_
    by_cases z : r.1 = c - 1
    · have m := r3.mv P (-1)
      have hx : ((0, r.2.1 + 1 - c, 0) : Row) ∈ H := (h.mem _).mpr ⟨by simp, by simp only; omega, rfl, by
        simp only
        rw [show r.1 - 1 + 1 + -1 * c = 0 - 1 by omega, show r.2.1 + 1 + -1 * c = r.2.1 + 1 - c by omega] at m
        exact m⟩
      obtain ⟨n1, n2⟩ := nr (0, r.2.1 + 1 - c, 0) (by simp) (by simp only; omega)
      refine ⟨_, hx, ?_⟩
      simp only [if_true] at n1 n2 ⊢
      exact Prod.ext (by rw [n1]; omega) (Prod.ext (by rw [n2]; omega) r2.symm)
    · have hx : ((r.1 + 1, r.2.1 + 1, 0) : Row) ∈ H := (h.mem _).mpr ⟨by simp only; omega, by simp only; omega, rfl, by
        simp only
        rw [show r.1 + 1 - 1 = r.1 - 1 + 1 by omega]
        exact r3⟩
      obtain ⟨n1, n2⟩ := nr (r.1 + 1, r.2.1 + 1, 0) (by simp only; omega) (by simp only; omega)
      refine ⟨_, hx, ?_⟩
      simp only at n1 n2 ⊢
      rw [if_neg (by omega)] at n1 n2
      exact Prod.ext (by rw [n1]; omega) (Prod.ext (by rw [n2]; omega) r2.symm)
/-! ### the two kinds of marks of a passage -/
def Im (f : Int → Int) (y : Int) : Prop := ∃ x, f x = y
theorem lst_per' (p : Psg c f) : Per c (Lst f) := fun x => by
  have := lst_per p 1 x
  rwa [Int.one_mul] at this
theorem im_per (p : Psg c f) : Per c (Im f) := fun y => ⟨fun ⟨x, e⟩ => ⟨x - c, by have := p.per (x - c); rw [show x - c + c = x by omega] at this; omega⟩, fun ⟨x, e⟩ => ⟨x + c, by have := p.per x; omega⟩⟩
end PM
set_option Elab.async false
set_option linter.all false
set_option maxRecDepth 100000
set_option maxHeartbeats 2000000
set_option autoImplicit false
namespace PA
open PySem L2 DL K01 PM
local macro_rules | `(tactic| walk_at "dl") => `(tactic| simp only [u_dSeq, u_dNext, u_dOwn, u_dOwnE, u_dFld, u_dMake, u_dMeth, u_dProp, u_dIsiO, u_dCallI, u_dSortSet, u_dFrz, e_isC, e_rgO, e_rgn, e_rgi, e_rgs, e_rgb, e_rgt, e_rgl, e_fz1, e_fz2, le_lim, lt_lim, set_snoc0, e_srtI, u_dBreak, u_dCont, u_dDrop, u_dRet, u_dRetN, u_dIfS, u_dNever, u_dAsg, u_dPar, u_dPutK, u_dAppend, u_dExtend, u_dCall, u_dVar, u_dC, u_dOp, u_dChain, u_dUn, u_dB, u_dNot, u_dAnd, u_dOr, u_dAndV, u_dOrV, u_dNotV, u_dIf, u_dNil, u_dCons, u_dTup, u_dLst, u_dLstC, u_dCB, u_dInK, u_dGetK, u_dDicC, u_dNoPart, u_dPart, u_dSl, u_dBits, u_dRev, u_dgName, u_dgsNil, u_dgsCons, u_dgTup, u_dgSet, u_diSeq, u_diR1, e_diR2, e_r2, u_diEnum, u_diEnumU, u_diZip, endD, finZ_d, finD, finC, List.take_length, u_dYes, wipeD, ix0, ix1, ix2, get_snoc, set_snoc, take_snoc, u_dOpC, u_dSlC, u_dListC, e_addC, e_mulC, e_loCl, e_loCt, e_loCs, e_wd, e_wc0, e_wcs, e_wsn, e_wc1, e_wc2, e_wl0, e_wl1, e_dl0, e_dl1, e_sl, e_st, e_ss, e_addi, e_adds, e_addt, e_addl, e_sub, e_muli, e_mult, e_mull, e_fdiv, e_mod, e_pow, e_neg, e_lt, e_le, e_gt, e_ge, e_eqi, e_eqs, e_eql, e_eqt, e_eqb, e_eqn, e_nei, e_nes, e_nel, e_net, e_neb, e_nen, e_isb, e_isn, e_inb, e_inn, e_in1, e_in2, e_in3, e_in4, e_in5, e_ixt, e_ixl, e_ixs, e_at0, e_at1, e_at2, e_at3, e_at4, e_at5, e_atl, e_keyi, e_keys, e_lenl, e_lent, e_lens, e_lend, e_maxi, e_mini, e_maxl, e_minl, e_sum, e_all, e_any, e_inti, e_intb, e_abs, e_tol, e_tot, e_tos, e_lol, e_lot, e_los, e_sll, e_slt, e_rvl, e_rvt, e_repr, e_isi, e_srtl, e_srtt, List.map_cons, List.map_nil, List.length_cons, List.length_nil, List.cons_append, List.nil_append, List.flatten_cons, List.flatten_nil, List.append_nil, List.replicate_succ, List.replicate_zero, List.getElem?_cons_zero, List.getElem?_cons_succ, List.set_cons_zero, List.set_cons_succ, Nat.reduceSub, Nat.reduceAdd, Int.reduceToNat, Int.reduceLE, Int.reduceLT, Int.reduceNeg, Nat.reduceLeDiff, Nat.reduceLT, Nat.zero_add, Option.some.injEq, Z.d.injEq, Z.c.injEq, D.bl.injEq, D.int.injEq, D.tup.injEq, D.lst.injEq, List.take_succ_cons, List.take_zero, exists_eq_left', exists_eq_left, true_and, and_true, if_true, Bool.not_true, Bool.not_false, Bool.false_eq_true, if_false, decide_true, decide_false, n_vK])
theorem perm_sum {xs ys : List Int} (p : xs.Perm ys) : xs.sum = ys.sum := by
  induction p with
  | nil => rfl
  | cons x _ ih => rw [List.sum_cons, List.sum_cons, ih]
  | swap x y l => simp only [List.sum_cons]; omega
  | trans _ _ ih1 ih2 => rw [ih1, ih2]
theorem sumR_take {rs : List Row} {i : Nat} {r : Row} (L : Row → Int) (h : rs[i]? = some r) : ((rs.take (i + 1)).map L).sum = ((rs.take i).map L).sum + L r := by
  rw [List.take_add_one, h, Option.toList_some, List.map_append, List.sum_append, List.map_cons, List.map_nil, List.sum_cons, List.sum_nil]
  omega
def lenR (r : Row) : Int := r.2.1 - r.1 + 1
def lenS (rs : List Row) : Int := (rs.map lenR).sum
def hlen (h : Row) : Int := h.2.1 - h.1
def platR (f : Int → Int) (h : Row) : Row := (h.1, h.2.1, f h.2.1)
def pairT (r : Row) : D := .tup [.int r.1, .int r.2.1]
def gapR (h : Row) : Row := (h.1, h.2.1 - 1, 0)
def pairsT (rs : List Row) : List D := rs.map pairT
theorem pairsI (rs : List Row) : pairsT rs = (rs.map fun r => [r.1, r.2.1]).map rowD := by
  unfold pairsT
  rw [List.map_map]
  rfl
theorem len_pairsT (rs : List Row) : (pairsT rs).length = rs.length := List.length_map _
theorem pairs_sorted {qs : List Row} (h0 : ∀ r ∈ qs, r.2.2 = 0) {out : List (List Int)} (p : out.Perm (qs.map fun r => [r.1, r.2.1])) (st : out.Pairwise fun x y => lex3 (key3 y) (key3 x) = false) :
    ∃ rs : List Row, out = rs.map (fun r => [r.1, r.2.1]) ∧ rs.Perm qs ∧ rs.Pairwise fun a b => a.1 ≤ b.1 := by
  have e : out = (out.map key3).map fun r => [r.1, r.2.1] := by
    rw [List.map_map]
    conv => lhs; rw [← List.map_id out]
    refine List.map_congr_left fun x hx => ?_
    obtain ⟨r, _, rfl⟩ := List.mem_map.mp (p.mem_iff.mp hx)
    rfl
  refine ⟨out.map key3, e, ?_, ?_⟩
  · have := p.map key3
    rw [List.map_map] at this
    have e2 : qs.map (key3 ∘ fun r : Row => [r.1, r.2.1]) = qs := by
      conv => rhs; rw [← List.map_id qs]
      refine List.map_congr_left fun r hr => ?_
      have := h0 r hr
      exact Prod.ext rfl (Prod.ext rfl this.symm)
    rw [e2] at this
    exact this
  · rw [List.pairwise_map]
    refine st.imp fun {x y} h => ?_
    have := lex3_no.mp h
    omega
/-- what the loops over the runs of a passage know -/
structure Walk (c : Int) (f : Int → Int) (rs : List Row) (rl : Row) : Prop where
  last : rs.getLast? = some rl
  run : ∀ r ∈ rs, r.2.2 = f r.1 ∧ f r.2.1 = r.2.2 + (r.2.1 - r.1) ∧ (∀ y, r.1 ≤ y → y ≤ r.2.1 → Lst f y ∧ f y = r.2.2 + (y - r.1)) ∧ -(10 ^ 155) ≤ r.2.2 ∧ r.2.2 ≤ 10 ^ 155 ∧ 0 ≤ r.1 ∧ r.1 < c ∧ r.1 ≤ r.2.1 ∧ r.2.1 ≤ rl.2.1 ∧ r.2.1 < 2 * c
  first : ∀ r, rs[0]? = some r → At f r (rl.2.1 - c + 1) ∧ rl.2.1 - c < r.1
  next : ∀ (i : Nat) (r s : Row), rs[i]? = some r → rs[i + 1]? = some s → At f s (r.2.1 + 1) ∧ r.2.1 < s.1
  lst0 : Lst f (rl.2.1 - c)
  per0 : f rl.2.1 = f (rl.2.1 - c) + c
theorem walk_of {c : Int} {f : Int → Int} {rs : List Row} {N : Nat} (P : Pas c f rs N (10 ^ 150)) : ∃ rl, Walk c f rs rl := by
  have hc := P.psg.pos
  have n := P.norm
  have cle := P.cle
  have pm := P.mag
  obtain ⟨r0, hr0⟩ : ∃ r0, rs[0]? = some r0 := by
    cases q : rs with
    | nil => exact absurd q n.val.ne
    | cons a l => exact ⟨a, rfl⟩
  obtain ⟨rl, hrl⟩ : ∃ rl, rs.getLast? = some rl := by
    cases q : rs.getLast? with
    | none => exact absurd (List.getLast?_eq_none_iff.mp q) n.val.ne
    | some a => exact ⟨a, rfl⟩
  have m0 := List.mem_of_getElem? hr0
  have ml := List.mem_of_getLast? hrl
  have run : ∀ r ∈ rs, r.2.2 = f r.1 ∧ f r.2.1 = r.2.2 + (r.2.1 - r.1) ∧ (∀ y, r.1 ≤ y → y ≤ r.2.1 → Lst f y ∧ f y = r.2.2 + (y - r.1)) ∧ -(10 ^ 155) ≤ r.2.2 ∧ r.2.2 ≤ 10 ^ 155 ∧ 0 ≤ r.1 ∧ r.1 < c ∧ r.1 ≤ r.2.1 ∧ r.2.1 ≤ rl.2.1 ∧ r.2.1 < 2 * c := fun r hr => by
    have a := n.rng r hr
    have o := n.val.ok r hr
    have w := n.val.wrap r hr r hr
    have e := (n.cov.on r hr r.1 r.2.2 ⟨Int.le_refl _, o, by omega⟩).2
    have e2 := n.cov.on r hr r.2.1 (r.2.2 + (r.2.1 - r.1)) ⟨o, Int.le_refl _, rfl⟩
    have b := mag_at P.psg r.1
    simp only [Bef, mv] at w
    exact ⟨by omega, e2.2, fun y h1 h2 => n.cov.on r hr y _ ⟨h1, h2, rfl⟩, by omega, by omega, a.1, a.2, o, n.lastMost hrl hr, by omega⟩
  refine ⟨rl, hrl, run, fun r hr => ?_, fun i r s hr hs => ⟨gap_next P.psg n hr hs, (n.sorted hr hs (by omega)).1⟩, ?_, ?_⟩
  · rw [hr0] at hr
    cases hr
    have q := (gap_last P.psg n hrl hr0).mv P.psg (-1)
    have e : mv (mv r0 c) (-1 * c) = r0 := by
      simp only [mv]
      exact Prod.ext (by simp only; omega) (Prod.ext (by simp only; omega) (by simp only; omega))
    rw [e, show rl.2.1 + 1 + -1 * c = rl.2.1 - c + 1 by omega] at q
    have w := n.val.wrap rl ml r0 m0
    simp only [Bef, mv] at w
    exact ⟨q, by omega⟩
  · have l := lst_per P.psg (-1) rl.2.1
    rw [show rl.2.1 + -1 * c = rl.2.1 - c by omega] at l
    have r := (run rl ml)
    exact l.mpr (r.2.2.1 rl.2.1 r.2.2.2.2.2.2.2.1 (Int.le_refl _)).1
  · have := P.psg.per (rl.2.1 - c)
    rw [show rl.2.1 - c + c = rl.2.1 by omega] at this
    exact this
def sp_platoons (cA : Str → Addr) : DSpec := fun zs cs k => match zs with
  | [.d a] => ∃ c f rs, (a = psgD cA c rs ∧ Pas c f rs 100000 (10 ^ 150)) ∧ ∀ H, Holes c (Lst f) H → H.length ≤ rs.length → (H.map hlen).sum = c - lenS rs → k (.d (.lst (rowsT (H.map (platR f))))) cs
  | _ => False
theorem len_platoons (cA : Str → Addr) : ∀ zs cs q, (sp_platoons cA) zs cs q → zs.length = (["passage"] : List Str).length := fun zs cs q h => by
  unfold sp_platoons at h
  split at h
  · rfl
  · exact h.elim
def t_platoons (cA : Str → Addr) : DS :=
  (dSeq (dDrop (dCall (sp_require_passage cA) (dCons (dVar 0) dNil)))
  (dSeq (dAsg (dLstC dNil) (dgName 1))
  (dSeq (dAsg (dOp subD (dOp ixD (dOp ixD (dFld (cA "Passage") "own_runs" (dVar 0)) (dUn negD (dC (.int 1)))) (dC (.int 1))) (dFld (cA "Passage") "own_cycle" (dVar 0))) (dgName 2))
  (dSeq (dFor (diSeq (dFld (cA "Passage") "own_runs" (dVar 0))) (dgTup 3 (dgsCons (dgName 3) (dgsCons (dgName 4) (dgsCons (dgName 5) dgsNil)))) (dSeq (dIfS (dB (dOp ltD (dOp addD (dVar 2) (dC (.int 1))) (dVar 3))) (dSeq (dAsg (dOp subD (dC (.int 0)) (dOp mulD (dOp fdivD (dOp addD (dVar 2) (dC (.int 1))) (dFld (cA "Passage") "own_cycle" (dVar 0))) (dFld (cA "Passage") "own_cycle" (dVar 0)))) (dgName 6))
  (dDrop (dAppend (dVar 1) (dCall sp_moved_row (dCons (dTup (dCons (dOp addD (dVar 2) (dC (.int 1))) (dCons (dVar 3) (dCons (dVar 5) dNil)))) (dCons (dVar 6) dNil)))))) dNext)
  (dLock (dAsg (dVar 4) (dgName 2)))))
  (dFrz 1 (dRet (dCB sortedRD (dCons (dVar 1) dNil))))))))
theorem rd_platoons (cA : Str → Addr) : ∀ zs cs q, (sp_platoons cA) zs cs q → t_platoons cA (endD cs.length q) (startD ["passage", "found", "ahead", "first", "last", "arrival", "by"] zs) cs := fun zs cs q h => by
  unfold sp_platoons at h
  split at h
  rotate_left
  · exact h.elim
  rename_i a
  simp only [startD, List.map_cons, List.map_nil, List.length_cons, List.length_nil, Nat.reduceAdd, Nat.zero_add, Nat.reduceSub, List.replicate_zero, List.replicate_succ, List.cons_append, List.nil_append, List.append_nil]
  obtain ⟨c, f, rs, ⟨rfl, P⟩, h⟩ := h
  have hc := P.psg.pos
  have cle := P.cle
  have pl := P.len
  obtain ⟨rl, W⟩ := walk_of P
  have ml := List.mem_of_getLast? W.last
  obtain ⟨_, _, _, _, _, l0, l1, l2, _, l3⟩ := W.run rl ml
  have lastE : ∀ k : D → Prop, atD (rowsT rs) (-1) k = k (rowT rl) := fun k => by
    obtain ⟨l, e⟩ := List.getLast?_eq_some_iff.mp W.last
    subst e
    exact e_at (at_m1R _ _)
  unfold t_platoons
  simp only [psgD]
  try walk_at "dl"
  simp only [sp_require_passage]
  refine ⟨trivial, ?_⟩
  try walk_at "dl"
  refine ⟨.tup (rowsT rs), rfl, ?_⟩
  try walk_at "dl"
  rw [lastE]
  simp only [rowT]
  try walk_at "dl"
  refine ⟨.int c, rfl, ?_⟩
  try walk_at "dl"
  have sc : Sm c := Sm.of (by omega) (by omega)
  have LP := lst_per' P.psg
  refine dFor_mk (rowsT rs) yes (cs ++ [.lst []]) (fun K h => by walk_at "dl"; refine ⟨.tup (rowsT rs), rfl, ?_⟩; walk_at "dl"; exact h)
    (fun i en cx => ∃ (H : List Row) (a : Int) (o3 o4 o5 o6 : Option Z), en = [some (.d (.ob (cA "Passage") ["own_cycle", "own_runs"] [.int c, .tup (rowsT rs)])), some (.c cs.length), some (.d (.int a)), o3, o4, o5, o6] ∧ cx = cs ++ [.lst (rowsT (H.map (platR f)))] ∧ H.length ≤ i ∧ Part2 c (Lst f) (rl.2.1 - c) a H ∧ Lst f a ∧ rl.2.1 - c ≤ a ∧ a ≤ rl.2.1 ∧
      (H.map hlen).sum + ((rs.take i).map lenR).sum = a - (rl.2.1 - c) ∧ (∀ r, rs[i]? = some r → At f r (a + 1) ∧ a < r.1) ∧ (i = rs.length → a = rl.2.1))
    ⟨[], rl.2.1 - c, _, _, _, _, rfl, rfl, by simp, Part2.nil hc _, W.lst0, Int.le_refl _, by omega, by simp, W.first, fun e => ?_⟩ (fun i d en cx hd hI => ?_) (fun en cx hI => ?_) (fun _ _ _ _ => trivial)
  · have := List.length_pos_of_mem ml
    omega
  · obtain ⟨H, a, o3, o4, o5, o6, rfl, rfl, hl, P2, la, a0, a1, sm, nx, _⟩ := hI
    obtain ⟨r, hr, rfl⟩ := get_rowsT hd
    have il := (List.getElem?_eq_some_iff.mp hr).1
    obtain ⟨q1, q2, q3, q4, q5, q6, q7, q8, q9, q10⟩ := W.run r (List.mem_of_getElem? hr)
    obtain ⟨qa, ql⟩ := nx r hr
    have stp := P2.step hc LP a0 la ql q8 (by omega) (fun y h1 h2 => qa.no y (by omega) h2) (fun y h1 h2 => (q3 y h1 h2).1)
    have nx' : ∀ s, rs[i + 1]? = some s → At f s (r.2.1 + 1) ∧ r.2.1 < s.1 := fun s hs => W.next i r s hr hs
    have lst' : i + 1 = rs.length → r.2.1 = rl.2.1 := fun e => by
      have hrl := W.last
      rw [List.getLast?_eq_getElem?, show rs.length - 1 = i by omega, hr] at hrl
      cases hrl
      rfl
    have sm' := sumR_take lenR hr
    have lr : Lst f r.2.1 := (q3 r.2.1 q8 (Int.le_refl _)).1
    have sl : lenR r = r.2.1 - r.1 + 1 := rfl
    simp only [rowT]
    try walk_at "dl"
    by_cases e : a + 1 < r.1
    · simp only [e, decide_true, if_true]
      rw [if_pos e] at stp
      refine ⟨.int c, rfl, ?_⟩
      try walk_at "dl"
      refine ⟨dv_c hc cle, .int c, rfl, ?_⟩
      try walk_at "dl"
      refine ⟨⟨sm_div ⟨by omega, by omega⟩ hc, sc⟩, ?_⟩
      simp only [sp_moved_row]
      try walk_at "dl"
      refine ⟨lim_lt (by rw [len_rowsT, List.length_map]; omega), ?_⟩
      unfold dLock
      try walk_at "dl"
      have fs : r.2.2 + (0 - (a + 1) / c * c) = f (r.1 + up c a) := by
        have := P.psg.perK (-((a + 1) / c)) r.1
        rw [Int.neg_mul] at this
        unfold up
        rw [show r.1 + (0 - (a + 1) / c * c) = r.1 + -((a + 1) / c * c) by omega, this]
        omega
      refine .inl ⟨_, r.2.1, _, _, _, _, rfl, ?_, by rw [List.length_append]; simp only [List.length_cons, List.length_nil]; omega, stp, lr, by omega, q9, ?_, nx', lst'⟩
      · rw [List.map_append]
        unfold rowsT
        rw [List.map_append]
        simp only [List.map_cons, List.map_nil, platR, rowT, mv]
        rw [fs]
        rfl
      · have hh : hlen (a + 1 + up c a, r.1 + up c a, 0) = r.1 - a - 1 := by unfold hlen; simp only; omega
        rw [List.map_append, List.sum_append, sm', sl, List.map_cons, List.map_nil, List.sum_cons, List.sum_nil, hh]
        omega
    · simp only [e, decide_false, Bool.false_eq_true, if_false]
      rw [if_neg e] at stp
      unfold dLock
      try walk_at "dl"
      exact .inl ⟨H, r.2.1, _, _, _, _, rfl, rfl, by omega, stp, lr, by omega, q9, by rw [sm', sl]; omega, nx', lst'⟩
  · obtain ⟨H, a, o3, o4, o5, o6, rfl, rfl, hl, P2, la, a0, a1, sm, nx, e⟩ := hI
    rw [len_rowsT] at e hl sm
    have e := e rfl
    subst e
    rw [List.take_length] at sm
    try walk_at "dl"
    intro nb
    refine ⟨_, 3, rowsI _, ⟨by decide, by decide, fun r hr => ?_⟩, fun out p st => ?_⟩
    · obtain ⟨s, _, rfl⟩ := List.mem_map.mp hr
      rfl
    · obtain ⟨out, rfl, p2, st2⟩ := rows_sorted p st
      have z0 : ∀ h ∈ H, h.2.2 = 0 := fun h hh => ((P2.mem h).mp hh).2.2.1.1
      have eo : (out.map fun r => (r.1, r.2.1, (0 : Int))).map (platR f) = out := by
        rw [List.map_map]
        conv => rhs; rw [← List.map_id out]
        refine List.map_congr_left fun r hr => ?_
        obtain ⟨h, _, rfl⟩ := List.mem_map.mp (p2.mem_iff.mp hr)
        rfl
      have p3 : (out.map fun r => (r.1, r.2.1, (0 : Int))).Perm H := by
        have := p2.map fun r => (r.1, r.2.1, (0 : Int))
        rw [List.map_map] at this
        have e2 : H.map ((fun r => (r.1, r.2.1, (0 : Int))) ∘ platR f) = H := by
          conv => rhs; rw [← List.map_id H]
          refine List.map_congr_left fun r hr => ?_
          exact Prod.ext rfl (Prod.ext rfl (z0 r hr).symm)
        rw [e2] at this
        exact this
      have hol := Part2.holes hc (a0 := rl.2.1 - c) (H := H) (by rw [show rl.2.1 - c + c = rl.2.1 by omega]; exact P2) p3 (by rw [List.pairwise_map]; exact st2)
      rw [← rowsI, ← eo]
      try walk_at "dl"
      refine h _ hol (by rw [p3.length_eq]; exact hl) ?_
      rw [perm_sum (p3.map hlen)]
      unfold lenS
      omega
def sp_gaps (cA : Str → Addr) : DSpec := fun zs cs k => match zs with
  | [.d a] => ∃ c f rs, (a = psgD cA c rs ∧ Pas c f rs 100000 (10 ^ 150)) ∧ ∀ H, Holes c (Im f) H → H.length ≤ rs.length → (H.map hlen).sum = c - lenS rs → k (.d (.lst (pairsT (H.map gapR)))) cs
  | _ => False
theorem len_gaps (cA : Str → Addr) : ∀ zs cs q, (sp_gaps cA) zs cs q → zs.length = (["passage"] : List Str).length := fun zs cs q h => by
  unfold sp_gaps at h
  split at h
  · rfl
  · exact h.elim
def t_gaps (cA : Str → Addr) : DS :=
  (dSeq (dDrop (dCall (sp_require_passage cA) (dCons (dVar 0) dNil)))
  (dSeq (dAsg (dLstC dNil) (dgName 1))
  (dSeq (dAsg (dFld (cA "Passage") "own_cycle" (dVar 0)) (dgName 2))
  (dSeq (dAsg (dOp ixD (dFld (cA "Passage") "own_runs" (dVar 0)) (dUn negD (dC (.int 1)))) (dgName 3))
  (dSeq (dAsg (dOp subD (dOp subD (dOp addD (dOp ixD (dVar 3) (dC (.int 2))) (dOp ixD (dVar 3) (dC (.int 1)))) (dOp ixD (dVar 3) (dC (.int 0)))) (dVar 2)) (dgName 4))
  (dSeq (dFor (diSeq (dFld (cA "Passage") "own_runs" (dVar 0))) (dgName 5) (dSeq (dIfS (dB (dOp ltD (dOp addD (dVar 4) (dC (.int 1))) (dOp ixD (dVar 5) (dC (.int 2))))) (dSeq (dAsg (dOp subD (dC (.int 0)) (dOp mulD (dOp fdivD (dOp addD (dVar 4) (dC (.int 1))) (dVar 2)) (dVar 2))) (dgName 6))
  (dDrop (dAppend (dVar 1) (dTup (dCons (dOp addD (dOp addD (dVar 4) (dC (.int 1))) (dVar 6)) (dCons (dOp addD (dOp subD (dOp ixD (dVar 5) (dC (.int 2))) (dC (.int 1))) (dVar 6)) dNil)))))) dNext)
  (dLock (dAsg (dOp subD (dOp addD (dOp ixD (dVar 5) (dC (.int 2))) (dOp ixD (dVar 5) (dC (.int 1)))) (dOp ixD (dVar 5) (dC (.int 0)))) (dgName 4)))))
  (dFrz 1 (dRet (dCB sortedRD (dCons (dVar 1) dNil))))))))))
theorem rd_gaps (cA : Str → Addr) : ∀ zs cs q, (sp_gaps cA) zs cs q → t_gaps cA (endD cs.length q) (startD ["passage", "found", "cycle", "last", "ahead", "row", "by"] zs) cs := fun zs cs q h => by
  unfold sp_gaps at h
  split at h
  rotate_left
  · exact h.elim
  rename_i a
  simp only [startD, List.map_cons, List.map_nil, List.length_cons, List.length_nil, Nat.reduceAdd, Nat.zero_add, Nat.reduceSub, List.replicate_zero, List.replicate_succ, List.cons_append, List.nil_append, List.append_nil]
  obtain ⟨c, f, rs, ⟨rfl, P⟩, h⟩ := h
  have hc := P.psg.pos
  have cle := P.cle
  have pl := P.len
  obtain ⟨rl, W⟩ := walk_of P
  have ml := List.mem_of_getLast? W.last
  obtain ⟨l4, l5, l6, l7, l8, l0, l1, l2, l9, l3⟩ := W.run rl ml
  have lastE : ∀ k : D → Prop, atD (rowsT rs) (-1) k = k (rowT rl) := fun k => by
    obtain ⟨l, e⟩ := List.getLast?_eq_some_iff.mp W.last
    subst e
    exact e_at (at_m1R _ _)
  unfold t_gaps
  simp only [psgD]
  try walk_at "dl"
  simp only [sp_require_passage]
  refine ⟨trivial, ?_⟩
  try walk_at "dl"
  refine ⟨.int c, rfl, .tup (rowsT rs), rfl, ?_⟩
  try walk_at "dl"
  rw [lastE]
  simp only [rowT]
  try walk_at "dl"
  have sc : Sm c := Sm.of (by omega) (by omega)
  have IP := im_per P.psg
  have b0e : rl.2.2 + rl.2.1 - rl.1 - c = f (rl.2.1 - c) := by have := W.per0; omega
  rw [b0e]
  refine dFor_mk (rowsT rs) yes (cs ++ [.lst []]) (fun K h => by walk_at "dl"; refine ⟨.tup (rowsT rs), rfl, ?_⟩; walk_at "dl"; exact h)
    (fun i en cx => ∃ (H : List Row) (a : Int) (o5 o6 : Option Z), en = [some (.d (.ob (cA "Passage") ["own_cycle", "own_runs"] [.int c, .tup (rowsT rs)])), some (.c cs.length), some (.d (.int c)), some (.d (.tup [.int rl.1, .int rl.2.1, .int rl.2.2])), some (.d (.int (f a))), o5, o6] ∧ cx = cs ++ [.lst (pairsT (H.map gapR))] ∧ H.length ≤ i ∧ Part2 c (Im f) (f (rl.2.1 - c)) (f a) H ∧ Lst f a ∧ rl.2.1 - c ≤ a ∧ a ≤ rl.2.1 ∧
      (H.map hlen).sum + ((rs.take i).map lenR).sum = f a - f (rl.2.1 - c) ∧ (∀ r, rs[i]? = some r → At f r (a + 1) ∧ a < r.1) ∧ (i = rs.length → a = rl.2.1))
    ⟨[], rl.2.1 - c, _, _, rfl, rfl, by simp, Part2.nil hc _, W.lst0, Int.le_refl _, by omega, by simp, W.first, fun e => ?_⟩ (fun i d en cx hd hI => ?_) (fun en cx hI => ?_) (fun _ _ _ _ => trivial)
  · have := List.length_pos_of_mem ml
    omega
  · obtain ⟨H, a, o5, o6, rfl, rfl, hl, P2, la, a0, a1, sm, nx, _⟩ := hI
    obtain ⟨r, hr, rfl⟩ := get_rowsT hd
    have il := (List.getElem?_eq_some_iff.mp hr).1
    obtain ⟨q1, q2, q3, q4, q5, q6, q7, q8, q9, q10⟩ := W.run r (List.mem_of_getElem? hr)
    obtain ⟨qa, ql⟩ := nx r hr
    have va := qa.val P.psg
    have e1 : f (a + 1) = r.2.2 := by omega
    have la' := la
    unfold Lst at la'
    have mo0 := P.psg.mono _ _ a0
    have mo1 := P.psg.mono _ _ q9
    have pr0 := W.per0
    have stp := P2.step hc IP mo0 ⟨a, rfl⟩ (s := r.2.2) (l := f r.2.1) (by omega) (by omega) (by omega) (fun y h1 h2 ⟨x, e⟩ => by
      rcases Int.lt_or_le a x with z | z
      · have := P.psg.mono (a + 1) x (by omega); omega
      · have := P.psg.mono x a z; omega) (fun y h1 h2 => ⟨r.1 + (y - r.2.2), by have := (q3 (r.1 + (y - r.2.2)) (by omega) (by omega)).2; omega⟩)
    have nx' : ∀ s, rs[i + 1]? = some s → At f s (r.2.1 + 1) ∧ r.2.1 < s.1 := fun s hs => W.next i r s hr hs
    have lst' : i + 1 = rs.length → r.2.1 = rl.2.1 := fun e => by
      have hrl := W.last
      rw [List.getLast?_eq_getElem?, show rs.length - 1 = i by omega, hr] at hrl
      cases hrl
      rfl
    have sm' := sumR_take lenR hr
    have lr : Lst f r.2.1 := (q3 r.2.1 q8 (Int.le_refl _)).1
    have er : r.2.2 + r.2.1 - r.1 = f r.2.1 := by omega
    have sl : lenR r = r.2.1 - r.1 + 1 := rfl
    simp only [rowT]
    try walk_at "dl"
    by_cases e : f a + 1 < r.2.2
    · simp only [e, decide_true, if_true]
      rw [if_pos e] at stp
      have bdA : Bd (f a + 1) := ⟨by omega, by omega⟩
      refine ⟨dv_c hc cle, ⟨sm_div bdA hc, sc⟩, lim_lt (by rw [len_pairsT, List.length_map]; omega), ?_⟩
      unfold dLock
      try walk_at "dl"
      refine .inl ⟨_, r.2.1, _, _, by rw [er], ?_, by rw [List.length_append]; simp only [List.length_cons, List.length_nil]; omega, stp, lr, by omega, q9, ?_, nx', lst'⟩
      · rw [List.map_append]
        unfold pairsT
        rw [List.map_append]
        simp only [List.map_cons, List.map_nil, gapR, pairT, up]
        rw [show r.2.2 + (0 - (f a + 1) / c * c) - 1 = r.2.2 - 1 + (0 - (f a + 1) / c * c) by omega]
      · have hh : hlen (f a + 1 + up c (f a), r.2.2 + up c (f a), 0) = r.2.2 - f a - 1 := by unfold hlen; simp only; omega
        rw [List.map_append, List.sum_append, sm', sl, List.map_cons, List.map_nil, List.sum_cons, List.sum_nil, hh]
        omega
    · simp only [e, decide_false, Bool.false_eq_true, if_false]
      rw [if_neg e] at stp
      unfold dLock
      try walk_at "dl"
      exact .inl ⟨H, r.2.1, _, _, by rw [er], rfl, by omega, stp, lr, by omega, q9, by rw [sm', sl]; omega, nx', lst'⟩
  · obtain ⟨H, a, o5, o6, rfl, rfl, hl, P2, la, a0, a1, sm, nx, e⟩ := hI
    rw [len_rowsT] at e hl sm
    have e := e rfl
    subst e
    rw [List.take_length] at sm
    have pr0 := W.per0
    try walk_at "dl"
    intro nb
    refine ⟨_, 2, pairsI _, ⟨by decide, by decide, fun r hr => ?_⟩, fun out p st => ?_⟩
    · obtain ⟨s, _, rfl⟩ := List.mem_map.mp hr
      rfl
    · obtain ⟨out, rfl, p2, st2⟩ := pairs_sorted (fun r hr => by obtain ⟨s, _, rfl⟩ := List.mem_map.mp hr; rfl) p st
      have z0 : ∀ h ∈ H, h.2.2 = 0 := fun h hh => ((P2.mem h).mp hh).2.2.1.1
      have eo : (out.map fun r => (r.1, r.2.1 + 1, (0 : Int))).map gapR = out := by
        rw [List.map_map]
        conv => rhs; rw [← List.map_id out]
        refine List.map_congr_left fun r hr => ?_
        obtain ⟨h, _, rfl⟩ := List.mem_map.mp (p2.mem_iff.mp hr)
        exact Prod.ext rfl (Prod.ext (by simp only [Function.comp, gapR, id]; omega) rfl)
      have p3 : (out.map fun r => (r.1, r.2.1 + 1, (0 : Int))).Perm H := by
        have := p2.map fun r => (r.1, r.2.1 + 1, (0 : Int))
        rw [List.map_map] at this
        have e2 : H.map ((fun r => (r.1, r.2.1 + 1, (0 : Int))) ∘ gapR) = H := by
          conv => rhs; rw [← List.map_id H]
          refine List.map_congr_left fun r hr => ?_
          exact Prod.ext rfl (Prod.ext (by simp only [Function.comp, gapR, id]; omega) (z0 r hr).symm)
        rw [e2] at this
        exact this
      have hol := Part2.holes hc (a0 := f (rl.2.1 - c)) (H := H) (by rw [← pr0]; exact P2) p3 (by rw [List.pairwise_map]; exact st2)
      rw [← pairsI, ← eo]
      try walk_at "dl"
      refine h _ hol (by rw [p3.length_eq]; exact hl) ?_
      rw [perm_sum (p3.map hlen)]
      unfold lenS
      omega
end PA
set_option Elab.async false
set_option linter.all false
set_option autoImplicit false
/-! PMJ: how many holes what is put together has -/
namespace PM
variable {c : Int} {f g f' g' : Int → Int} {M N : Int → Prop}
theorem Holes.has (hc : 1 ≤ c) (P : Per c M) {H : List Row} (h : Holes c M H) {p q : Int} (o : Hole M p q) : ∃ r ∈ H, ∃ k : Int, r.1 - 1 = p + k * c ∧ r.2.1 = q + k * c := by
  have d0 := Int.emod_add_mul_ediv (p + 1) c
  have m0 := Int.emod_nonneg (p + 1) (show c ≠ 0 by omega)
  have m1 := Int.emod_lt_of_pos (p + 1) (show 0 < c by omega)
  have e : -((p + 1) / c) * c = -(c * ((p + 1) / c)) := by rw [Int.neg_mul, Int.mul_comm]
  refine ⟨(p + 1 + -((p + 1) / c) * c, q + -((p + 1) / c) * c, 0), (h.mem _).mpr ⟨by simp only; omega, by simp only; omega, rfl, ?_⟩, -((p + 1) / c), by simp only; omega, rfl⟩
  have m := o.mv P (-((p + 1) / c))
  simp only
  rw [show p + 1 + -((p + 1) / c) * c - 1 = p + -((p + 1) / c) * c by omega]
  exact m
theorem Hole.same' {p p' q : Int} (a : Hole M p q) (b : Hole M p' q) : p = p' := by
  rcases Int.lt_trichotomy p p' with z | z | z
  · exact absurd b.lo (a.no p' z (by have := b.far; omega))
  · exact z
  · exact absurd a.lo (b.no p z (by have := a.far; omega))
/-- two holes of the list whose ends are whole cycles apart are one -/
theorem Holes.one (hc : 1 ≤ c) (P : Per c M) {H : List Row} (h : Holes c M H) {a b : Row} (ha : a ∈ H) (hb : b ∈ H) {k : Int} (e : b.2.1 = a.2.1 + k * c) : a = b := by
  obtain ⟨a0, a1, a2, a3⟩ := (h.mem a).mp ha
  obtain ⟨b0, b1, b2, b3⟩ := (h.mem b).mp hb
  have m := a3.mv P k
  rw [← e] at m
  have s := m.same' b3
  have k0 : k = 0 := by
    rcases Int.lt_trichotomy k 0 with z | z | z
    · have := mul_step (k' := k) (k := 0) (c := c) (by omega) (by omega)
      omega
    · exact z
    · have := mul_step (k' := 0) (k := k) (c := c) (by omega) (by omega)
      omega
  subst k0
  exact Prod.ext (by omega) (Prod.ext (by omega) (by omega))
end PM
set_option Elab.async false
set_option linter.all false
set_option autoImplicit false
/-! PMK: platoons and gaps counted -/
namespace PM
variable {c : Int} {f g f' g' : Int → Int} {M N : Int → Prop}
/-- so many platoons and gaps in a cycle -/
def Cnt (c : Int) (f : Int → Int) (n m : Nat) : Prop := (∃ H, Holes c (Lst f) H ∧ H.length = n) ∧ ∃ H, Holes c (Im f) H ∧ H.length = m
theorem Cnt.congr {n m : Nat} (h : Cnt c f n m) (e : ∀ x, f x = g x) : Cnt c g n m := by
  have : f = g := funext e
  subst this
  exact h
end PM
set_option Elab.async false
set_option linter.all false
set_option maxRecDepth 100000
set_option maxHeartbeats 2000000
set_option autoImplicit false
/-! DLZD: min of a list of pairs of ints -/
namespace DL
open PySem PySem.Spec PyProof.Rows L2
open PySem.W (dataLt dataLt_ii AlikeAll min_list_data alike_unique readsAll_at reads_keeps)
/-! ### a value, or what an if leaves behind, once for all that comes -/
end DL
set_option Elab.async false
set_option linter.all false
set_option maxRecDepth 100000
set_option maxHeartbeats 4000000
set_option autoImplicit false
/-! DLZG: sorted(a dict whose keys are ints); list(range(n)) -/
namespace DL
open PySem PySem.Spec PyProof.Rows L2
section
variable {X : Cx}
end
section
variable {X : Cx} {a : Expr} {ta : TE} {da : DE} {p p2 q pos : Pos}
end
end DL
set_option Elab.async false
set_option linter.all false
set_option maxRecDepth 100000
set_option maxHeartbeats 4000000
set_option autoImplicit false
/-! DLZH: list(range(a, b)) -/
namespace DL
open PySem PySem.Spec PyProof.Rows L2
theorem r2D_inv {z w : Z} {K : Int → Int → Prop} (h : r2D z w K) : ∃ i j, z = .d (.int i) ∧ w = .d (.int j) ∧ K i j := by
  unfold r2D at h
  exact h
section
variable {X : Cx} {a b : Expr} {ta tb : TE} {da db : DE} {p p2 q pos : Pos}
end
end DL
set_option Elab.async false
set_option linter.all false
set_option maxRecDepth 100000
set_option maxHeartbeats 4000000
set_option autoImplicit false
/-! DLZI: a, b = x, y where a name is read by a comprehension further in (a tuple is made), and a value may be a cell -/
namespace DL
open PySem PySem.Spec PyProof.Rows L2
section
variable {X : Cx} {pos : Pos}
end
end DL
set_option Elab.async false
set_option linter.all false
set_option maxRecDepth 100000
set_option maxHeartbeats 2000000
set_option autoImplicit false
/-! DLZW: a, b, c, d = four values, some of them lists that change -/
namespace DL
open PySem PySem.Spec PyProof.Rows L2
section
variable {X : Cx} {pos : Pos}
end
end DL
set_option Elab.async false
set_option linter.all false
set_option maxRecDepth 100000
set_option maxHeartbeats 2000000
set_option autoImplicit false
/-! DLZX: sorted(rows) as a list that will change -/
namespace DL
open PySem PySem.Spec PyProof.Rows L2
def srtC : D → (List D → Prop) → Prop
  | .lst ds, k => ∃ (rows : List (List Int)) (d : Nat), ds = rows.map rowD ∧ (1 ≤ d ∧ d ≤ 3 ∧ ∀ r ∈ rows, r.length = d) ∧ ∀ out : List (List Int), out.Perm rows → out.Pairwise (fun x y => lex3 (key3 y) (key3 x) = false) → k (out.map rowD)
  | .tup ds, k => ∃ (rows : List (List Int)) (d : Nat), ds = rows.map rowD ∧ (1 ≤ d ∧ d ≤ 3 ∧ ∀ r ∈ rows, r.length = d) ∧ ∀ out : List (List Int), out.Perm rows → out.Pairwise (fun x y => lex3 (key3 y) (key3 x) = false) → k (out.map rowD)
  | _, _ => False
theorem e_stCl (ds : List D) (k : List D → Prop) : srtC (.lst ds) k = ∃ (rows : List (List Int)) (d : Nat), ds = rows.map rowD ∧ (1 ≤ d ∧ d ≤ 3 ∧ ∀ r ∈ rows, r.length = d) ∧ ∀ out : List (List Int), out.Perm rows → out.Pairwise (fun x y => lex3 (key3 y) (key3 x) = false) → k (out.map rowD) := nd rfl
def dSortC (a : DE) : DE := fun en cs k => a en cs fun x cs1 => withD cs1 x fun dx => srtC dx fun ds => k (.c cs1.length) (cs1 ++ [.lst ds])
theorem u_dSortC (a : DE) (en : En) (cs : Cs) (k : Z → Cs → Prop) : dSortC a en cs k = (a en cs fun x cs1 => withD cs1 x fun dx => srtC dx fun ds => k (.c cs1.length) (cs1 ++ [.lst ds])) := nd rfl
section
variable {X : Cx} {pos : Pos}
theorem q_sortC {x : Str} {p : Pos} {a : Expr} {ta : TE} {da : DE} (hc : CallR X (.builtin "sorted") (rSortedR X.K)) (hm : X.mg x = none) (hv : bootBuiltins x = some (.builtin "sorted")) (ha : QE X a ta da) (hg : Gl X x := by rfl) (hn : x ≠ "__name__" := by decide) (hdb : (x == ("__debug__" : Str)) = false := by decide)
    (he : starEach [a] X.env = (false, eval a X.env) :: starEach [] X.env := by rfl) (hpl : (backTo pos (starEach [] X.env)).any (·.1) = false := by rfl) : QE X (.Call (.Name x p) [a] [] pos) (tCB (rSortedR X.K) (tCons ta tNil)) (dSortC da) := by
  refine ⟨pe_callB hc hg hm hv (pa_cons ha.pe pa_nil he) hn hdb he hpl, ?_⟩
  intro σ H S as en cs k Q rp e q pq
  refine ha.sem.use rp e q fun z v S1 H1 as1 cs1 e1 r1 v1 q1 => ?_
  obtain ⟨dx, l1, q1⟩ := withD_look q1
  have hx := look_sh r1 v1 l1
  have go : ∀ (ad : Addr) (us : List V) (rows : List (List Int)) (d : Nat), (SqL X.K H1 ad us ∨ SqT X.K H1 ad us) → IsL X.K S1 (rows.map rowD) us → (1 ≤ d ∧ d ≤ 3 ∧ ∀ r ∈ rows, r.length = d) → (∀ out : List (List Int), out.Perm rows → out.Pairwise (fun x y => lex3 (key3 y) (key3 x) = false) → k (.c cs1.length) (cs1 ++ [.lst (out.map rowD)])) → rSortedR X.K [V.ref ad] H1 Q := fun ad us rows d hs is ⟨d1, d3, hd⟩ hk => by
    obtain ⟨i1, i2⟩ := rows_is r1.sub is hd
    have hlen : us.length = rows.length := by
      have := is.len
      rw [List.length_map] at this
      exact this
    refine ⟨ad, us, rows, d, rfl, hs, ⟨d1, d3⟩, i1, fun out p hp hw hpn => ?_⟩
    have iso := isL_out (K := X.K) (S := S1) (out := out) fun z hz => i2 z (hp.mem_iff.mp hz)
    have hp2 := hp.map (·.2)
    rw [zip_snd hlen] at hp2
    exact r1.fresh (pq.mono e1) hpn iso (hk _ hp2 (List.pairwise_map.mpr hw))
  unfold srtC at q1
  split at q1
  · obtain ⟨ad, us, rfl, hs, is⟩ := hx
    obtain ⟨rows, d, rfl, hd, hk⟩ := q1
    exact go ad us rows d (.inl (SqL.of hs)) is hd hk
  · obtain ⟨ad, us, rfl, hs, is⟩ := hx
    obtain ⟨rows, d, rfl, hd, hk⟩ := q1
    exact go ad us rows d (.inr (r1.sub.t hs)) is hd hk
  · exact q1.elim
end
end DL
set_option Elab.async false
set_option linter.all false
set_option maxRecDepth 100000
set_option maxHeartbeats 4000000
set_option autoImplicit false
/-! DLZJ: xs.pop(i), xs a cell -/
namespace DL
open PySem PySem.Spec PyProof.Rows L2
section
variable {X : Cx}
end
end DL
set_option Elab.async false
set_option linter.all false
set_option maxRecDepth 100000
set_option maxHeartbeats 4000000
set_option autoImplicit false
/-! DLZK: == and != of lists of instances that are all equal -/
namespace DL
open PySem PySem.Spec PyProof.Rows L2
section
variable {prog : Program} {w : World} {A : Around}
end
end DL
set_option Elab.async false
set_option linter.all false
set_option maxRecDepth 100000
set_option maxHeartbeats 4000000
set_option autoImplicit false
/-! DLZL: == and != of lists of instances that are all equal, over data -/
namespace DL
open PySem PySem.Spec PyProof.Rows L2
section
variable {X : Cx} {pos : Pos} {k : Nat} {f C : Addr} {fd : FuncData} {ps : List Str} {sp : DSpec} {a b : Expr} {ta tb : TE} {da db : DE}
end
end DL
set_option Elab.async false
set_option linter.all false
set_option maxRecDepth 100000
set_option maxHeartbeats 4000000
set_option autoImplicit false
/-! DLZQ: != of two tuples, item by item, all alike -/
namespace DL
open PySem PySem.SeqAt GQ
open AutoSeq1 (wpAny_loadPart')
open MeetsSeq MeetsSeq2 MeetsSeq3 SeqRoads2
section
variable {prog : Program} {w : World} {A : Around} {R : Result → Shared → Prop}
end
section
variable {prog : Program} {w : World} {A : Around} {E : Value → Shared → Prop} {s : Shared}
end
end DL
set_option Elab.async false
set_option linter.all false
set_option maxRecDepth 100000
set_option maxHeartbeats 4000000
set_option autoImplicit false
/-! DLZR: == and != of two tuples of ints and instances that are all alike, over data -/
namespace DL
open PySem PySem.Spec PyProof.Rows L2
section
variable {X : Cx} {pos : Pos} {k : Nat} {f C : Addr} {fd : FuncData} {ps : List Str} {sp : DSpec} {a b : Expr} {ta tb : TE} {da db : DE}
end
end DL
set_option Elab.async false
set_option linter.all false
set_option maxRecDepth 100000
set_option maxHeartbeats 2000000
/-! DLZS: == of an instance of an own class and a value of another kind, both ways round -/
namespace DL
open PySem PySem.Spec PyProof.Rows L2 PySem.W PySem.SeqAt MeetsSeq AutoSeq1
section
variable {prog : Program} {w : World} {A : Around} {E : Value → Shared → Prop} {s : Shared} {K : Frag} {x C L f : Addr} {h₀ : Heap} {m : Str → Option Value} {ox : Obj} {od : Option Obj} {b tb : Value}
end
end DL
namespace DL
open PySem PySem.Spec PyProof.Rows L2 PySem.SeqAt
section
variable {X : Cx} {pos : Pos} {k k1 k2 : Nat} {f f1 f2 C C1 C2 : Addr} {fd fd1 fd2 : FuncData} {ps ps1 ps2 : List Str} {sp sp1 sp2 : DSpec} {a b e : Expr} {ta tb te : TE} {da db de : DE}
end
end DL
set_option Elab.async false
set_option linter.all false
set_option maxRecDepth 100000
set_option maxHeartbeats 2000000
set_option autoImplicit false
/-! DLZT: a list of anything == [] -/
namespace DL
open PySem PySem.Spec PyProof.Rows L2
end DL
set_option Elab.async false
set_option linter.all false
set_option maxRecDepth 100000
set_option maxHeartbeats 2000000
set_option autoImplicit false
/-! DTA: texts over data -/
namespace DL
open PySem PySem.Spec PyProof.Rows L2
section
variable {X : Cx} {pos p : Pos} {o e a b : Expr} {to te ta tb : TE} {do_ de da db : DE}
end
/-! a dict of the module whose keys and values are texts -/
structure KTab (K : PySem.W.Frag) (w : World) (d : Addr) (T : List (Str × Str)) : Prop where
  ex : ∃ es n, KDict K w d es n ∧ (∀ z : Str, PySem.W.nsIn K d z = some none ↔ T.lookup z = none) ∧ ∀ z v, T.lookup z = some v → ∃ t, PySem.W.nsIn K d z = some (some (.str v t))
end DL
set_option Elab.async false
set_option linter.all false
set_option maxRecDepth 100000
set_option maxHeartbeats 2000000
set_option autoImplicit false
/-! DTB: cells by their addresses: lists within lists, and instances, that change -/
namespace DL
open PySem PySem.Spec PyProof.Rows L2
def fnd : Cs → Addr → Option D
  | [], _ => none
  | y :: r, a => match y with
    | .cel b x => if b = a then some x else fnd r a
    | _ => fnd r a
def put1 (a : Addr) (x : D) : D → D
  | .cel b z => if b = a then .cel b x else .cel b z
  | y => y
theorem put1_no {a : Addr} {x y : D} (h : ∀ b z, y ≠ .cel b z) : put1 a x y = y := by
  cases y <;> first | rfl | exact absurd rfl (h _ _)
theorem put1_cel (a b : Addr) (x z : D) : put1 a x (.cel b z) = if b = a then .cel b x else .cel b z := rfl
def putA (cs : Cs) (a : Addr) (x : D) : Cs := cs.map (put1 a x)
theorem fnd_cel (b a : Addr) (x : D) (r : Cs) : fnd (.cel b x :: r) a = if b = a then some x else fnd r a := rfl
theorem fnd_no {y : D} (h : ∀ b x, y ≠ .cel b x) (r : Cs) (a : Addr) : fnd (y :: r) a = fnd r a := by
  cases y <;> first | rfl | exact absurd rfl (h _ _)
theorem fnd_get : ∀ {cs : Cs} {a : Addr} {x : D}, fnd cs a = some x → ∃ n : Nat, cs[n]? = some (D.cel a x)
  | [], _, _, h => by cases h
  | y :: cs, a, x, h => by
    by_cases q : ∃ b z, y = .cel b z
    · obtain ⟨b, z, rfl⟩ := q
      rw [fnd_cel] at h
      by_cases e : b = a
      · rw [if_pos e] at h
        cases h
        exact ⟨0, by subst e; rfl⟩
      · rw [if_neg e] at h
        obtain ⟨n, hn⟩ := fnd_get h
        exact ⟨n + 1, hn⟩
    · rw [fnd_no (fun b z e => q ⟨b, z, e⟩)] at h
      obtain ⟨n, hn⟩ := fnd_get h
      exact ⟨n + 1, hn⟩
section
variable {K : PySem.W.Frag} {S H : Hp} {as : List Addr} {cs : Cs}
theorem Rep.atA (r : Rep K S H as cs) {a : Addr} {x : D} (h : fnd cs a = some x) : ∃ n : Nat, as[n]? = some a ∧ cs[n]? = some (D.cel a x) ∧ CelAt K S H a (.cel a x) := by
  obtain ⟨n, hn⟩ := fnd_get h
  have hl := (List.getElem?_eq_some_iff.mp hn).1
  rw [← r.len] at hl
  have ha : as[n]? = some as[n] := List.getElem?_eq_getElem hl
  have c := r.cel n _ _ ha hn
  have e := c.adr
  rw [← e] at ha c
  exact ⟨n, ha, hn, c⟩
theorem Rep.putSet (r : Rep K S H as cs) {n : Nat} {a : Addr} {y : D} (x : D) (ha : as[n]? = some a) (hc : cs[n]? = some (.cel a y)) : putA cs a x = cs.set n (.cel a x) := by
  refine List.ext_getElem? fun m => ?_
  unfold putA
  rw [List.getElem?_map]
  by_cases hm : n = m
  · subst hm
    rw [hc, List.getElem?_set_self (List.getElem?_eq_some_iff.mp hc).1, Option.map_some, put1_cel, if_pos rfl]
  · rw [List.getElem?_set_ne hm]
    cases q : cs[m]? with
    | none => rfl
    | some z =>
      by_cases w : ∃ b u, z = .cel b u
      · obtain ⟨b, u, rfl⟩ := w
        rw [Option.map_some, put1_cel]
        by_cases e : b = a
        · subst e
          have hl := (List.getElem?_eq_some_iff.mp q).1
          rw [← r.len] at hl
          have am : as[m]? = some as[m] := List.getElem?_eq_getElem hl
          have e2 := (r.cel m _ _ am q).adr
          rw [← e2] at am
          exact absurd (nd_ix r.nod ha am) hm
        · rw [if_neg e]
      · rw [Option.map_some, put1_no fun b u e => w ⟨b, u, e⟩]
theorem Rep.putAddr (r : Rep K S H as cs) {a : Addr} {x : D} (h : DL.fnd cs a = some x) {o : HO} {y : D} (c : CelAt K S (upd H a o) a (.cel a y)) (hS : S a = none) : Rep K S (upd H a o) as (putA cs a y) := by
  obtain ⟨n, ha, hc, _⟩ := r.atA h
  rw [r.putSet y ha hc]
  exact r.put ha c hS
theorem cel_sh {a : Addr} {x : D} (c : CelAt K S H a (.cel a x)) : Sh K S H x (.ref a) := by
  cases x with
  | lst ds =>
    obtain ⟨_, _, vs, h, i⟩ := c
    exact ⟨a, vs, rfl, h, i⟩
  | ob C ns ds =>
    obtain ⟨_, _, dx, vs, h, i⟩ := c
    exact ⟨a, dx, vs, rfl, h, i⟩
  | cel c' y =>
    cases y with
    | lst es =>
      obtain ⟨_, e, _⟩ := c
      exact congrArg V.ref e.symm
    | _ => exact c.elim
  | _ => exact c.elim
end
section
variable {X : Cx} {pos : Pos}
/-- o.append(v) -/
def dAppendA (o v : DE) : DE := fun en cs k => o en cs fun x cs1 => match x with
  | .d (.obj a) => (match fnd cs1 a with
    | some (.lst _) => v en cs1 fun y cs2 => (match y with
      | .d d => (match fnd cs2 a with
        | some (.lst ds) => ds.length < LIM ∧ k (.d .non) (putA cs2 a (.lst (ds ++ [d])))
        | _ => False)
      | _ => False)
    | _ => False)
  | _ => False
theorem q_appendA {o v : Expr} {to tv : TE} {od vd : DE} {apos cpos : Pos} (ho : QE X o to od) (hv : QE X v tv vd)
    (hbase : attributeBase o "append" X.env (eval o X.env) = eval o X.env := by rfl)
    (hfew : ((backTo cpos (starEach [v] X.env)).all (fun x => !x.1) && (backToKw cpos (keywordEach [] X.env)).all (fun x => x.1.isSome)
      && decide ([v].length + ([] : List Keyword).length + (if ([] : List Keyword).isEmpty then 0 else 1) < 30)) = true := by rfl)
    (hline : (apos.endLine == cpos.line) = true := by rfl) (hs : starEach [v] X.env = (false, eval v X.env) :: starEach [] X.env := by rfl) (hplain : (backTo cpos (starEach [] X.env)).any (·.1) = false := by rfl) :
    QE X (.Call (.Attribute o "append" apos) [v] [] cpos) (tBM X.K "list" rAppend to (tCons tv tNil)) (dAppendA od vd) := by
  refine ⟨pe_bm PySem.F.plainAttrs_list PySem.F.slot_list_append PySem.F.type_list_append mt_append ho.pe (pa_cons hv.pe pa_nil hs) hbase hfew hline hs hplain, ?_⟩
  intro σ H S as en cs k Q r e q p
  refine ho.sem.use r e q fun z v S1 H1 as1 cs1 e1 r1 w1 q1 => ?_
  split at q1
  · rename_i a
    have hv0 : v = .ref a := w1
    subst hv0
    split at q1
    · rename_i ds1 hc1
      obtain ⟨_, _, _, _, _, vs1, hl1, _⟩ := r1.atA hc1
      refine ⟨.inl ⟨rfl, vs1, SqL.of hl1⟩, ?_⟩
      refine hv.sem.use r1 (e.mono e1) q1 fun z2 v2 S2 H2 as2 cs2 e2 r2 w2 q2 => ?_
      split at q2
      · rename_i d
        split at q2
        · rename_i ds hc
          obtain ⟨_, _, _, _, hS, vs, hl, is⟩ := r2.atA hc
          exact ⟨a, vs, v2, rfl, rfl, hl, by rw [is.len]; exact size_lt q2.1, p (.d .non) .non S2 _ as2 _ (e1.trans e2) (r2.putAddr hc (y := .lst (ds ++ [d])) ⟨rfl, hS, _, upd_same, is.append ⟨v2, [], rfl, w2, rfl⟩⟩ hS) rfl q2.2⟩
        · exact q2.elim
      · exact q2.elim
    · exact q1.elim
  · exact q1.elim
theorem IsL.dropLast {K : PySem.W.Frag} {S : Hp} {ds : List D} {vs : List V} (h : IsL K S ds vs) : IsL K S ds.dropLast vs.dropLast := by
  rw [List.dropLast_eq_take, List.dropLast_eq_take, h.len]
  exact h.take _
end
section
variable {X : Cx} {k : Nat} {f C : Addr} {fd : FuncData} {ps : List Str} {sp : DSpec} {x m : Str} {p pos apos : Pos} {o e : Expr} {es : List Expr} {to : TE} {od : DE} {ta : TA} {da : DA}
end
end DL
set_option Elab.async false
set_option linter.all false
set_option maxRecDepth 100000
set_option maxHeartbeats 2000000
set_option autoImplicit false
/-! DLRT: a cell named by its address, and back -/
namespace DL
open PySem PySem.Spec PyProof.Rows L2
theorem Rep.reset {K : PySem.W.Frag} {S H : Hp} {as : List Addr} {cs : Cs} (r : Rep K S H as cs) {m : Nat} {a : Addr} {c : D} (ha : as[m]? = some a) (h : CelAt K S H a c) : Rep K S H as (cs.set m c) := by
  refine ⟨r.sub, by rw [List.length_set]; exact r.len, r.nod, fun n b d h1 h2 => ?_, r.liv, r.tab⟩
  by_cases e : m = n
  · subst e
    rw [List.getElem?_set_self' ] at h2
    rw [ha] at h1
    cases h1
    cases hc : cs[m]? with
    | none => rw [hc] at h2; cases h2
    | some x =>
      rw [hc] at h2
      cases h2
      exact h
  · rw [List.getElem?_set_ne e] at h2
    exact r.cel n b d h1 h2
section
variable {X : Cx}
end
end DL
set_option Elab.async false
set_option linter.all false
set_option maxRecDepth 100000
set_option maxHeartbeats 2000000
set_option autoImplicit false
/-! DLRA: what holds lists by their addresses, shown and compared -/
namespace DL
open PySem PySem.Spec PyProof.Rows L2
def res1 (cs : Cs) : D → D
  | .obj a => (DL.fnd cs a).getD (.obj a)
  | d => d
def resD (cs : Cs) : D → D
  | .lst ds => .lst (ds.map (res1 cs))
  | .tup ds => .tup (ds.map (res1 cs))
  | d => d
section
variable {K : PySem.W.Frag} {S H : Hp} {as : List Addr} {cs : Cs}
theorem res1_dp (r : Rep K S H as cs) {d : D} {v : V} (h : Is K S d v) (o : pyOk (res1 cs d) = true) : Dp K H v (py (res1 cs d)) := by
  unfold res1 at o ⊢
  split at o
  · rename_i a
    have hv : v = .ref a := h
    subst hv
    cases q : DL.fnd cs a with
    | some x =>
      rw [q] at o
      obtain ⟨_, _, _, c⟩ := r.atA q
      exact (cel_sh c).dp r.sub _ _ o
    | none =>
      rw [q] at o
      exact Bool.noConfusion o
  · exact Is.dp r.sub _ _ h o
theorem resL_dp (r : Rep K S H as cs) : ∀ {ds : List D} {vs : List V}, IsL K S ds vs → pyOkL (ds.map (res1 cs)) = true → DpAll K H vs (pyL (ds.map (res1 cs)))
  | [], _, h, _ => by rw [IsL] at h; subst h; exact .nil
  | d :: ds, _, h, o => by
    obtain ⟨v, t, rfl, h2, h3⟩ := h
    have o' : (pyOk (res1 cs d) && pyOkL (ds.map (res1 cs))) = true := o
    rw [Bool.and_eq_true] at o'
    exact .cons (res1_dp r h2 o'.1) (resL_dp r h3 o'.2)
theorem resD_dp (r : Rep K S H as cs) {d : D} {v : V} (h : Is K S d v) (o : pyOk (resD cs d) = true) : Dp K H v (py (resD cs d)) := by
  unfold resD at o ⊢
  split at o
  · obtain ⟨a, vs, rfl, h2, h3⟩ := h
    exact .lst (SqL.of (r.sub _ _ h2)) (resL_dp r h3 o)
  · obtain ⟨a, vs, rfl, h2, h3⟩ := h
    exact .tup (r.sub.t h2) (resL_dp r h3 o)
  · exact Is.dp r.sub _ _ h o
end
/-- a list that changes, from here on by its address, which no other has -/
def dAdrF (e : DE) : DE := fun en cs k => e en cs fun z cs1 => match z with
  | .c m => (match cs1[m]? with
    | some (.lst ds) => ∀ p, DL.fnd cs1 p = none → k (.d (.obj p)) (cs1.set m (.cel p (.lst ds)))
    | _ => False)
  | _ => False
theorem u_dAdrF (e : DE) (en : En) (cs : Cs) (k : Z → Cs → Prop) : dAdrF e en cs k = (e en cs fun z cs1 => match z with
  | .c m => (match cs1[m]? with
    | some (.lst ds) => ∀ p, DL.fnd cs1 p = none → k (.d (.obj p)) (cs1.set m (.cel p (.lst ds)))
    | _ => False)
  | _ => False) := nd rfl
theorem q_adrF {X : Cx} {e : Expr} {te : TE} {de : DE} (he : QE X e te de) : QE X e te (dAdrF de) := by
  refine ⟨he.pe, ?_⟩
  intro σ H S as en cs k Q r ev q p
  refine he.sem.use r ev q fun z v S1 H1 as1 cs1 e1 r1 w1 q1 => ?_
  split at q1
  · rename_i m
    obtain ⟨a, ha, rfl⟩ := w1
    split at q1
    · rename_i ds hc
      obtain ⟨hS, vs, hl, is⟩ := r1.cell_lst ha hc
      have fr : DL.fnd cs1 a = none := by
        cases hf : DL.fnd cs1 a with
        | none => rfl
        | some x =>
          obtain ⟨n, hn, hcn, _⟩ := r1.atA hf
          have := nd_ix r1.nod ha hn
          subst this
          rw [hc] at hcn
          cases hcn
      exact p (.d (.obj a)) _ S1 H1 as1 _ e1 (r1.reset (c := .cel a (.lst ds)) ha ⟨rfl, hS, vs, hl, is⟩) rfl (q1 a fr)
    · exact q1.elim
  · exact q1.elim
/-- repr(x) -/
def dReprA (a : DE) : DE := fun en cs k => a en cs fun z cs1 => match z with
  | .d d => RpOk (resD cs1 d) ∧ k (.d (.str (py (resD cs1 d)).shown)) cs1
  | _ => False
theorem u_dReprA (a : DE) (en : En) (cs : Cs) (k : Z → Cs → Prop) : dReprA a en cs k = (a en cs fun z cs1 => match z with
  | .d d => RpOk (resD cs1 d) ∧ k (.d (.str (py (resD cs1 d)).shown)) cs1
  | _ => False) := nd rfl
section
variable {X : Cx} {pos : Pos}
theorem q_reprA {x : Str} {p : Pos} {a : Expr} {ta : TE} {da : DE} (hg : X.A.guards = some []) (hu : X.A.units + 64 < cLine) (hm : X.mg x = none) (hv : bootBuiltins x = some (.builtin "repr")) (ha : QE X a ta da) (hgl : Gl X x := by rfl) (hn : x ≠ "__name__" := by decide) (hdb : (x == ("__debug__" : Str)) = false := by decide)
    (he : starEach [a] X.env = (false, eval a X.env) :: starEach [] X.env := by rfl) (hpl : (backTo pos (starEach [] X.env)).any (·.1) = false := by rfl) : QE X (.Call (.Name x p) [a] [] pos) (tCB (rReprD X.K) (tCons ta tNil)) (dReprA da) := by
  refine ⟨pe_callB (call_reprD hg hu) hgl hm hv (pa_cons ha.pe pa_nil he) hn hdb he hpl, ?_⟩
  intro σ H S as en cs k Q r e q p
  refine ha.sem.use r e q fun z v S1 H1 as1 cs1 e1 r1 w1 q1 => ?_
  split at q1
  · rename_i d
    obtain ⟨⟨a1, a2, a3, a4, a5⟩, hk⟩ := q1
    exact ⟨v, _, rfl, resD_dp r1 w1 a1, a2, a3, a4, a5, p (.d (.str _)) _ S1 H1 as1 cs1 e1 r1 rfl hk⟩
  · exact q1.elim
end
end DL
set_option Elab.async false
set_option linter.all false
set_option maxRecDepth 100000
set_option maxHeartbeats 2000000
set_option autoImplicit false
namespace K10
open PySem L2 DL K01 PM PA
local macro_rules | `(tactic| walk_at "dl") => `(tactic| simp only [u_dPar3, u_dSeq, u_dNext, u_dOwn, u_dOwnE, u_dFld, u_dMake, u_dMeth, u_dProp, u_dIsiO, u_dCallI, u_dSortSet, u_dFrz, e_isC, e_rgO, e_rgn, e_rgi, e_rgs, e_rgb, e_rgt, e_rgl, e_fz1, e_fz2, le_lim, lt_lim, set_snoc0, e_srtI, u_dBreak, u_dCont, u_dDrop, u_dRet, u_dRetN, u_dIfS, u_dNever, u_dAsg, u_dPar, u_dPutK, u_dAppend, u_dExtend, u_dCall, u_dVar, u_dC, u_dOp, u_dChain, u_dUn, u_dB, u_dNot, u_dAnd, u_dOr, u_dAndV, u_dOrV, u_dNotV, u_dIf, u_dNil, u_dCons, u_dTup, u_dLst, u_dLstC, u_dCB, u_dInK, u_dGetK, u_dDicC, u_dNoPart, u_dPart, u_dSl, u_dBits, u_dRev, u_dgName, u_dgsNil, u_dgsCons, u_dgTup, u_dgSet, u_diSeq, u_diR1, e_diR2, e_r2, u_diEnum, u_diEnumU, u_diZip, endD, finZ_d, finD, finC, List.take_length, u_dYes, wipeD, ix0, ix1, ix2, get_snoc, set_snoc, take_snoc, u_dOpC, u_dSlC, u_dListC, e_addC, e_mulC, e_loCl, e_loCt, e_loCs, e_wd, e_wc0, e_wcs, e_wsn, e_wc1, e_wc2, e_wl0, e_wl1, e_dl0, e_dl1, e_sl, e_st, e_ss, e_addi, e_adds, e_addt, e_addl, e_sub, e_muli, e_mult, e_mull, e_fdiv, e_mod, e_pow, e_neg, e_lt, e_le, e_gt, e_ge, e_eqi, e_eqs, e_eql, e_eqt, e_eqb, e_eqn, e_nei, e_nes, e_nel, e_net, e_neb, e_nen, e_isb, e_isn, e_inb, e_inn, e_in1, e_in2, e_in3, e_in4, e_in5, e_ixt, e_ixl, e_ixs, e_at0, e_at1, e_at2, e_at3, e_at4, e_at5, e_atl, e_keyi, e_keys, e_lenl, e_lent, e_lens, e_lend, e_maxi, e_mini, e_maxl, e_minl, e_sum, e_all, e_any, e_inti, e_intb, e_abs, e_tol, e_tot, e_tos, e_lol, e_lot, e_los, e_sll, e_slt, e_rvl, e_rvt, e_repr, e_isi, e_srtl, e_srtt, List.map_cons, List.map_nil, List.length_cons, List.length_nil, List.cons_append, List.nil_append, List.flatten_cons, List.flatten_nil, List.append_nil, List.replicate_succ, List.replicate_zero, List.getElem?_cons_zero, List.getElem?_cons_succ, List.set_cons_zero, List.set_cons_succ, Nat.reduceSub, Nat.reduceAdd, Int.reduceToNat, Int.reduceLE, Int.reduceLT, Int.reduceNeg, Nat.reduceLeDiff, Nat.reduceLT, Nat.zero_add, Option.some.injEq, Z.d.injEq, Z.c.injEq, D.bl.injEq, D.int.injEq, D.tup.injEq, D.lst.injEq, List.take_succ_cons, List.take_zero, exists_eq_left', exists_eq_left, true_and, and_true, if_true, Bool.not_true, Bool.not_false, Bool.false_eq_true, if_false, decide_true, decide_false, n_vK])
theorem plat_out {H : List Row} {f : Int → Int} (z0 : ∀ h ∈ H, h.2.2 = 0) {out : List (List Int)} (p : out.Perm ((H.map (platR f)).map fun r => [r.1, r.2.1, r.2.2])) (st : out.Pairwise fun x y => lex3 (key3 y) (key3 x) = false) :
    ∃ H' : List Row, H'.Perm H ∧ H'.Pairwise (fun a b => a.1 ≤ b.1) ∧ out.map rowD = rowsT (H'.map (platR f)) := by
  obtain ⟨out, rfl, p2, st2⟩ := rows_sorted p st
  have eo : (out.map fun r => (r.1, r.2.1, (0 : Int))).map (platR f) = out := by
    rw [List.map_map]
    conv => rhs; rw [← List.map_id out]
    refine List.map_congr_left fun r hr => ?_
    obtain ⟨h, _, rfl⟩ := List.mem_map.mp (p2.mem_iff.mp hr)
    rfl
  refine ⟨out.map fun r => (r.1, r.2.1, (0 : Int)), ?_, by rw [List.pairwise_map]; exact st2, by rw [eo, rowsI]⟩
  have := p2.map fun r => (r.1, r.2.1, (0 : Int))
  rw [List.map_map] at this
  have e2 : H.map ((fun r => (r.1, r.2.1, (0 : Int))) ∘ platR f) = H := by
    conv => rhs; rw [← List.map_id H]
    refine List.map_congr_left fun r hr => ?_
    exact Prod.ext rfl (Prod.ext rfl (z0 r hr).symm)
  rw [e2] at this
  exact this
theorem gap_out {H : List Row} (z0 : ∀ h ∈ H, h.2.2 = 0) {out : List (List Int)} (p : out.Perm ((H.map gapR).map fun r => [r.1, r.2.1])) (st : out.Pairwise fun x y => lex3 (key3 y) (key3 x) = false) :
    ∃ H' : List Row, H'.Perm H ∧ H'.Pairwise (fun a b => a.1 ≤ b.1) ∧ out.map rowD = pairsT (H'.map gapR) := by
  obtain ⟨out, rfl, p2, st2⟩ := pairs_sorted (fun r hr => by obtain ⟨s, _, rfl⟩ := List.mem_map.mp hr; rfl) p st
  have eo : (out.map fun r => (r.1, r.2.1 + 1, (0 : Int))).map gapR = out := by
    rw [List.map_map]
    conv => rhs; rw [← List.map_id out]
    refine List.map_congr_left fun r hr => ?_
    obtain ⟨h, _, rfl⟩ := List.mem_map.mp (p2.mem_iff.mp hr)
    exact Prod.ext rfl (Prod.ext (by simp only [Function.comp, gapR, id]; omega) rfl)
  refine ⟨out.map fun r => (r.1, r.2.1 + 1, (0 : Int)), ?_, by rw [List.pairwise_map]; exact st2, by rw [eo, pairsI]⟩
  have := p2.map fun r => (r.1, r.2.1 + 1, (0 : Int))
  rw [List.map_map] at this
  have e2 : H.map ((fun r => (r.1, r.2.1 + 1, (0 : Int))) ∘ gapR) = H := by
    conv => rhs; rw [← List.map_id H]
    refine List.map_congr_left fun r hr => ?_
    exact Prod.ext rfl (Prod.ext (by simp only [Function.comp, gapR, id]; omega) (z0 r hr).symm)
  rw [e2] at this
  exact this
def sp_platoons (cA : Str → Addr) : DSpec := fun zs cs k => match zs with
  | [.d a] => ∃ c f rs, (a = psgD cA c rs ∧ Pas c f rs 100000 (10 ^ 150)) ∧ ∀ H, Holes c (Lst f) H → H.length ≤ rs.length → (k (.d (.lst (rowsT (H.map (platR f))))) cs ∨ k (.c cs.length) (cs ++ [.lst (rowsT (H.map (platR f)))]))
  | _ => False
theorem len_platoons (cA : Str → Addr) : ∀ zs cs q, (sp_platoons cA) zs cs q → zs.length = (["passage"] : List Str).length := fun zs cs q h => by
  unfold sp_platoons at h
  split at h
  · rfl
  · exact h.elim
def t_platoons (cA : Str → Addr) : DS :=
  (dSeq (dDrop (dCall (sp_require_passage cA) (dCons (dVar 0) dNil)))
  (dSeq (dAsg (dLstC dNil) (dgName 1))
  (dSeq (dAsg (dOp subD (dOp ixD (dOp ixD (dFld (cA "Passage") "own_runs" (dVar 0)) (dUn negD (dC (.int 1)))) (dC (.int 1))) (dFld (cA "Passage") "own_cycle" (dVar 0))) (dgName 2))
  (dSeq (dFor (diSeq (dFld (cA "Passage") "own_runs" (dVar 0))) (dgTup 3 (dgsCons (dgName 3) (dgsCons (dgName 4) (dgsCons (dgName 5) dgsNil)))) (dSeq (dIfS (dB (dOp ltD (dOp addD (dVar 2) (dC (.int 1))) (dVar 3))) (dSeq (dAsg (dOp subD (dC (.int 0)) (dOp mulD (dOp fdivD (dOp addD (dVar 2) (dC (.int 1))) (dFld (cA "Passage") "own_cycle" (dVar 0))) (dFld (cA "Passage") "own_cycle" (dVar 0)))) (dgName 6))
  (dDrop (dAppend (dVar 1) (dCall sp_moved_row (dCons (dTup (dCons (dOp addD (dVar 2) (dC (.int 1))) (dCons (dVar 3) (dCons (dVar 5) dNil)))) (dCons (dVar 6) dNil)))))) dNext)
  (dLock (dAsg (dVar 4) (dgName 2)))))
  (dFrz 1 (dRet (dSortC (dVar 1))))))))
theorem rd_platoons (cA : Str → Addr) : ∀ zs cs q, (sp_platoons cA) zs cs q → t_platoons cA (endD cs.length q) (startD ["passage", "found", "ahead", "first", "last", "arrival", "by"] zs) cs := fun zs cs q h => by
  unfold sp_platoons at h
  split at h
  rotate_left
  · exact h.elim
  rename_i a
  simp only [startD, List.map_cons, List.map_nil, List.length_cons, List.length_nil, Nat.reduceAdd, Nat.zero_add, Nat.reduceSub, List.replicate_zero, List.replicate_succ, List.cons_append, List.nil_append, List.append_nil]
  obtain ⟨c, f, rs, ⟨rfl, P⟩, h⟩ := h
  have hc := P.psg.pos
  have cle := P.cle
  have pl := P.len
  obtain ⟨rl, W⟩ := walk_of P
  have ml := List.mem_of_getLast? W.last
  obtain ⟨_, _, _, _, _, l0, l1, l2, _, l3⟩ := W.run rl ml
  have lastE : ∀ k : D → Prop, atD (rowsT rs) (-1) k = k (rowT rl) := fun k => by
    obtain ⟨l, e⟩ := List.getLast?_eq_some_iff.mp W.last
    subst e
    exact e_at (at_m1R _ _)
  unfold t_platoons
  simp only [psgD]
  try walk_at "dl"
  simp only [sp_require_passage]
  refine ⟨trivial, ?_⟩
  try walk_at "dl"
  refine ⟨.tup (rowsT rs), rfl, ?_⟩
  try walk_at "dl"
  rw [lastE]
  simp only [rowT]
  try walk_at "dl"
  refine ⟨.int c, rfl, ?_⟩
  try walk_at "dl"
  have sc : Sm c := Sm.of (by omega) (by omega)
  have LP := lst_per' P.psg
  refine dFor_mk (rowsT rs) yes (cs ++ [.lst []]) (fun K h => by walk_at "dl"; refine ⟨.tup (rowsT rs), rfl, ?_⟩; walk_at "dl"; exact h)
    (fun i en cx => ∃ (H : List Row) (a : Int) (o3 o4 o5 o6 : Option Z), en = [some (.d (.ob (cA "Passage") ["own_cycle", "own_runs"] [.int c, .tup (rowsT rs)])), some (.c cs.length), some (.d (.int a)), o3, o4, o5, o6] ∧ cx = cs ++ [.lst (rowsT (H.map (platR f)))] ∧ H.length ≤ i ∧ Part2 c (Lst f) (rl.2.1 - c) a H ∧ Lst f a ∧ rl.2.1 - c ≤ a ∧ a ≤ rl.2.1 ∧
      (H.map hlen).sum + ((rs.take i).map lenR).sum = a - (rl.2.1 - c) ∧ (∀ r, rs[i]? = some r → At f r (a + 1) ∧ a < r.1) ∧ (i = rs.length → a = rl.2.1))
    ⟨[], rl.2.1 - c, _, _, _, _, rfl, rfl, by simp, Part2.nil hc _, W.lst0, Int.le_refl _, by omega, by simp, W.first, fun e => ?_⟩ (fun i d en cx hd hI => ?_) (fun en cx hI => ?_) (fun _ _ _ _ => trivial)
  · have := List.length_pos_of_mem ml
    omega
  · obtain ⟨H, a, o3, o4, o5, o6, rfl, rfl, hl, P2, la, a0, a1, sm, nx, _⟩ := hI
    obtain ⟨r, hr, rfl⟩ := get_rowsT hd
    have il := (List.getElem?_eq_some_iff.mp hr).1
    obtain ⟨q1, q2, q3, q4, q5, q6, q7, q8, q9, q10⟩ := W.run r (List.mem_of_getElem? hr)
    obtain ⟨qa, ql⟩ := nx r hr
    have stp := P2.step hc LP a0 la ql q8 (by omega) (fun y h1 h2 => qa.no y (by omega) h2) (fun y h1 h2 => (q3 y h1 h2).1)
    have nx' : ∀ s, rs[i + 1]? = some s → At f s (r.2.1 + 1) ∧ r.2.1 < s.1 := fun s hs => W.next i r s hr hs
    have lst' : i + 1 = rs.length → r.2.1 = rl.2.1 := fun e => by
      have hrl := W.last
      rw [List.getLast?_eq_getElem?, show rs.length - 1 = i by omega, hr] at hrl
      cases hrl
      rfl
    have sm' := sumR_take lenR hr
    have lr : Lst f r.2.1 := (q3 r.2.1 q8 (Int.le_refl _)).1
    have sl : lenR r = r.2.1 - r.1 + 1 := rfl
    simp only [rowT]
    try walk_at "dl"
    by_cases e : a + 1 < r.1
    · simp only [e, decide_true, if_true]
      rw [if_pos e] at stp
      refine ⟨.int c, rfl, ?_⟩
      try walk_at "dl"
      refine ⟨dv_c hc cle, .int c, rfl, ?_⟩
      try walk_at "dl"
      refine ⟨⟨sm_div ⟨by omega, by omega⟩ hc, sc⟩, ?_⟩
      simp only [sp_moved_row]
      try walk_at "dl"
      refine ⟨lim_lt (by rw [len_rowsT, List.length_map]; omega), ?_⟩
      unfold dLock
      try walk_at "dl"
      have fs : r.2.2 + (0 - (a + 1) / c * c) = f (r.1 + up c a) := by
        have := P.psg.perK (-((a + 1) / c)) r.1
        rw [Int.neg_mul] at this
        unfold up
        rw [show r.1 + (0 - (a + 1) / c * c) = r.1 + -((a + 1) / c * c) by omega, this]
        omega
      refine .inl ⟨_, r.2.1, _, _, _, _, rfl, ?_, by rw [List.length_append]; simp only [List.length_cons, List.length_nil]; omega, stp, lr, by omega, q9, ?_, nx', lst'⟩
      · rw [List.map_append]
        unfold rowsT
        rw [List.map_append]
        simp only [List.map_cons, List.map_nil, platR, rowT, mv]
        rw [fs]
        rfl
      · have hh : hlen (a + 1 + up c a, r.1 + up c a, 0) = r.1 - a - 1 := by unfold hlen; simp only; omega
        rw [List.map_append, List.sum_append, sm', sl, List.map_cons, List.map_nil, List.sum_cons, List.sum_nil, hh]
        omega
    · simp only [e, decide_false, Bool.false_eq_true, if_false]
      rw [if_neg e] at stp
      unfold dLock
      try walk_at "dl"
      exact .inl ⟨H, r.2.1, _, _, _, _, rfl, rfl, by omega, stp, lr, by omega, q9, by rw [sm', sl]; omega, nx', lst'⟩
  · obtain ⟨H, a, o3, o4, o5, o6, rfl, rfl, hl, P2, la, a0, a1, sm, nx, e⟩ := hI
    rw [len_rowsT] at e hl sm
    have e := e rfl
    subst e
    rw [List.take_length] at sm
    try walk_at "dl"
    intro nb
    rw [u_dSortC]
    walk_at "dl"
    rw [e_stCl]
    refine ⟨_, 3, rowsI _, ⟨by decide, by decide, fun r hr => ?_⟩, fun out p st => ?_⟩
    · obtain ⟨s, _, rfl⟩ := List.mem_map.mp hr
      rfl
    · obtain ⟨H', p', st', eo⟩ := plat_out (fun h hh => ((P2.mem h).mp hh).2.2.1.1) p st
      have hol := Part2.holes hc (a0 := rl.2.1 - c) (H := H) (by rw [show rl.2.1 - c + c = rl.2.1 by omega]; exact P2) p' st'
      rw [eo]
      rcases h _ hol (by rw [p'.length_eq]; exact hl) with h | h
      · refine finZ_froz (by simp) (get_snoc _ _) ?_
        rw [List.append_assoc, List.take_left]
        exact h
      · refine finZ_new (by simp) (get_snoc _ _) ?_
        rw [List.append_assoc, List.take_left]
        exact h
def sp_gaps (cA : Str → Addr) : DSpec := fun zs cs k => match zs with
  | [.d a] => ∃ c f rs, (a = psgD cA c rs ∧ Pas c f rs 100000 (10 ^ 150)) ∧ ∀ H, Holes c (Im f) H → H.length ≤ rs.length → (k (.d (.lst (pairsT (H.map gapR)))) cs ∨ k (.c cs.length) (cs ++ [.lst (pairsT (H.map gapR))]))
  | _ => False
theorem len_gaps (cA : Str → Addr) : ∀ zs cs q, (sp_gaps cA) zs cs q → zs.length = (["passage"] : List Str).length := fun zs cs q h => by
  unfold sp_gaps at h
  split at h
  · rfl
  · exact h.elim
def t_gaps (cA : Str → Addr) : DS :=
  (dSeq (dDrop (dCall (sp_require_passage cA) (dCons (dVar 0) dNil)))
  (dSeq (dAsg (dLstC dNil) (dgName 1))
  (dSeq (dAsg (dFld (cA "Passage") "own_cycle" (dVar 0)) (dgName 2))
  (dSeq (dAsg (dOp ixD (dFld (cA "Passage") "own_runs" (dVar 0)) (dUn negD (dC (.int 1)))) (dgName 3))
  (dSeq (dAsg (dOp subD (dOp subD (dOp addD (dOp ixD (dVar 3) (dC (.int 2))) (dOp ixD (dVar 3) (dC (.int 1)))) (dOp ixD (dVar 3) (dC (.int 0)))) (dVar 2)) (dgName 4))
  (dSeq (dFor (diSeq (dFld (cA "Passage") "own_runs" (dVar 0))) (dgName 5) (dSeq (dIfS (dB (dOp ltD (dOp addD (dVar 4) (dC (.int 1))) (dOp ixD (dVar 5) (dC (.int 2))))) (dSeq (dAsg (dOp subD (dC (.int 0)) (dOp mulD (dOp fdivD (dOp addD (dVar 4) (dC (.int 1))) (dVar 2)) (dVar 2))) (dgName 6))
  (dDrop (dAppend (dVar 1) (dTup (dCons (dOp addD (dOp addD (dVar 4) (dC (.int 1))) (dVar 6)) (dCons (dOp addD (dOp subD (dOp ixD (dVar 5) (dC (.int 2))) (dC (.int 1))) (dVar 6)) dNil)))))) dNext)
  (dLock (dAsg (dOp subD (dOp addD (dOp ixD (dVar 5) (dC (.int 2))) (dOp ixD (dVar 5) (dC (.int 1)))) (dOp ixD (dVar 5) (dC (.int 0)))) (dgName 4)))))
  (dFrz 1 (dRet (dSortC (dVar 1))))))))))
theorem rd_gaps (cA : Str → Addr) : ∀ zs cs q, (sp_gaps cA) zs cs q → t_gaps cA (endD cs.length q) (startD ["passage", "found", "cycle", "last", "ahead", "row", "by"] zs) cs := fun zs cs q h => by
  unfold sp_gaps at h
  split at h
  rotate_left
  · exact h.elim
  rename_i a
  simp only [startD, List.map_cons, List.map_nil, List.length_cons, List.length_nil, Nat.reduceAdd, Nat.zero_add, Nat.reduceSub, List.replicate_zero, List.replicate_succ, List.cons_append, List.nil_append, List.append_nil]
  obtain ⟨c, f, rs, ⟨rfl, P⟩, h⟩ := h
  have hc := P.psg.pos
  have cle := P.cle
  have pl := P.len
  obtain ⟨rl, W⟩ := walk_of P
  have ml := List.mem_of_getLast? W.last
  obtain ⟨l4, l5, l6, l7, l8, l0, l1, l2, l9, l3⟩ := W.run rl ml
  have lastE : ∀ k : D → Prop, atD (rowsT rs) (-1) k = k (rowT rl) := fun k => by
    obtain ⟨l, e⟩ := List.getLast?_eq_some_iff.mp W.last
    subst e
    exact e_at (at_m1R _ _)
  unfold t_gaps
  simp only [psgD]
  try walk_at "dl"
  simp only [sp_require_passage]
  refine ⟨trivial, ?_⟩
  try walk_at "dl"
  refine ⟨.int c, rfl, .tup (rowsT rs), rfl, ?_⟩
  try walk_at "dl"
  rw [lastE]
  simp only [rowT]
  try walk_at "dl"
  have sc : Sm c := Sm.of (by omega) (by omega)
  have IP := im_per P.psg
  have b0e : rl.2.2 + rl.2.1 - rl.1 - c = f (rl.2.1 - c) := by have := W.per0; omega
  rw [b0e]
  refine dFor_mk (rowsT rs) yes (cs ++ [.lst []]) (fun K h => by walk_at "dl"; refine ⟨.tup (rowsT rs), rfl, ?_⟩; walk_at "dl"; exact h)
    (fun i en cx => ∃ (H : List Row) (a : Int) (o5 o6 : Option Z), en = [some (.d (.ob (cA "Passage") ["own_cycle", "own_runs"] [.int c, .tup (rowsT rs)])), some (.c cs.length), some (.d (.int c)), some (.d (.tup [.int rl.1, .int rl.2.1, .int rl.2.2])), some (.d (.int (f a))), o5, o6] ∧ cx = cs ++ [.lst (pairsT (H.map gapR))] ∧ H.length ≤ i ∧ Part2 c (Im f) (f (rl.2.1 - c)) (f a) H ∧ Lst f a ∧ rl.2.1 - c ≤ a ∧ a ≤ rl.2.1 ∧
      (H.map hlen).sum + ((rs.take i).map lenR).sum = f a - f (rl.2.1 - c) ∧ (∀ r, rs[i]? = some r → At f r (a + 1) ∧ a < r.1) ∧ (i = rs.length → a = rl.2.1))
    ⟨[], rl.2.1 - c, _, _, rfl, rfl, by simp, Part2.nil hc _, W.lst0, Int.le_refl _, by omega, by simp, W.first, fun e => ?_⟩ (fun i d en cx hd hI => ?_) (fun en cx hI => ?_) (fun _ _ _ _ => trivial)
  · have := List.length_pos_of_mem ml
    omega
  · obtain ⟨H, a, o5, o6, rfl, rfl, hl, P2, la, a0, a1, sm, nx, _⟩ := hI
    obtain ⟨r, hr, rfl⟩ := get_rowsT hd
    have il := (List.getElem?_eq_some_iff.mp hr).1
    obtain ⟨q1, q2, q3, q4, q5, q6, q7, q8, q9, q10⟩ := W.run r (List.mem_of_getElem? hr)
    obtain ⟨qa, ql⟩ := nx r hr
    have va := qa.val P.psg
    have e1 : f (a + 1) = r.2.2 := by omega
    have la' := la
    unfold Lst at la'
    have mo0 := P.psg.mono _ _ a0
    have mo1 := P.psg.mono _ _ q9
    have pr0 := W.per0
    have stp := P2.step hc IP mo0 ⟨a, rfl⟩ (s := r.2.2) (l := f r.2.1) (by omega) (by omega) (by omega) (fun y h1 h2 ⟨x, e⟩ => by
      rcases Int.lt_or_le a x with z | z
      · have := P.psg.mono (a + 1) x (by omega); omega
      · have := P.psg.mono x a z; omega) (fun y h1 h2 => ⟨r.1 + (y - r.2.2), by have := (q3 (r.1 + (y - r.2.2)) (by omega) (by omega)).2; omega⟩)
    have nx' : ∀ s, rs[i + 1]? = some s → At f s (r.2.1 + 1) ∧ r.2.1 < s.1 := fun s hs => W.next i r s hr hs
    have lst' : i + 1 = rs.length → r.2.1 = rl.2.1 := fun e => by
      have hrl := W.last
      rw [List.getLast?_eq_getElem?, show rs.length - 1 = i by omega, hr] at hrl
      cases hrl
      rfl
    have sm' := sumR_take lenR hr
    have lr : Lst f r.2.1 := (q3 r.2.1 q8 (Int.le_refl _)).1
    have er : r.2.2 + r.2.1 - r.1 = f r.2.1 := by omega
    have sl : lenR r = r.2.1 - r.1 + 1 := rfl
    simp only [rowT]
    try walk_at "dl"
    by_cases e : f a + 1 < r.2.2
    · simp only [e, decide_true, if_true]
      rw [if_pos e] at stp
      have bdA : Bd (f a + 1) := ⟨by omega, by omega⟩
      refine ⟨dv_c hc cle, ⟨sm_div bdA hc, sc⟩, lim_lt (by rw [len_pairsT, List.length_map]; omega), ?_⟩
      unfold dLock
      try walk_at "dl"
      refine .inl ⟨_, r.2.1, _, _, by rw [er], ?_, by rw [List.length_append]; simp only [List.length_cons, List.length_nil]; omega, stp, lr, by omega, q9, ?_, nx', lst'⟩
      · rw [List.map_append]
        unfold pairsT
        rw [List.map_append]
        simp only [List.map_cons, List.map_nil, gapR, pairT, up]
        rw [show r.2.2 + (0 - (f a + 1) / c * c) - 1 = r.2.2 - 1 + (0 - (f a + 1) / c * c) by omega]
      · have hh : hlen (f a + 1 + up c (f a), r.2.2 + up c (f a), 0) = r.2.2 - f a - 1 := by unfold hlen; simp only; omega
        rw [List.map_append, List.sum_append, sm', sl, List.map_cons, List.map_nil, List.sum_cons, List.sum_nil, hh]
        omega
    · simp only [e, decide_false, Bool.false_eq_true, if_false]
      rw [if_neg e] at stp
      unfold dLock
      try walk_at "dl"
      exact .inl ⟨H, r.2.1, _, _, by rw [er], rfl, by omega, stp, lr, by omega, q9, by rw [sm', sl]; omega, nx', lst'⟩
  · obtain ⟨H, a, o5, o6, rfl, rfl, hl, P2, la, a0, a1, sm, nx, e⟩ := hI
    rw [len_rowsT] at e hl sm
    have e := e rfl
    subst e
    rw [List.take_length] at sm
    have pr0 := W.per0
    try walk_at "dl"
    intro nb
    rw [u_dSortC]
    walk_at "dl"
    rw [e_stCl]
    refine ⟨_, 2, pairsI _, ⟨by decide, by decide, fun r hr => ?_⟩, fun out p st => ?_⟩
    · obtain ⟨s, _, rfl⟩ := List.mem_map.mp hr
      rfl
    · obtain ⟨H', p', st', eo⟩ := gap_out (fun h hh => ((P2.mem h).mp hh).2.2.1.1) p st
      have hol := Part2.holes hc (a0 := f (rl.2.1 - c)) (H := H) (by rw [← pr0]; exact P2) p' st'
      rw [eo]
      rcases h _ hol (by rw [p'.length_eq]; exact hl) with h | h
      · refine finZ_froz (by simp) (get_snoc _ _) ?_
        rw [List.append_assoc, List.take_left]
        exact h
      · refine finZ_new (by simp) (get_snoc _ _) ?_
        rw [List.append_assoc, List.take_left]
        exact h
end K10
set_option Elab.async false
set_option linter.all false
set_option maxRecDepth 100000
set_option maxHeartbeats 2000000
set_option autoImplicit false
namespace K10
open PySem L2 DL K01 PM PA
local macro_rules | `(tactic| walk_at "dl") => `(tactic| simp only [u_dPar3, u_dSeq, u_dNext, u_dOwn, u_dOwnE, u_dFld, u_dMake, u_dMeth, u_dProp, u_dIsiO, u_dCallI, u_dSortSet, u_dFrz, e_isC, e_rgO, e_rgn, e_rgi, e_rgs, e_rgb, e_rgt, e_rgl, e_fz1, e_fz2, le_lim, lt_lim, set_snoc0, e_srtI, u_dBreak, u_dCont, u_dDrop, u_dRet, u_dRetN, u_dIfS, u_dNever, u_dAsg, u_dPar, u_dPutK, u_dAppend, u_dExtend, u_dCall, u_dVar, u_dC, u_dOp, u_dChain, u_dUn, u_dB, u_dNot, u_dAnd, u_dOr, u_dAndV, u_dOrV, u_dNotV, u_dIf, u_dNil, u_dCons, u_dTup, u_dLst, u_dLstC, u_dCB, u_dInK, u_dGetK, u_dDicC, u_dNoPart, u_dPart, u_dSl, u_dBits, u_dRev, u_dgName, u_dgsNil, u_dgsCons, u_dgTup, u_dgSet, u_diSeq, u_diR1, e_diR2, e_r2, u_diEnum, u_diEnumU, u_diZip, endD, finZ_d, finD, finC, List.take_length, u_dYes, wipeD, ix0, ix1, ix2, get_snoc, set_snoc, take_snoc, u_dOpC, u_dSlC, u_dListC, e_addC, e_mulC, e_loCl, e_loCt, e_loCs, e_wd, e_wc0, e_wcs, e_wsn, e_wc1, e_wc2, e_wl0, e_wl1, e_dl0, e_dl1, e_sl, e_st, e_ss, e_addi, e_adds, e_addt, e_addl, e_sub, e_muli, e_mult, e_mull, e_fdiv, e_mod, e_pow, e_neg, e_lt, e_le, e_gt, e_ge, e_eqi, e_eqs, e_eql, e_eqt, e_eqb, e_eqn, e_nei, e_nes, e_nel, e_net, e_neb, e_nen, e_isb, e_isn, e_inb, e_inn, e_in1, e_in2, e_in3, e_in4, e_in5, e_ixt, e_ixl, e_ixs, e_at0, e_at1, e_at2, e_at3, e_at4, e_at5, e_atl, e_keyi, e_keys, e_lenl, e_lent, e_lens, e_lend, e_maxi, e_mini, e_maxl, e_minl, e_sum, e_all, e_any, e_inti, e_intb, e_abs, e_tol, e_tot, e_tos, e_lol, e_lot, e_los, e_sll, e_slt, e_rvl, e_rvt, e_repr, e_isi, e_srtl, e_srtt, List.map_cons, List.map_nil, List.length_cons, List.length_nil, List.cons_append, List.nil_append, List.flatten_cons, List.flatten_nil, List.append_nil, List.replicate_succ, List.replicate_zero, List.getElem?_cons_zero, List.getElem?_cons_succ, List.set_cons_zero, List.set_cons_succ, Nat.reduceSub, Nat.reduceAdd, Int.reduceToNat, Int.reduceLE, Int.reduceLT, Int.reduceNeg, Nat.reduceLeDiff, Nat.reduceLT, Nat.zero_add, Option.some.injEq, Z.d.injEq, Z.c.injEq, D.bl.injEq, D.int.injEq, D.tup.injEq, D.lst.injEq, List.take_succ_cons, List.take_zero, exists_eq_left', exists_eq_left, true_and, and_true, if_true, Bool.not_true, Bool.not_false, Bool.false_eq_true, if_false, decide_true, decide_false, n_vK])
/-- what the loop over drawn rows knows -/
structure WalkF (c : Int) (f : Int → Int) (rs : List Row) (rl : Row) : Prop where
  last : rs.getLast? = some rl
  run : ∀ r ∈ rs, r.2.2 = f r.1 ∧ f r.2.1 = r.2.2 + (r.2.1 - r.1) ∧ (∀ y, r.1 ≤ y → y ≤ r.2.1 → Lst f y ∧ f y = r.2.2 + (y - r.1)) ∧ BdR r ∧ r.1 ≤ r.2.1 ∧ r.2.1 ≤ rl.2.1
  first : ∀ r, rs[0]? = some r → At f r (rl.2.1 - c + 1) ∧ rl.2.1 - c < r.1
  next : ∀ (i : Nat) (r s : Row), rs[i]? = some r → rs[i + 1]? = some s → At f s (r.2.1 + 1) ∧ r.2.1 < s.1
  lst0 : Lst f (rl.2.1 - c)
  per0 : f rl.2.1 = f (rl.2.1 - c) + c
theorem walkF_of {c b v : Int} {f : Int → Int} {F : List Row} (R : RowsOk c f F) (W : Win c b v F (b + c) (v + c)) : ∃ rl, WalkF c f F rl := by
  have hc := R.psg.pos
  obtain ⟨rl, hrl⟩ : ∃ rl, F.getLast? = some rl := by
    cases q : F.getLast? with
    | none => exact absurd (List.getLast?_eq_none_iff.mp q) R.val.ne
    | some a => exact ⟨a, rfl⟩
  have ml := List.mem_of_getLast? hrl
  have srt : ∀ {i j : Nat} {r s : Row}, F[i]? = some r → F[j]? = some s → i < j → Bef r s := fun {i j r s} hi hj l => by
    obtain ⟨h1, rfl⟩ := List.getElem?_eq_some_iff.mp hi
    obtain ⟨h2, rfl⟩ := List.getElem?_eq_some_iff.mp hj
    exact (List.pairwise_iff_getElem.mp R.val.bef) i j h1 h2 l
  have lastMost : ∀ r ∈ F, r.2.1 ≤ rl.2.1 := fun r hr => by
    obtain ⟨j, hj⟩ := List.getElem?_of_mem hr
    have hl : F[F.length - 1]? = some rl := by rw [← hrl, List.getLast?_eq_getElem?]
    have := (List.getElem?_eq_some_iff.mp hj).1
    by_cases q : j = F.length - 1
    · rw [q, hl] at hj
      cases hj
      exact Int.le_refl _
    · have b := srt hj hl (by omega)
      have o := R.val.ok rl ml
      simp only [Bef] at b
      omega
  have run : ∀ r ∈ F, r.2.2 = f r.1 ∧ f r.2.1 = r.2.2 + (r.2.1 - r.1) ∧ (∀ y, r.1 ≤ y → y ≤ r.2.1 → Lst f y ∧ f y = r.2.2 + (y - r.1)) ∧ BdR r ∧ r.1 ≤ r.2.1 ∧ r.2.1 ≤ rl.2.1 := fun r hr => by
    have o := R.val.ok r hr
    have e := (R.cov.on r hr r.1 r.2.2 ⟨Int.le_refl _, o, by omega⟩).2
    have e2 := R.cov.on r hr r.2.1 (r.2.2 + (r.2.1 - r.1)) ⟨o, Int.le_refl _, rfl⟩
    exact ⟨by omega, e2.2, fun y h1 h2 => R.cov.on r hr y _ ⟨h1, h2, rfl⟩, R.bd r hr, o, lastMost r hr⟩
  have far : ∀ (t : Row), t ∈ F → b ≤ t.1 ∧ t.1 ≤ t.2.1 ∧ t.2.1 < b + c := fun t ht => by
    have := W.rng t ht
    have := W.ok t ht
    omega
  refine ⟨rl, hrl, run, fun r hr => ?_, fun i r s hr hs => ?_, ?_, ?_⟩
  · have m := List.mem_of_getElem? hr
    have fr := far r m
    have fl := far rl ml
    refine ⟨⟨R.val.ok r m, by omega, R.cov.on r m, fun y h1 h2 hl => ?_⟩, by omega⟩
    obtain ⟨t, ht, k, o⟩ := R.cov.ex y hl
    have ft := far t ht
    have lm := lastMost t ht
    have hd : r.1 ≤ t.1 := by
      obtain ⟨j, hjj⟩ := List.getElem?_of_mem ht
      rcases Nat.eq_zero_or_pos j with z | z
      · subst z
        rw [hr] at hjj
        cases hjj
        exact Int.le_refl _
      · have := srt hr hjj z
        have := R.val.ok r m
        simp only [Bef] at *
        omega
    simp only [On] at o
    rcases Int.lt_or_le 0 k with l | l
    · have := mul_step (show 0 + 1 ≤ k by omega) (show 0 ≤ c by omega)
      omega
    · have := Int.mul_nonneg (show 0 ≤ -k by omega) (show 0 ≤ c by omega)
      rw [Int.neg_mul] at this
      omega
  · have bf := srt hr hs (by omega)
    have mr := List.mem_of_getElem? hr
    have ms := List.mem_of_getElem? hs
    have fr := far r mr
    have fs := far s ms
    simp only [Bef] at bf
    refine ⟨⟨R.val.ok s ms, by omega, R.cov.on s ms, fun y h1 h2 hl => ?_⟩, by omega⟩
    obtain ⟨t, ht, k, o⟩ := R.cov.ex y hl
    have ft := far t ht
    simp only [On] at o
    rcases Int.lt_trichotomy k 0 with l | l | l
    · have := mul_step (show k + 1 ≤ 0 by omega) (show 0 ≤ c by omega)
      omega
    · subst l
      obtain ⟨j, hjj⟩ := List.getElem?_of_mem ht
      rcases Nat.lt_trichotomy j i with q | q | q
      · have := srt hjj hr q
        simp only [Bef] at this
        omega
      · subst q
        rw [hr] at hjj
        cases hjj
        omega
      · by_cases z : j = i + 1
        · subst z
          rw [hs] at hjj
          cases hjj
          omega
        · have := srt hs hjj (by omega)
          simp only [Bef] at this
          omega
    · have := mul_step (show 0 + 1 ≤ k by omega) (show 0 ≤ c by omega)
      omega
  · have l := lst_per R.psg (-1) rl.2.1
    rw [show rl.2.1 + -1 * c = rl.2.1 - c by omega] at l
    have r := run rl ml
    exact l.mpr (r.2.2.1 rl.2.1 r.2.2.2.2.1 (Int.le_refl _)).1
  · have := R.psg.per (rl.2.1 - c)
    rw [show rl.2.1 - c + c = rl.2.1 by omega] at this
    exact this
theorem s2a (cs : Cs) (x y z : D) : (cs ++ [x, y]).set cs.length z = cs ++ [z, y] := by simp
theorem s2b (cs : Cs) (x y z : D) : (cs ++ [x, y]).set (cs.length + 1) z = cs ++ [x, z] := by simp
theorem g2a (cs : Cs) (x y : D) : (cs ++ [x, y])[cs.length]? = some x := by simp
theorem g2b (cs : Cs) (x y : D) : (cs ++ [x, y])[cs.length + 1]? = some y := by simp
theorem w2a (cs : Cs) (x y : D) (k : D → Prop) : withD (cs ++ [x, y]) (.c cs.length) k = k x := by
  unfold withD
  simp only [g2a]
theorem w2b (cs : Cs) (x y : D) (k : D → Prop) : withD (cs ++ [x, y]) (.c (cs.length + 1)) k = k y := by
  unfold withD
  simp only [g2b]
theorem a2 (cs : Cs) (x y : D) : cs ++ [x] ++ [y] = cs ++ [x, y] := by simp
theorem l2 (cs : Cs) (x : D) : (cs ++ [x]).length = cs.length + 1 := by simp
def sp_l_same : DSpec := fun zs cs k => match zs with
  | [.d a, .d b] => (resD cs a = b ∧ resD cs b = b ∧ RpOk b) ∧ k (.d (.bl true)) cs
  | _ => False
theorem len_l_same : ∀ zs cs q, sp_l_same zs cs q → zs.length = (["_law_actual", "_law_expected"] : List Str).length := fun zs cs q h => by
  unfold sp_l_same at h
  split at h
  · rfl
  · exact h.elim
def t_l_same : DS :=
  (dRet (dOp eqUD (dReprA (dVar 0)) (dReprA (dVar 1))))
theorem rd_l_same : ∀ zs cs q, sp_l_same zs cs q → t_l_same (endD cs.length q) (startD ["_law_actual", "_law_expected"] zs) cs := fun zs cs q h => by
  unfold sp_l_same at h
  split at h
  rotate_left
  · exact h.elim
  rename_i a b
  simp only [startD, List.map_cons, List.map_nil, List.length_cons, List.length_nil, Nat.reduceAdd, Nat.zero_add, Nat.reduceSub, List.replicate_zero, List.replicate_succ, List.cons_append, List.nil_append, List.append_nil]
  obtain ⟨⟨e1, e2, ok⟩, h⟩ := h
  unfold t_l_same
  walk_at "dl"
  simp only [u_dReprA]
  walk_at "dl"
  rw [e1, e2]
  refine ⟨ok, ok, ?_⟩
  walk_at "dl"
  exact h
def sp_l_rows_due : DSpec := fun zs cs k => match zs with
  | [.d (.int c), .d (.lst xs)] => ∃ F f b v, xs = rowsT F ∧ (RowsOk c f F ∧ Win c b v F (b + c) (v + c) ∧ F.length ≤ 1000) ∧ ∀ H H', Holes c (Lst f) H → Holes c (Im f) H' → H.length ≤ F.length → H'.length ≤ F.length → k (.d (.lst [.lst (rowsT (H.map (platR f))), .lst (pairsT (H'.map gapR))])) cs
  | _ => False
theorem len_l_rows_due : ∀ zs cs q, sp_l_rows_due zs cs q → zs.length = (["_law_cycle_here", "_law_rows_here"] : List Str).length := fun zs cs q h => by
  unfold sp_l_rows_due at h
  split at h
  · rfl
  · exact h.elim
def t_l_rows_due : DS :=
  (dSeq (dPar 2 3 (dCons (dLstC dNil) (dCons (dLstC dNil) dNil)))
  (dSeq (dAsg (dTup (dCons (dOp subD (dOp ixD (dOp ixD (dVar 1) (dUn negD (dC (.int 1)))) (dC (.int 1))) (dVar 0)) (dCons (dOp subD (dOp subD (dOp addD (dOp ixD (dOp ixD (dVar 1) (dUn negD (dC (.int 1)))) (dC (.int 2))) (dOp ixD (dOp ixD (dVar 1) (dUn negD (dC (.int 1)))) (dC (.int 1)))) (dOp ixD (dOp ixD (dVar 1) (dUn negD (dC (.int 1)))) (dC (.int 0)))) (dVar 0)) dNil))) (dgName 4))
  (dSeq (dFor (diSeq (dVar 1)) (dgTup 3 (dgsCons (dgName 5) (dgsCons (dgName 6) (dgsCons (dgName 7) dgsNil)))) (dSeq (dIfS (dB (dOp gtD (dVar 5) (dOp addD (dOp ixD (dVar 4) (dC (.int 0))) (dC (.int 1))))) (dSeq (dAsg (dOp mulD (dOp fdivD (dOp addD (dOp ixD (dVar 4) (dC (.int 0))) (dC (.int 1))) (dVar 0)) (dVar 0)) (dgName 8))
  (dDrop (dAppend (dVar 2) (dTup (dCons (dOp subD (dOp addD (dOp ixD (dVar 4) (dC (.int 0))) (dC (.int 1))) (dVar 8)) (dCons (dOp subD (dVar 5) (dVar 8)) (dCons (dOp subD (dVar 7) (dVar 8)) dNil))))))) dNext)
  (dLock (dSeq (dIfS (dB (dOp gtD (dVar 7) (dOp addD (dOp ixD (dVar 4) (dC (.int 1))) (dC (.int 1))))) (dSeq (dAsg (dOp mulD (dOp fdivD (dOp addD (dOp ixD (dVar 4) (dC (.int 1))) (dC (.int 1))) (dVar 0)) (dVar 0)) (dgName 8))
  (dDrop (dAppend (dVar 3) (dTup (dCons (dOp subD (dOp addD (dOp ixD (dVar 4) (dC (.int 1))) (dC (.int 1))) (dVar 8)) (dCons (dOp subD (dOp subD (dVar 7) (dC (.int 1))) (dVar 8)) dNil)))))) dNext)
  (dLock (dAsg (dTup (dCons (dVar 6) (dCons (dOp subD (dOp addD (dVar 7) (dVar 6)) (dVar 5)) dNil))) (dgName 4)))))))
  (dFrz 3 (dFrz 2 (dRet (dLst (dCons (dCB sortedRD (dCons (dVar 2) dNil)) (dCons (dCB sortedRD (dCons (dVar 3) dNil)) dNil)))))))))
theorem rd_l_rows_due : ∀ zs cs q, sp_l_rows_due zs cs q → t_l_rows_due (endD cs.length q) (startD ["_law_cycle_here", "_law_rows_here", "_law_found", "_law_empty", "_law_ahead", "_law_first", "_law_last", "_law_arrival", "_law_by"] zs) cs := fun zs cs q h => by
  unfold sp_l_rows_due at h
  split at h
  rotate_left
  · exact h.elim
  rename_i c xs
  simp only [startD, List.map_cons, List.map_nil, List.length_cons, List.length_nil, Nat.reduceAdd, Nat.zero_add, Nat.reduceSub, List.replicate_zero, List.replicate_succ, List.cons_append, List.nil_append, List.append_nil]
  obtain ⟨F, f, b, v, rfl, ⟨R, Wi, fl⟩, h⟩ := h
  have hc := R.psg.pos
  have cle := R.cle
  obtain ⟨rl, W⟩ := walkF_of R Wi
  have ml := List.mem_of_getLast? W.last
  obtain ⟨l4, l5, l6, l7, l0, l1⟩ := W.run rl ml
  have lastE : ∀ k : D → Prop, atD (rowsT F) (-1) k = k (rowT rl) := fun k => by
    obtain ⟨l, e⟩ := List.getLast?_eq_some_iff.mp W.last
    subst e
    exact e_at (at_m1R _ _)
  unfold t_l_rows_due
  walk_at "dl"
  repeat (rw [lastE]; simp only [rowT]; walk_at "dl")
  have LP := lst_per' R.psg
  have IP := im_per R.psg
  have b0e : rl.2.2 + rl.2.1 - rl.1 - c = f (rl.2.1 - c) := by have := W.per0; omega
  rw [b0e]
  have sc : Sm c := Sm.of (by omega) (by omega)
  have mg : ∀ y, rl.2.1 - c ≤ y → y ≤ rl.2.1 → -(10 ^ 165) ≤ y ∧ y ≤ 10 ^ 165 ∧ -(10 ^ 165) ≤ f y ∧ f y ≤ 10 ^ 165 := fun y h1 h2 => by
    have m1 := R.psg.mono _ _ h1
    have m2 := R.psg.mono _ _ h2
    have p0 := W.per0
    obtain ⟨⟨d1, d2⟩, ⟨d3, d4⟩, d5, d6⟩ := l7
    omega
  simp only [a2, l2]
  refine dFor_mk (rowsT F) yes (cs ++ [.lst [], .lst []]) (fun K h => by walk_at "dl"; exact h)
    (fun i en cx => ∃ (H H' : List Row) (a : Int) (o5 o6 o7 o8 : Option Z), en = [some (.d (.int c)), some (.d (.lst (rowsT F))), some (.c cs.length), some (.c (cs.length + 1)), some (.d (.tup [.int a, .int (f a)])), o5, o6, o7, o8] ∧ cx = cs ++ [.lst (rowsT (H.map (platR f))), .lst (pairsT (H'.map gapR))] ∧ H.length ≤ i ∧ H'.length ≤ i ∧ Part2 c (Lst f) (rl.2.1 - c) a H ∧ Part2 c (Im f) (f (rl.2.1 - c)) (f a) H' ∧ Lst f a ∧ rl.2.1 - c ≤ a ∧ a ≤ rl.2.1 ∧
      (∀ r, F[i]? = some r → At f r (a + 1) ∧ a < r.1) ∧ (i = F.length → a = rl.2.1))
    ⟨[], [], rl.2.1 - c, _, _, _, _, rfl, rfl, by simp, by simp, Part2.nil hc _, Part2.nil hc _, W.lst0, Int.le_refl _, by omega, W.first, fun e => ?_⟩ (fun i d en cx hd hI => ?_) (fun en cx hI => ?_) (fun _ _ _ _ => trivial)
  · have := List.length_pos_of_mem ml
    omega
  · obtain ⟨H, H', a, o5, o6, o7, o8, rfl, rfl, hl, hl', P1, P2, la, a0, a1, nx, _⟩ := hI
    obtain ⟨r, hr, rfl⟩ := get_rowsT hd
    have il := (List.getElem?_eq_some_iff.mp hr).1
    obtain ⟨q1, q2, q3, q7, q8, q9⟩ := W.run r (List.mem_of_getElem? hr)
    obtain ⟨qa, ql⟩ := nx r hr
    have va := qa.val R.psg
    have e1 : f (a + 1) = r.2.2 := by omega
    have la' := la
    unfold Lst at la'
    have mo0 := R.psg.mono _ _ a0
    have mo1 := R.psg.mono _ _ q9
    have pr0 := W.per0
    have st1 := P1.step hc LP a0 la ql q8 (by omega) (fun y h1 h2 => qa.no y (by omega) h2) (fun y h1 h2 => (q3 y h1 h2).1)
    have st2 := P2.step hc IP mo0 ⟨a, rfl⟩ (s := r.2.2) (l := f r.2.1) (by omega) (by omega) (by omega) (fun y h1 h2 ⟨x, e⟩ => by
      rcases Int.lt_or_le a x with z | z
      · have := R.psg.mono (a + 1) x (by omega); omega
      · have := R.psg.mono x a z; omega) (fun y h1 h2 => ⟨r.1 + (y - r.2.2), by have := (q3 (r.1 + (y - r.2.2)) (by omega) (by omega)).2; omega⟩)
    have nx' : ∀ s, F[i + 1]? = some s → At f s (r.2.1 + 1) ∧ r.2.1 < s.1 := fun s hs => W.next i r s hr hs
    have lst' : i + 1 = F.length → r.2.1 = rl.2.1 := fun e => by
      have hrl := W.last
      rw [List.getLast?_eq_getElem?, show F.length - 1 = i by omega, hr] at hrl
      cases hrl
      rfl
    have lr : Lst f r.2.1 := (q3 r.2.1 q8 (Int.le_refl _)).1
    have er : r.2.2 + r.2.1 - r.1 = f r.2.1 := by omega
    have ma := mg a a0 a1
    simp only [rowT]
    walk_at "dl"
    simp only [g2a]
    generalize hT : dLock (dSeq (dIfS _ _ _) _) _ = T
    have key : ∀ (H1 : List Row) (o8 : Option Z), H1.length ≤ i + 1 → Part2 c (Lst f) (rl.2.1 - c) r.2.1 H1 → T [some (.d (.int c)), some (.d (.lst (rowsT F))), some (.c cs.length), some (.c (cs.length + 1)), some (.d (.tup [.int a, .int (f a)])), some (.d (.int r.1)), some (.d (.int r.2.1)), some (.d (.int r.2.2)), o8] (cs ++ [.lst (rowsT (H1.map (platR f))), .lst (pairsT (H'.map gapR))]) := by
      intro H1 o8 h1 p1
      subst hT
      unfold dLock
      walk_at "dl"
      simp only [g2b]
      by_cases e : f a + 1 < r.2.2
      · simp only [e, decide_true, if_true]
        rw [if_pos e] at st2
        refine ⟨dv_c hc cle, ⟨sm_div ⟨by omega, by omega⟩ hc, sc⟩, lim_lt (by rw [len_pairsT, List.length_map]; omega), ?_⟩
        rw [s2b]
        refine .inl ⟨H1, _, r.2.1, _, _, _, _, by rw [er], ?_, h1, by rw [List.length_append]; simp only [List.length_cons, List.length_nil]; omega, p1, st2, lr, by omega, q9, nx', lst'⟩
        rw [List.map_append]
        unfold pairsT
        rw [List.map_append]
        simp only [List.map_cons, List.map_nil, gapR, pairT, up]
        rw [show f a + 1 + (0 - (f a + 1) / c * c) = f a + 1 - (f a + 1) / c * c by omega, show r.2.2 + (0 - (f a + 1) / c * c) - 1 = r.2.2 - 1 - (f a + 1) / c * c by omega]
      · simp only [e, decide_false, Bool.false_eq_true, if_false]
        rw [if_neg e] at st2
        exact .inl ⟨H1, H', r.2.1, _, _, _, _, by rw [er], rfl, h1, by omega, p1, st2, lr, by omega, q9, nx', lst'⟩
    by_cases e : a + 1 < r.1
    · simp only [e, decide_true, if_true]
      rw [if_pos e] at st1
      refine ⟨dv_c hc cle, ⟨sm_div ⟨by omega, by omega⟩ hc, sc⟩, lim_lt (by rw [len_rowsT, List.length_map]; omega), ?_⟩
      rw [s2a]
      have fs : r.2.2 - (a + 1) / c * c = f (r.1 + up c a) := by
        have := R.psg.perK (-((a + 1) / c)) r.1
        rw [Int.neg_mul] at this
        unfold up
        rw [show r.1 + (0 - (a + 1) / c * c) = r.1 + -((a + 1) / c * c) by omega, this]
        omega
      have k2 := key _ (some (.d (.int ((a + 1) / c * c)))) (by rw [List.length_append]; simp only [List.length_cons, List.length_nil]; omega) st1
      rw [List.map_append] at k2
      unfold rowsT at k2 ⊢
      rw [List.map_append] at k2
      simp only [List.map_cons, List.map_nil, platR, rowT] at k2
      rw [← fs] at k2
      unfold up at k2
      rw [show a + 1 + (0 - (a + 1) / c * c) = a + 1 - (a + 1) / c * c by omega, show r.1 + (0 - (a + 1) / c * c) = r.1 - (a + 1) / c * c by omega] at k2
      exact k2
    · simp only [e, decide_false, Bool.false_eq_true, if_false]
      rw [if_neg e] at st1
      exact key H o8 (by omega) st1
  · obtain ⟨H, H', a, o5, o6, o7, o8, rfl, rfl, hl, hl', P1, P2, la, a0, a1, nx, e⟩ := hI
    rw [len_rowsT] at e hl hl'
    have e := e rfl
    subst e
    have pr0 := W.per0
    walk_at "dl"
    rw [w2b]
    refine ⟨rfl, fun nb => ?_⟩
    rw [s2b, w2a]
    refine ⟨rfl, fun nb2 => ?_⟩
    rw [s2a]
    walk_at "dl"
    refine ⟨_, 3, rowsI _, ⟨by decide, by decide, fun r hr => ?_⟩, fun out p st => ?_⟩
    · obtain ⟨s, _, rfl⟩ := List.mem_map.mp hr
      rfl
    refine ⟨_, 2, pairsI _, ⟨by decide, by decide, fun r hr => ?_⟩, fun out2 p2 st2 => ?_⟩
    · obtain ⟨s, _, rfl⟩ := List.mem_map.mp hr
      rfl
    obtain ⟨H1, p', st', eo⟩ := plat_out (fun h hh => ((P1.mem h).mp hh).2.2.1.1) p st
    have hol := Part2.holes hc (a0 := rl.2.1 - c) (H := H) (by rw [show rl.2.1 - c + c = rl.2.1 by omega]; exact P1) p' st'
    obtain ⟨H2, p2', st2', eo2⟩ := gap_out (fun h hh => ((P2.mem h).mp hh).2.2.1.1) p2 st2
    have hol2 := Part2.holes hc (a0 := f (rl.2.1 - c)) (H := H') (by rw [← pr0]; exact P2) p2' st2'
    rw [eo, eo2]
    rw [List.take_left]
    exact h H1 H2 hol hol2 (by rw [p'.length_eq]; exact hl) (by rw [p2'.length_eq]; exact hl')
/-- platoons that begin ahead of i -/
def PlI (f : Int → Int) (i : Int) (H : List Row) : Prop := H.Pairwise (fun a b => a.1 < b.1) ∧ ∀ h, h ∈ H ↔ 0 ≤ h.1 ∧ h.1 < i ∧ IsH (Lst f) h
theorem PlI.nil (f : Int → Int) : PlI f 0 [] := ⟨by simp, fun h => ⟨fun q => by simp at q, fun q => by omega⟩⟩
theorem PlI.skip {f : Int → Int} {c i : Int} {H : List Row} (p : Psg c f) (h : PlI f i H) (n : ¬ (f (i - 1) < f i ∧ f i = f (i + 1))) : PlI f (i + 1) H := by
  refine ⟨h.1, fun r => (h.2 r).trans ⟨fun q => ⟨q.1, by omega, q.2.2⟩, fun ⟨q1, q2, q3⟩ => ⟨q1, ?_, q3⟩⟩⟩
  by_cases e : r.1 = i
  · exfalso
    refine n ?_
    obtain ⟨_, o⟩ := q3
    have a := o.lo
    have b := o.no r.1 (by omega) (by have := o.far; omega)
    unfold Lst at a b
    have m := p.mono r.1 (r.1 + 1) (by omega)
    rw [e, show i - 1 + 1 = i by omega] at a
    rw [e] at b m
    omega
  · omega
theorem PlI.snoc {f : Int → Int} {c i y : Int} {H : List Row} (p : Psg c f) (h : PlI f i H) (i0 : 0 ≤ i) (e1 : f (i - 1) < f i) (e2 : f i = f (i + 1)) (iy : i ≤ y) (al : ∀ z, i ≤ z → z < y → f (z + 1) = f i) (ny : f (y + 1) ≠ f i) : PlI f (i + 1) (H ++ [(i, y, 0)]) := by
  have ly : i < y := by
    rcases Int.lt_or_le i y with q | q
    · exact q
    · have : y = i := by omega
      subst this
      exact absurd e2.symm ny
  have fy : f y = f i := by
    have := al (y - 1) (by omega) (by omega)
    rwa [show y - 1 + 1 = y by omega] at this
  have hol : Hole (Lst f) (i - 1) y := by
    refine ⟨by omega, ?_, ?_, fun z a b l => ?_⟩
    · unfold Lst
      rw [show i - 1 + 1 = i by omega]
      exact e1
    · have := p.mono y (y + 1) (by omega)
      unfold Lst
      omega
    · unfold Lst at l
      have h1 := al z (by omega) (by omega)
      have := p.mono i z (by omega)
      omega
  refine ⟨List.pairwise_append.mpr ⟨h.1, by simp, fun a ha b hb => ?_⟩, fun r => ⟨fun q => ?_, fun ⟨q1, q2, q3⟩ => ?_⟩⟩
  · cases List.mem_singleton.mp hb
    have := (h.2 a).mp ha
    simp only
    omega
  · rcases List.mem_append.mp q with q | q
    · have := (h.2 r).mp q
      exact ⟨this.1, by omega, this.2.2⟩
    · cases List.mem_singleton.mp q
      exact ⟨i0, by simp only; omega, rfl, hol⟩
  · by_cases e : r.1 = i
    · refine List.mem_append_right _ (List.mem_singleton.mpr ?_)
      have o := q3.2
      rw [e] at o
      exact Prod.ext e (Prod.ext (o.same hol) q3.1)
    · exact List.mem_append_left _ ((h.2 r).mpr ⟨q1, by omega, q3⟩)
theorem PlI.holes {f : Int → Int} {c : Int} {H out : List Row} (h : PlI f c H) (p : out.Perm H) (st : out.Pairwise fun a b => a.1 ≤ b.1) : Holes c (Lst f) out := by
  have nd : out.Pairwise fun a b => a.1 ≠ b.1 := (p.pairwise_iff (fun {a b} q => Ne.symm q)).mpr (h.1.imp fun q => by omega)
  exact ⟨(st.and nd).imp fun {a b} q => by have := q.1; have := q.2; omega, fun r => p.mem_iff.trans (h.2 r)⟩
def sp_l_table_due : DSpec := fun zs cs k => match zs with
  | [.d (.lst xs)] => ∃ f n, xs = tabT f n ∧ (Psg n f ∧ n ≤ 1000 ∧ -(10 ^ 160) ≤ f 0 ∧ f 0 ≤ 10 ^ 160) ∧ ∀ H H', Holes n (Lst f) H → Holes n (Im f) H' → H.length ≤ n → H'.length ≤ n → k (.d (.lst [.lst (rowsT (H.map (platR f))), .lst (pairsT (H'.map gapR))])) cs
  | _ => False
theorem len_l_table_due : ∀ zs cs q, sp_l_table_due zs cs q → zs.length = (["_law_table"] : List Str).length := fun zs cs q h => by
  unfold sp_l_table_due at h
  split at h
  · rfl
  · exact h.elim
def t_l_table_due : DS :=
  (dSeq (dPar3 1 2 3 (dCons (dLstC dNil) (dCons (dLstC dNil) (dCons (dCB lenD (dCons (dVar 0) dNil)) dNil))))
  (dSeq (dFor (diR1 (dVar 3)) (dgName 4) (dSeq (dIfS (dB (dChain ltD eqUD (dCall sp_l_of (dCons (dVar 0) (dCons (dOp subD (dVar 4) (dC (.int 1))) dNil))) (dOp ixD (dVar 0) (dVar 4)) (dCall sp_l_of (dCons (dVar 0) (dCons (dOp addD (dVar 4) (dC (.int 1))) dNil))))) (dSeq (dAsg (dVar 4) (dgName 5))
  (dSeq (dWhile (dB (dOp eqUD (dCall sp_l_of (dCons (dVar 0) (dCons (dOp addD (dVar 5) (dC (.int 1))) dNil))) (dOp ixD (dVar 0) (dVar 4)))) (dAsg (dOp addD (dVar 5) (dC (.int 1))) (dgName 5)))
  (dDrop (dAppend (dVar 1) (dTup (dCons (dVar 4) (dCons (dVar 5) (dCons (dOp ixD (dVar 0) (dVar 4)) dNil)))))))) dNext)
  (dLock (dIfS (dB (dOp gtD (dOp subD (dOp ixD (dVar 0) (dVar 4)) (dCall sp_l_of (dCons (dVar 0) (dCons (dOp subD (dVar 4) (dC (.int 1))) dNil)))) (dC (.int 1)))) (dSeq (dAsg (dOp addD (dCall sp_l_of (dCons (dVar 0) (dCons (dOp subD (dVar 4) (dC (.int 1))) dNil))) (dC (.int 1))) (dgName 6))
  (dSeq (dAsg (dOp mulD (dOp fdivD (dVar 6) (dVar 3)) (dVar 3)) (dgName 7))
  (dDrop (dAppend (dVar 2) (dTup (dCons (dOp subD (dVar 6) (dVar 7)) (dCons (dOp subD (dOp subD (dOp ixD (dVar 0) (dVar 4)) (dC (.int 1))) (dVar 7)) dNil))))))) dNext))))
  (dFrz 2 (dFrz 1 (dRet (dLst (dCons (dCB sortedRD (dCons (dVar 1) dNil)) (dCons (dCB sortedRD (dCons (dVar 2) dNil)) dNil))))))))
theorem rd_l_table_due : ∀ zs cs q, sp_l_table_due zs cs q → t_l_table_due (endD cs.length q) (startD ["_law_table", "_law_found", "_law_empty", "_law_size_here", "_law_start", "_law_last", "_law_low", "_law_by"] zs) cs := fun zs cs q h => by
  unfold sp_l_table_due at h
  split at h
  rotate_left
  · exact h.elim
  rename_i xs
  simp only [startD, List.map_cons, List.map_nil, List.length_cons, List.length_nil, Nat.reduceAdd, Nat.zero_add, Nat.reduceSub, List.replicate_zero, List.replicate_succ, List.cons_append, List.nil_append, List.append_nil]
  obtain ⟨f, n, rfl, ⟨p, n1, f0, f1⟩, h⟩ := h
  have hc := p.pos
  have IP := im_per p
  have mg : ∀ x : Int, -5000 ≤ x → x ≤ 5000 → -(10 ^ 161) ≤ f x ∧ f x ≤ 10 ^ 161 := fun x h1 h2 => by
    have := mag_at p x
    omega
  have wrap : f ((n : Int) - 1) = f (-1) + n := by
    have := p.per (-1)
    rwa [show (-1 : Int) + n = n - 1 by omega] at this
  unfold t_l_table_due
  walk_at "dl"
  rw [tabT_len]
  simp only [a2, l2]
  refine dFor_mk (rgD 0 n) yes (cs ++ [.lst [], .lst []]) (fun K h => by walk_at "dl"; exact ⟨⟨by omega, by omega⟩, by simpa using h⟩)
    (fun i en cx => ∃ (H H' : List Row) (o4 o5 o6 o7 : Option Z), en = [some (.d (.lst (tabT f n))), some (.c cs.length), some (.c (cs.length + 1)), some (.d (.int n)), o4, o5, o6, o7] ∧ cx = cs ++ [.lst (rowsT (H.map (platR f))), .lst (pairsT (H'.map gapR))] ∧ H.length ≤ i ∧ H'.length ≤ i ∧ PlI f i H ∧ Part2 n (Im f) (f (-1)) (f ((i : Int) - 1)) H')
    ⟨[], [], _, _, _, _, rfl, rfl, by simp, by simp, PlI.nil f, Part2.nil hc _⟩ (fun i d en cx hd hI => ?_) (fun en cx hI => ?_) (fun _ _ _ _ => trivial)
  · obtain ⟨hi, rfl⟩ := rgD_get hd
    obtain ⟨H, H', o4, o5, o6, o7, rfl, rfl, hl, hl', P1, P2⟩ := hI
    simp only [Int.zero_add]
    walk_at "dl"
    generalize hT : dLock (dIfS _ _ _) _ = T
    have pn : f ((i : Int) + n) = f i + n := p.per i
    have mo := p.mono ((i : Int) - 1) i (by omega)
    have mo0 := p.mono (-1) ((i : Int) - 1) (by omega)
    have mo1 := p.mono (i : Int) ((n : Int) - 1) (by omega)
    have g0 := mg i (by omega) (by omega)
    have g1 := mg ((i : Int) - 1) (by omega) (by omega)
    have st2 : Part2 n (Im f) (f (-1)) (f i) (if f ((i : Int) - 1) + 1 < f i then H' ++ [(f ((i : Int) - 1) + 1 + up n (f ((i : Int) - 1)), f i + up n (f ((i : Int) - 1)), 0)] else H') := by
      by_cases lt : f ((i : Int) - 1) < f i
      · exact P2.step hc IP mo0 ⟨_, rfl⟩ lt (Int.le_refl _) (by omega) (fun y h1 h2 ⟨x, e⟩ => by
          rcases Int.lt_or_le ((i : Int) - 1) x with z | z
          · have := p.mono i x (by omega)
            omega
          · have := p.mono x ((i : Int) - 1) z
            omega) (fun y h1 h2 => ⟨i, by omega⟩)
      · have e : f i = f ((i : Int) - 1) := by omega
        rw [if_neg (by omega), e]
        exact P2
    have ei : ((i + 1 : Nat) : Int) - 1 = i := by omega
    have key : ∀ (H1 : List Row) (o5 o6 o7 : Option Z), H1.length ≤ i + 1 → PlI f ((i : Int) + 1) H1 → T [some (.d (.lst (tabT f n))), some (.c cs.length), some (.c (cs.length + 1)), some (.d (.int n)), some (.d (.int i)), o5, o6, o7] (cs ++ [.lst (rowsT (H1.map (platR f))), .lst (pairsT (H'.map gapR))]) := by
      intro H1 o5 o6 o7 h1 pl
      subst hT
      unfold dLock
      walk_at "dl"
      rw [e_at (tabT_at f (by omega) (by omega))]
      refine of_use p n1 (by omega) (by omega) ?_
      walk_at "dl"
      by_cases e : 1 < f i - f ((i : Int) - 1)
      · simp only [e, decide_true, if_true]
        refine of_use p n1 (by omega) (by omega) ?_
        walk_at "dl"
        refine ⟨Dv.of (by omega) (by omega), ⟨sm_div ⟨by omega, by omega⟩ hc, Sm.of (by omega) (by omega)⟩, ?_⟩
        simp only [g2b]
        rw [e_at (tabT_at f (by omega) (by omega))]
        walk_at "dl"
        simp only [g2b, s2b]
        rw [if_pos (by omega)] at st2
        refine ⟨lim_lt (by rw [len_pairsT, List.length_map]; omega), .inl ⟨H1, H' ++ [(f ((i : Int) - 1) + 1 + up n (f ((i : Int) - 1)), f i + up n (f ((i : Int) - 1)), 0)], _, _, _, _, rfl, ?_, h1, by rw [List.length_append]; simp only [List.length_cons, List.length_nil]; omega, pl, by rw [ei]; exact st2⟩⟩
        rw [List.map_append]
        unfold pairsT
        rw [List.map_append]
        simp only [List.map_cons, List.map_nil, gapR, pairT, up]
        rw [show f ((i : Int) - 1) + 1 + (0 - (f ((i : Int) - 1) + 1) / (n : Int) * n) = f ((i : Int) - 1) + 1 - (f ((i : Int) - 1) + 1) / (n : Int) * n by omega, show f i + (0 - (f ((i : Int) - 1) + 1) / (n : Int) * n) - 1 = f i - 1 - (f ((i : Int) - 1) + 1) / (n : Int) * n by omega]
      · simp only [e, decide_false, Bool.false_eq_true, if_false]
        rw [if_neg (by omega)] at st2
        exact .inl ⟨H1, H', _, _, _, _, rfl, rfl, h1, by omega, pl, by rw [ei]; exact st2⟩
    refine of_use p n1 (by omega) (by omega) ?_
    rw [e_at (tabT_at f (by omega) (by omega))]
    walk_at "dl"
    by_cases lt : f ((i : Int) - 1) < f i
    · simp only [lt, decide_true, if_true]
      refine of_use p n1 (by omega) (by omega) ?_
      walk_at "dl"
      by_cases e2 : f (i : Int) = f ((i : Int) + 1)
      · simp only [e2, decide_true, if_true]
        refine dWhile_mk (fun m en cy => ∃ y : Int, en = [some (.d (.lst (tabT f n))), some (.c cs.length), some (.c (cs.length + 1)), some (.d (.int n)), some (.d (.int i)), some (.d (.int y)), o6, o7] ∧ cy = cs ++ [.lst (rowsT (H.map (platR f))), .lst (pairsT (H'.map gapR))] ∧ (m : Int) = i - 1 + n - y ∧ (i : Int) ≤ y ∧ ∀ z, (i : Int) ≤ z → z < y → f (z + 1) = f i) (n - 1)
          ⟨i, rfl, rfl, by omega, Int.le_refl _, fun z a b => by omega⟩ (fun m en cy hI => ?_)
        obtain ⟨y, rfl, rfl, em, y0, al⟩ := hI
        walk_at "dl"
        refine of_use p n1 (by omega) (by omega) ?_
        walk_at "dl"
        rw [e_at (tabT_at f (by omega) (by omega))]
        walk_at "dl"
        by_cases e3 : f (y + 1) = f i
        · have ne : y ≠ (i : Int) - 1 + n := fun e => by
            rw [e, show (i : Int) - 1 + n + 1 = i + n by omega] at e3
            omega
          simp only [e3, decide_true, if_true]
          refine .inl ⟨m - 1, by omega, y + 1, rfl, rfl, by omega, by omega, fun z a b => ?_⟩
          by_cases e : z = y
          · rw [e]; exact e3
          · exact al z a (by omega)
        · simp only [e3, decide_false, Bool.false_eq_true, if_false]
          simp only [g2a]
          rw [e_at (tabT_at f (by omega) (by omega))]
          simp only [g2a, s2a]
          refine ⟨lim_lt (by rw [len_rowsT, List.length_map]; omega), ?_⟩
          have k2 := key (H ++ [((i : Int), y, 0)]) (some (.d (.int y))) o6 o7 (by rw [List.length_append]; simp only [List.length_cons, List.length_nil]; omega) (P1.snoc p (by omega) lt e2 y0 al e3)
          have fy : f y = f i := by
            by_cases e : y = (i : Int)
            · rw [e]
            · have := al (y - 1) (by omega) (by omega)
              rwa [show y - 1 + 1 = y by omega] at this
          rw [List.map_append] at k2
          unfold rowsT at k2 ⊢
          rw [List.map_append] at k2
          simp only [List.map_cons, List.map_nil, platR, rowT] at k2
          rw [fy] at k2
          exact k2
      · simp only [e2, decide_false, Bool.false_eq_true, if_false]
        exact key H _ _ _ (by omega) (P1.skip p fun q => e2 q.2)
    · simp only [lt, decide_false, Bool.false_eq_true, if_false]
      exact key H _ _ _ (by omega) (P1.skip p fun q => lt q.1)
  · obtain ⟨H, H', o4, o5, o6, o7, rfl, rfl, hl, hl', P1, P2⟩ := hI
    rw [rgD_len] at hl hl' P1 P2
    walk_at "dl"
    rw [w2b]
    refine ⟨rfl, fun nb => ?_⟩
    rw [s2b, w2a]
    refine ⟨rfl, fun nb2 => ?_⟩
    rw [s2a]
    walk_at "dl"
    refine ⟨_, 3, rowsI _, ⟨by decide, by decide, fun r hr => ?_⟩, fun out pp st => ?_⟩
    · obtain ⟨s, _, rfl⟩ := List.mem_map.mp hr
      rfl
    refine ⟨_, 2, pairsI _, ⟨by decide, by decide, fun r hr => ?_⟩, fun out2 p2 st2 => ?_⟩
    · obtain ⟨s, _, rfl⟩ := List.mem_map.mp hr
      rfl
    obtain ⟨H1, p', st', eo⟩ := plat_out (fun h hh => ((P1.2 h).mp hh).2.2.1) pp st
    have hol := P1.holes p' st'
    obtain ⟨H2, p2', st2', eo2⟩ := gap_out (fun h hh => ((P2.mem h).mp hh).2.2.1.1) p2 st2
    have hol2 := Part2.holes hc (a0 := f (-1)) (H := H') (by rw [← wrap]; exact P2) p2' st2'
    rw [eo, eo2, List.take_left]
    exact h H1 H2 hol hol2 (by rw [p'.length_eq]; exact hl) (by rw [p2'.length_eq]; exact hl')
end K10
set_option Elab.async false
set_option linter.all false
set_option maxRecDepth 100000
set_option maxHeartbeats 2000000
set_option autoImplicit false
/-! PUS: small steps that many laws take: statements one by one, passages made -/
namespace PU
open PySem L2 DL K01 PM PA
theorem seq_use {a b : DS} {E : DEnds} {en : En} {cs : Cs} (h : dSeq a (dLock b) E en cs) : dSeq a b E en cs := h
theorem lock_use {a : DS} {E : DEnds} {en : En} {cs : Cs} (h : a E en cs) : dLock a E en cs := h

/-- a passage is made -/
theorem make_use {cA : Str → Addr} {a : DA} {en : En} {cs cs1 : Cs} {k : Z → Cs → Prop} {c : Int} {f : Int → Int} {rows : List Row} (ha : ∀ K : List Z → Cs → Prop, K [.d (.int c), .d (.tup (rowsT rows))] cs1 → a en cs K) (R : RowsOk c f rows) (len : rows.length ≤ 1000000)
    (h : ∀ out, Canon c f out → out.length ≤ rows.length → k (.d (psgD cA c out)) cs1) : dMake (cA "Passage") (sp_Passage_init cA) a en cs k := by
  refine ha _ ?_
  refine ⟨by rw [get_snoc], rows, f, rfl, ⟨R, len⟩, fun out co lo => ⟨rfl, ["own_cycle", "own_runs"], [.int c, .tup (rowsT out)], ?_, .inl ?_⟩⟩
  · rw [set_snoc, get_snoc]
    rfl
  · rw [set_snoc, take_snoc]
    exact h out co lo
end PU
set_option Elab.async false
set_option linter.all false
set_option maxRecDepth 100000
set_option maxHeartbeats 2000000
set_option autoImplicit false
/-! DTC: rules by names for cells by address; what a def leaves in cells stays; tables of the module -/
namespace DL
open PySem PySem.Spec PyProof.Rows L2
section
variable {P : Program} {w : World} {K : PySem.W.Frag} {mg : Str → Option Value} {base : Heap}
end
section
variable {P : Program} {w : World} {K : PySem.W.Frag} {mg : Str → Option Value} {base : Heap} {C : Addr} {m qual x name : Str} {k : Nat} {ps : List Str} {sp : DSpec} {st : Stmt} {N : List Str}
end
section
variable {X : Cx} {pos p apos : Pos} {x m : Str} {k : Nat} {C : Addr} {ps : List Str} {sp : DSpec} {o e : Expr} {es : List Expr} {to : TE} {od : DE} {ta : TA} {da : DA}
end
/-! a dict of the module whose keys and values are texts -/
inductive TabOf : List DictEntry → List (Str × Str) → Prop where
  | nil : TabOf [] []
  | cons {e : DictEntry} {es : List DictEntry} {x y : Str} {t u : Tok} {T : List (Str × Str)} (hk : e.key = .str x t) (hv : e.val = .str y u) (r : TabOf es T) : TabOf (e :: es) ((x, y) :: T)
structure KTb (K : PySem.W.Frag) (w : World) (mg : Str → Option Value) (name : Str) (T : List (Str × Str)) : Prop where
  ex : ∃ d es n, mg name = some (.ref d) ∧ KDict K w d es n ∧ TabOf es.toList T
theorem TabOf.look : ∀ {es : List DictEntry} {T : List (Str × Str)}, TabOf es T → ∀ z : Str, (T.lookup z = none → (es.find? (·.key.isStr z)) = none) ∧ (∀ v, T.lookup z = some v → ∃ e t, es.find? (·.key.isStr z) = some e ∧ e.val = .str v t) ∧ es.any (·.refKey) = false
  | _, _, .nil, z => ⟨fun _ => rfl, fun _ h => (by cases h), rfl⟩
  | _, _, .cons (e := e) (x := x) (y := y) (u := u) hk hv r, z => by
    obtain ⟨h1, h2, h3⟩ := r.look z
    have ks : e.key.isStr z = (x == z) := by rw [hk]; rfl
    have rk : e.refKey = false := by unfold DictEntry.refKey; rw [hk]
    rw [List.lookup_cons, List.find?_cons, ks, List.any_cons, rk, Bool.false_or]
    refine ⟨fun h => ?_, fun v h => ?_, h3⟩
    · cases q : z == x with
      | true => rw [q] at h; cases h
      | false =>
        rw [q] at h
        have : (x == z) = false := beq_eq_false_iff_ne.mpr fun e => beq_eq_false_iff_ne.mp q e.symm
        rw [this]
        exact h1 h
    · cases q : z == x with
      | true =>
        rw [q] at h
        cases h
        have : (x == z) = true := beq_iff_eq.mpr (beq_iff_eq.mp q).symm
        rw [this]
        exact ⟨e, u, rfl, hv⟩
      | false =>
        rw [q] at h
        have : (x == z) = false := beq_eq_false_iff_ne.mpr fun e => beq_eq_false_iff_ne.mp q e.symm
        rw [this]
        exact h2 v h
section
variable {X : Cx} {pos p : Pos} {a : Expr} {ta : TE} {da : DE} {name : Str} {T : List (Str × Str)}
/-- x in TABLE -/
def dInTab (T : List (Str × Str)) (a : DE) : DE := fun en cs k => a en cs fun z cs1 => ∃ s, z = .d (.str s) ∧ k (.d (.bl (T.lookup s).isSome)) cs1
end
end DL
set_option Elab.async false
set_option linter.all false
set_option maxRecDepth 100000
set_option maxHeartbeats 2000000
set_option autoImplicit false
/-! DTD: a text in a tuple of texts -/
namespace DL
open PySem PySem.Spec PyProof.Rows L2
end DL
set_option Elab.async false
set_option linter.all false
set_option maxRecDepth 100000
set_option maxHeartbeats 2000000
set_option autoImplicit false
/-! DTE: readings, row by row -/
namespace DL
open PySem L2
section
variable {k : D → Prop} {kz : Z → Cs → Prop} {en : En} {cs : Cs} {a b : DE}
/-! by address -/
/-! what stands at an address, in one step -/
theorem u_dAppendA : dAppendA a b en cs kz = (a en cs fun x cs1 => match x with
  | .d (.obj a) => (match fnd cs1 a with
    | some (.lst _) => b en cs1 fun y cs2 => (match y with
      | .d d => (match fnd cs2 a with
        | some (.lst ds) => ds.length < LIM ∧ kz (.d .non) (putA cs2 a (.lst (ds ++ [d])))
        | _ => False)
      | _ => False)
    | _ => False)
  | _ => False) := nd rfl
end
end DL
set_option Elab.async false
set_option linter.all false
set_option maxRecDepth 100000
set_option maxHeartbeats 2000000
set_option autoImplicit false
namespace K10
open PySem L2 DL K01 PM PA PU
local macro_rules | `(tactic| walk_at "dl") => `(tactic| simp only [u_dPar3, u_dSeq, u_dNext, u_dOwn, u_dOwnE, u_dFld, u_dMake, u_dMeth, u_dProp, u_dIsiO, u_dCallI, u_dSortSet, u_dFrz, e_isC, e_rgO, e_rgn, e_rgi, e_rgs, e_rgb, e_rgt, e_rgl, e_fz1, e_fz2, le_lim, lt_lim, set_snoc0, e_srtI, u_dBreak, u_dCont, u_dDrop, u_dRet, u_dRetN, u_dIfS, u_dNever, u_dAsg, u_dPar, u_dPutK, u_dAppend, u_dExtend, u_dCall, u_dVar, u_dC, u_dOp, u_dChain, u_dUn, u_dB, u_dNot, u_dAnd, u_dOr, u_dAndV, u_dOrV, u_dNotV, u_dIf, u_dNil, u_dCons, u_dTup, u_dLst, u_dLstC, u_dCB, u_dInK, u_dGetK, u_dDicC, u_dNoPart, u_dPart, u_dSl, u_dBits, u_dRev, u_dgName, u_dgsNil, u_dgsCons, u_dgTup, u_dgSet, u_diSeq, u_diR1, e_diR2, e_r2, u_diEnum, u_diEnumU, u_diZip, endD, finZ_d, finD, finC, List.take_length, u_dYes, wipeD, ix0, ix1, ix2, get_snoc, set_snoc, take_snoc, u_dOpC, u_dSlC, u_dListC, e_addC, e_mulC, e_loCl, e_loCt, e_loCs, e_wd, e_wc0, e_wcs, e_wsn, e_wc1, e_wc2, e_wl0, e_wl1, e_dl0, e_dl1, e_sl, e_st, e_ss, e_addi, e_adds, e_addt, e_addl, e_sub, e_muli, e_mult, e_mull, e_fdiv, e_mod, e_pow, e_neg, e_lt, e_le, e_gt, e_ge, e_eqi, e_eqs, e_eql, e_eqt, e_eqb, e_eqn, e_nei, e_nes, e_nel, e_net, e_neb, e_nen, e_isb, e_isn, e_inb, e_inn, e_in1, e_in2, e_in3, e_in4, e_in5, e_ixt, e_ixl, e_ixs, e_at0, e_at1, e_at2, e_at3, e_at4, e_at5, e_atl, e_keyi, e_keys, e_lenl, e_lent, e_lens, e_lend, e_maxi, e_mini, e_maxl, e_minl, e_sum, e_all, e_any, e_inti, e_intb, e_abs, e_tol, e_tot, e_tos, e_lol, e_lot, e_los, e_sll, e_slt, e_rvl, e_rvt, e_repr, e_isi, e_srtl, e_srtt, List.map_cons, List.map_nil, List.length_cons, List.length_nil, List.cons_append, List.nil_append, List.flatten_cons, List.flatten_nil, List.append_nil, List.replicate_succ, List.replicate_zero, List.getElem?_cons_zero, List.getElem?_cons_succ, List.set_cons_zero, List.set_cons_succ, Nat.reduceSub, Nat.reduceAdd, Int.reduceToNat, Int.reduceLE, Int.reduceLT, Int.reduceNeg, Nat.reduceLeDiff, Nat.reduceLT, Nat.zero_add, Option.some.injEq, Z.d.injEq, Z.c.injEq, D.bl.injEq, D.int.injEq, D.tup.injEq, D.lst.injEq, List.take_succ_cons, List.take_zero, exists_eq_left', exists_eq_left, true_and, and_true, if_true, Bool.not_true, Bool.not_false, Bool.false_eq_true, if_false, decide_true, decide_false, n_vK])
local macro_rules | `(tactic| walk_at "ww") => `(tactic| ((try walk_at "dl"); (try simp only [isC_psg, rgt_psg, true_and])))
theorem par_seq {i j : Nat} {a b : DE} {rest : DS} {E : DEnds} {en : En} {cs : Cs} (h : a en cs fun z c1 => b en c1 fun y c2 => rest E ((en.set i (some z)).set j (some y)) c2) : dSeq (dPar i j (dCons a (dCons b dNil))) rest E en cs := h
theorem hole_far {c : Int} {M : Int → Prop} (P : Per c M) (hc : 1 ≤ c) {h : Row} (i : IsH M h) : h.2.1 ≤ h.1 - 1 + c ∧ h.1 ≤ h.2.1 := by
  have o := i.2
  have m := (P (h.1 - 1)).mpr o.lo
  have fr := o.far
  refine ⟨?_, by omega⟩
  rcases Int.lt_or_le (h.1 - 1 + c) h.2.1 with q | q
  · exact absurd m (o.no _ (by omega) q)
  · exact q
theorem rp_due {c : Int} {f : Int → Int} {H H' : List Row} (p : Psg c f) (cle : c ≤ 10 ^ 30) (mg : -(10 ^ 150) ≤ f 0 ∧ f 0 ≤ 10 ^ 150) (h : Holes c (Lst f) H) (h' : Holes c (Im f) H') (l : H.length ≤ 1000) (l' : H'.length ≤ 1000) : RpOk (.lst [.lst (rowsT (H.map (platR f))), .lst (pairsT (H'.map gapR))]) := by
  refine (RpN.lst (w := 614 * 1000 + 3) (e := 2) 2 (Nat.le_refl _) fun d hd => ?_).rp (by decide) (by decide)
  simp only [List.mem_cons, List.not_mem_nil, or_false] at hd
  rcases hd with rfl | rfl
  · refine (RpN.lst (w := 612) (e := 1) 1000 (by rw [len_rowsT, List.length_map]; exact l) fun d hd => ?_)
    obtain ⟨r, hr, rfl⟩ := List.mem_map.mp hd
    obtain ⟨s, hs, rfl⟩ := List.mem_map.mp hr
    have a := (h.mem s).mp hs
    have b := hole_far (lst_per' p) p.pos a.2.2
    have g := mag_at p s.2.1
    exact rpn_row ⟨⟨by simp only [platR]; omega, by simp only [platR]; omega⟩, ⟨by simp only [platR]; omega, by simp only [platR]; omega⟩, by simp only [platR]; omega, by simp only [platR]; omega⟩
  · refine (RpN.lst (w := 612) (e := 1) 1000 (by rw [len_pairsT, List.length_map]; exact l') fun d hd => ?_)
    obtain ⟨r, hr, rfl⟩ := List.mem_map.mp hd
    obtain ⟨s, hs, rfl⟩ := List.mem_map.mp hr
    have a := (h'.mem s).mp hs
    have b := hole_far (im_per p) p.pos a.2.2
    refine (RpN.tup (w := 201) (e := 0) 2 (Nat.le_refl _) fun d hd => ?_ : RpN _ 1 (pairT (gapR s))).le (by decide) (Nat.le_refl _)
    simp only [List.mem_cons, List.not_mem_nil, or_false] at hd
    rcases hd with rfl | rfl
    · exact RpN.int (by simp only [gapR]; omega) (by simp only [gapR]; omega)
    · exact RpN.int (by simp only [gapR]; omega) (by simp only [gapR]; omega)
def sp_l_right : DSpec := fun zs cs k => match zs, cs with
  | [.c 0, .d (.int c), .d (.int m)], [x] => ∃ L, Spring L x ∧ (1 ≤ c ∧ c ≤ 10 ^ 30 ∧ 1 ≤ m ∧ m ≤ 400 ∧ L ≤ 10 ^ 7) ∧ ∀ x', Spring (L + 300000) x' → k (.d (.bl true)) [x']
  | _, _ => False
theorem len_l_right : ∀ zs cs q, sp_l_right zs cs q → zs.length = (["_law_spring_here", "_law_cycle_here", "_law_many"] : List Str).length := fun zs cs q h => by
  unfold sp_l_right at h
  split at h
  · rfl
  · exact h.elim
def t_l_right (cA : Str → Addr) : DS :=
  (dSeq (dAsg (dCall sp_l_drawn (dCons (dVar 0) (dCons (dVar 1) (dCons (dVar 2) dNil)))) (dgName 3))
  (dSeq (dPar 4 5 (dCons (dMake (cA "Passage") (sp_Passage_init cA) (dCons (dVar 1) (dCons (dCB tupOfD (dCons (dVar 3) dNil)) dNil))) (dCons (dCall sp_l_rows_due (dCons (dVar 1) (dCons (dVar 3) dNil))) dNil)))
  (dSeq (dIfS (dB (dOp ltD (dVar 1) (dC (.int 41)))) (dAsg (dCall sp_l_table_due (dCons (dLc (diR1 (dVar 1)) (dgName 7) dYes (dCall sp_l_to (dCons (dVar 1) (dCons (dVar 3) (dCons (dVar 7) dNil)))) [7]) dNil)) (dgName 5)) dNext)
  (dLock (dSeq (dAsg (dLst (dCons (dAdrF (dCall (sp_platoons cA) (dCons (dVar 4) dNil))) (dCons (dAdrF (dCall (sp_gaps cA) (dCons (dVar 4) dNil))) dNil))) (dgName 6))
  (dSeq (dIfS (dNot (dB (dCall sp_l_same (dCons (dVar 6) (dCons (dVar 5) dNil))))) (dRet (dC (.bl false))) dNext)
  (dSeq (dDrop (dAppendA (dOp ixD (dVar 6) (dC (.int 0))) (dC .non)))
  (dSeq (dDrop (dAppendA (dOp ixD (dVar 6) (dC (.int 1))) (dC .non)))
  (dRet (dCall sp_l_same (dCons (dLst (dCons (dCall (sp_platoons cA) (dCons (dVar 4) dNil)) (dCons (dCall (sp_gaps cA) (dCons (dVar 4) dNil)) dNil))) (dCons (dVar 5) dNil))))))))))))
theorem rd_l_right (cA : Str → Addr) : ∀ zs cs q, sp_l_right zs cs q → t_l_right cA (endD cs.length q) (startD ["_law_spring_here", "_law_cycle_here", "_law_many", "_law_rows_here", "_law_one", "_law_due", "_law_told", "_law_start"] zs) cs := fun zs cs q h => by
  unfold sp_l_right at h
  split at h
  rotate_left
  · exact h.elim
  simp only [startD, List.map_cons, List.map_nil, List.length_cons, List.length_nil, Nat.reduceAdd, Nat.zero_add, Nat.reduceSub, List.replicate_zero, List.replicate_succ, List.cons_append, List.nil_append, List.append_nil]
  rename_i c m x
  obtain ⟨L, hP, ⟨c1, cle, m1, m2, hL⟩, h⟩ := h
  unfold t_l_right
  refine seq_use ?_
  walk_at "ww"
  refine drawn_use hP ⟨c1, cle, m1, by omega, by omega⟩ fun F f b v x2 R fl W bd p2 => ?_
  have hb : ∀ r ∈ F, -(10 ^ 60) ≤ r.1 ∧ r.2.1 ≤ 10 ^ 60 ∧ -(10 ^ 60) ≤ r.2.2 ∧ r.2.2 ≤ 10 ^ 60 := fun r hr => by
    have := W.rng r hr
    have := W.ok r hr
    omega
  have mg := W.mag R
  refine lock_use ?_
  refine par_seq ?_
  refine make_use (cs1 := [x2]) (fun K h => by walk_at "ww"; exact h) R (by omega) fun o1 q1 l1 => ?_
  have P1 : Pas c f o1 100000 (10 ^ 150) := ⟨R.psg, q1, cle, by omega, by omega⟩
  walk_at "ww"
  refine ⟨F, f, b, v, rfl, ⟨R, W, by omega⟩, fun H H' h1 h2 hl1 hl2 => ?_⟩
  walk_at "ww"
  generalize hT : dLock _ _ = T
  have rpk := rp_due R.psg cle (by omega) h1 h2 (by omega) (by omega)
  have key : ∀ (o6 o7 : Option Z), T [some (Z.c 0), some (Z.d (D.int c)), some (Z.d (D.int m)), some (Z.d (D.lst (rowsT F))), some (Z.d (psgD cA c o1)), some (Z.d (.lst [.lst (rowsT (H.map (platR f))), .lst (pairsT (H'.map gapR))])), o6, o7] [x2] := fun o6 o7 => by
    subst hT
    refine lock_use ?_
    refine seq_use ?_
    simp only [u_dSeq, u_dAsg, u_dLst, u_dCons, u_dAdrF]
    walk_at "ww"
    refine ⟨c, f, o1, ⟨rfl, P1⟩, fun G g1 g2 => .inr ?_⟩
    have eG := g1.uniq h1
    subst eG
    show ∀ p, fnd [x2, .lst (rowsT (G.map (platR f)))] p = none → _
    intro p hp
    show sp_gaps cA [.d (psgD cA c o1)] [x2, .cel p (.lst (rowsT (G.map (platR f))))] _
    refine ⟨c, f, o1, ⟨rfl, P1⟩, fun G' g3 g4 => .inr ?_⟩
    have eG := g3.uniq h2
    subst eG
    show ∀ r, fnd [x2, .cel p (.lst (rowsT (G.map (platR f)))), .lst (pairsT (G'.map gapR))] r = none → _
    intro r hr
    obtain ⟨sx, rfl⟩ : ∃ sx, x2 = .lst sx := by
      obtain ⟨a, b2, n, rfl, _⟩ := p2
      exact ⟨_, rfl⟩
    have pr : p ≠ r := fun e => by
      subst e
      rw [fnd_no (fun _ _ e => by cases e), fnd_cel, if_pos rfl] at hr
      cases hr
    have f1 : fnd [D.lst sx, .cel p (.lst (rowsT (G.map (platR f)))), .cel r (.lst (pairsT (G'.map gapR)))] p = some (.lst (rowsT (G.map (platR f)))) := by
      rw [fnd_no (fun _ _ e => by cases e), fnd_cel, if_pos rfl]
    have f2 : fnd [D.lst sx, .cel p (.lst (rowsT (G.map (platR f)))), .cel r (.lst (pairsT (G'.map gapR)))] r = some (.lst (pairsT (G'.map gapR))) := by
      rw [fnd_no (fun _ _ e => by cases e), fnd_cel, if_neg pr, fnd_cel, if_pos rfl]
    refine lock_use ?_
    walk_at "ww"
    refine ⟨⟨?_, rfl, rpk⟩, ?_⟩
    · show D.lst [(fnd _ p).getD _, (fnd _ r).getD _] = _
      rw [f1, f2]
      rfl
    walk_at "ww"
    rw [u_dAppendA]
    walk_at "ww"
    simp only [f1]
    have pa : ∀ X A B, putA [D.lst sx, .cel p A, .cel r B] p X = [D.lst sx, .cel p X, .cel r B] := fun X A B => by simp [putA, put1, Ne.symm pr]
    have pb : ∀ X A B, putA [D.lst sx, .cel p A, .cel r B] r X = [D.lst sx, .cel p A, .cel r X] := fun X A B => by simp [putA, put1, pr]
    rw [pa]
    have f3 : ∀ A, fnd [D.lst sx, .cel p A, .cel r (.lst (pairsT (G'.map gapR)))] r = some (.lst (pairsT (G'.map gapR))) := fun A => by
      rw [fnd_no (fun _ _ e => by cases e), fnd_cel, if_neg pr, fnd_cel, if_pos rfl]
    refine ⟨lim_lt (by rw [len_rowsT, List.length_map]; omega), ?_⟩
    rw [u_dAppendA]
    walk_at "ww"
    simp only [f3]
    rw [pb]
    refine ⟨lim_lt (by rw [len_pairsT, List.length_map]; omega), ?_⟩
    refine ⟨c, f, o1, ⟨rfl, P1⟩, fun H3 g5 g6 => .inl ?_⟩
    have e3 := g5.uniq h1
    subst e3
    walk_at "ww"
    refine ⟨c, f, o1, ⟨rfl, P1⟩, fun H4 g7 g8 => .inl ?_⟩
    have e4 := g7.uniq h2
    subst e4
    walk_at "ww"
    refine ⟨⟨rfl, rfl, rpk⟩, ?_⟩
    walk_at "ww"
    exact h _ (p2.le (by omega))
  by_cases small : c < 41
  · simp only [small, decide_true, if_true]
    obtain ⟨n, rfl⟩ : ∃ n : Nat, c = n := ⟨c.toNat, by omega⟩
    refine dLc_mk (rgD 0 n) yes [x2] (fun K h => by walk_at "ww"; exact ⟨⟨by omega, by omega⟩, by simpa using h⟩) (fun d => match d with
      | .int i => .int (f i)
      | _ => .non) (by rw [rgD_len]; omega) (fun i d acc hd P hP => ?_) ?_ (fun _ => trivial)
    · obtain ⟨hi, rfl⟩ := rgD_get hd
      simp only at hP
      walk_at "ww"
      exact to_use R (by omega) (by omega) hP
    rw [tab_rg fun _ => rfl]
    walk_at "ww"
    refine ⟨f, n, rfl, ⟨R.psg, by omega, by omega, by omega⟩, fun G G' g1 g2 g3 g4 => ?_⟩
    have e1 := g1.uniq h1
    have e2 := g2.uniq h2
    subst e1 e2
    walk_at "ww"
    exact key _ _
  · simp only [small, decide_false, Bool.false_eq_true, if_false]
    exact key _ _
theorem tenH {f : Int → Int} (R : RowsOk 10 f [((2, 3, 5) : Row)]) : Holes 10 (Lst f) [(4, 12, 0)] ∧ Holes 10 (Im f) [(7, 15, 0)] ∧ f 12 = 15 ∧ f 0 = 5 := by
  have W : Win 10 2 5 [((2, 3, 5) : Row)] (2 + 10) (5 + 10) := ⟨R.val.ok, R.val.bef, fun r hr => by cases List.mem_singleton.mp hr; simp only; omega⟩
  obtain ⟨rl, w⟩ := walkF_of R W
  have el : rl = (2, 3, 5) := by
    have := w.last
    cases this
    rfl
  subst el
  have LP := lst_per' R.psg
  have IP := im_per R.psg
  obtain ⟨r1, r2, r3, _⟩ := w.run (2, 3, 5) List.mem_cons_self
  obtain ⟨a1, a2⟩ := w.first (2, 3, 5) rfl
  have l0 := w.lst0
  have p0 := w.per0
  simp only at r1 r2 r3 a1 a2 l0 p0
  have e37 : (3 : Int) - 10 = -7 := by decide
  have e36 : (-7 : Int) + 1 = -6 := by decide
  rw [e37] at l0 p0 a2
  rw [e37, e36] at a1
  have va := a1.val R.psg
  have f7 : f (-7) = -4 := by
    have e : f 3 = 6 := by rw [r2]; decide
    rw [e] at p0
    omega
  have s1 := (Part2.nil (c := 10) (M := Lst f) (by decide) (-7)).step (by decide) LP (Int.le_refl _) l0 (s := 2) (l := 3) (by decide) (by decide) (by decide) (fun y h1 h2 => a1.no y (by omega) h2) (fun y h1 h2 => (r3 y h1 h2).1)
  have s2 := (Part2.nil (c := 10) (M := Im f) (by decide) (-4)).step (by decide) IP (Int.le_refl _) ⟨-7, f7⟩ (s := 5) (l := 6) (by decide) (by decide) (by decide) (fun y h1 h2 ⟨x, e⟩ => by
      rcases Int.lt_or_le (-7) x with z | z
      · have := R.psg.mono (-6) x (by omega)
        have : f (-6) = 5 := by
          have e6 := va
          simp only at e6
          omega
        omega
      · have := R.psg.mono x (-7) z
        omega) (fun y h1 h2 => ⟨2 + (y - 5), by have := (r3 (2 + (y - 5)) (by omega) (by omega)).2; omega⟩)
  refine ⟨Part2.holes (by decide) s1 (List.Perm.refl _) (by simp), Part2.holes (by decide) s2 (List.Perm.refl _) (by simp), ?_, ?_⟩
  · have := R.psg.per 2
    have e : (2 : Int) + 10 = 12 := by decide
    rw [e] at this
    omega
  · have h := a1.no
    have v0 : At f (2, 3, 5) 0 := ⟨a1.ok, by decide, a1.on, fun y h1 h2 => a1.no y (by omega) h2⟩
    have := v0.val R.psg
    simp only at this
    omega
def sp_law : DSpec := fun zs cs k => match zs, cs with
  | [.d (.scr ns)], [] => ns.length ≤ 63 ∧ k (.d (.bl true)) []
  | _, _ => False
theorem len_law : ∀ zs cs q, sp_law zs cs q → zs.length = (["_law_script"] : List Str).length := fun zs cs q h => by
  unfold sp_law at h
  split at h
  · rfl
  · exact h.elim
def t_law (cA : Str → Addr) : DS :=
  (dSeq (dFor (diR1 (dCB maxD (dCons (dC (.int 1)) (dCons (dCB minD (dCons (dC (.int 5)) (dCons (dCB lenD (dCons (dVar 0) dNil)) dNil))) dNil)))) (dgName 1) (dSeq (dAsg (dCall sp_l_spring (dCons (dVar 0) (dCons (dVar 1) dNil))) (dgName 2))
  (dSeq (dFor (diR1 (dIf (dB (dOp eqUD (dVar 1) (dC (.int 0)))) (dC (.int 4)) (dC (.int 2)))) (dgName 3) (dIfS (dNot (dB (dCall sp_l_right (dCons (dVar 2) (dCons (dCall sp_l_cycle (dCons (dVar 2) dNil)) (dCons (dC (.int 9)) dNil)))))) (dRet (dC (.bl false))) dNext))
  (dIfS (dAnd (dB (dOp eqUD (dVar 1) (dC (.int 0)))) (dNot (dB (dCall sp_l_right (dCons (dVar 2) (dCons (dOp subD (dOp powD (dC (.int 10)) (dC (.int 30))) (dCall sp_l_take (dCons (dVar 2) (dCons (dC (.int 9)) dNil)))) (dCons (dC (.int 400)) dNil))))))) (dRet (dC (.bl false))) dNext))))
  (dSeq (dAsg (dMake (cA "Passage") (sp_Passage_init cA) (dCons (dC (.int 10)) (dCons (dTup (dCons (dTup (dCons (dC (.int 2)) (dCons (dC (.int 3)) (dCons (dC (.int 5)) dNil)))) dNil)) dNil))) (dgName 4))
  (dRet (dOp eqUD (dLst (dCons (dCall (sp_platoons cA) (dCons (dVar 4) dNil)) (dCons (dCall (sp_gaps cA) (dCons (dVar 4) dNil)) dNil))) (dLst (dCons (dLst (dCons (dTup (dCons (dC (.int 4)) (dCons (dC (.int 12)) (dCons (dC (.int 15)) dNil)))) dNil)) (dCons (dLst (dCons (dTup (dCons (dC (.int 7)) (dCons (dC (.int 14)) dNil))) dNil)) dNil)))))))
theorem rd_law (cA : Str → Addr) : ∀ zs cs q, sp_law zs cs q → t_law cA (endD cs.length q) (startD ["_law_script", "_law_k", "_law_spring_here", "_law_turn", "_law_one"] zs) cs := fun zs cs q h => by
  unfold sp_law at h
  split at h
  rotate_left
  · exact h.elim
  simp only [startD, List.map_cons, List.map_nil, List.length_cons, List.length_nil, Nat.reduceAdd, Nat.zero_add, Nat.reduceSub, List.replicate_zero, List.replicate_succ, List.cons_append, List.nil_append, List.append_nil]
  rename_i ns
  obtain ⟨hn, h⟩ := h
  unfold t_law
  try walk_at "dl"
  refine dFor_mk (rgD 0 (max 1 (min 5 (ns.length : Int))).toNat) yes [] (fun K h => by walk_at "dl"; exact ⟨⟨by omega, by omega⟩, h⟩) (fun i en c1 => ∃ o1 o2 o3 : Option Z, en = [some (.d (.scr ns)), o1, o2, o3, none] ∧ c1 = [])
    ⟨_, _, _, rfl, rfl⟩ (fun i d en c1 hd hI => ?_) (fun en c1 hI => ?_) (fun _ _ _ _ => trivial)
  · obtain ⟨hi, rfl⟩ := rgD_get hd
    obtain ⟨o1, o2, o3, rfl, rfl⟩ := hI
    try walk_at "dl"
    refine ⟨⟨by omega, by omega⟩, fun x0 hx0 => ?_⟩
    try walk_at "dl"
    obtain ⟨N, hN, hN3⟩ : ∃ N : Nat, (if decide ((0 : Int) + (i : Int) = 0) = true then (4 : Int) else 2) = N ∧ N ≤ 4 := by
      split
      · exact ⟨4, rfl, by decide⟩
      · exact ⟨2, rfl, by decide⟩
    refine dFor_mk (rgD 0 N) yes [x0] (fun K h => by
        walk_at "dl"
        split
        · rename_i e
          rw [if_pos e] at hN
          have : N = 4 := by omega
          subst this
          exact ⟨⟨by decide, by decide⟩, h⟩
        · rename_i e
          rw [if_neg e] at hN
          have : N = 2 := by omega
          subst this
          exact ⟨⟨by decide, by decide⟩, h⟩) (fun j en c1 => ∃ (x : D) (o3 : Option Z), en = [some (.d (.scr ns)), some (.d (.int (0 + (i : Int)))), some (.c 0), o3, none] ∧ c1 = [x] ∧ Spring (j * 1001000) x)
      ⟨_, _, rfl, rfl, hx0.le (by omega)⟩ (fun j d en c1 hd hI => ?_) (fun en c1 hI => ?_) (fun _ _ _ _ => trivial)
    · obtain ⟨hj, rfl⟩ := rgD_get hd
      obtain ⟨x, o3, rfl, rfl, hp⟩ := hI
      try walk_at "dl"
      refine ⟨_, hp, by omega, fun c x1 c1 cle p1 => ?_⟩
      try walk_at "dl"
      refine ⟨_, p1, ⟨c1, cle, by omega, by omega, by omega⟩, fun x2 p2 => ?_⟩
      try walk_at "dl"
      exact .inl ⟨x2, _, rfl, rfl, p2.le (by omega)⟩
    · obtain ⟨x, o3, rfl, rfl, hp⟩ := hI
      rw [rgD_len] at hp
      try walk_at "dl"
      split
      · refine ⟨Sm.of (by decide) (by decide), ⟨_, hp, ⟨by decide, by decide, by omega⟩, fun t x1 t0 t1 p1 => ?_⟩⟩
        walk_at "dl"
        refine ⟨_, p1, ⟨by omega, by omega, by decide, by decide, by omega⟩, fun x2 p2 => ?_⟩
        refine ⟨true, rfl, ?_⟩
        exact .inr ⟨0, Nat.le_refl _, _, _, _, rfl, rfl⟩
      · exact .inr ⟨0, Nat.le_refl _, _, _, _, rfl, rfl⟩
  · obtain ⟨o1, o2, o3, rfl, rfl⟩ := hI
    walk_at "dl"
    have V1 : Val 10 [((2, 3, 5) : Row)] := ⟨by simp, fun r hr => by cases List.mem_singleton.mp hr; decide, by simp, fun r hr s hs => by
      cases List.mem_singleton.mp hr
      cases List.mem_singleton.mp hs
      simp only [Bef, mv]; omega⟩
    obtain ⟨f, pf, cf⟩ := fun_of (c := 10) (by decide) V1
    have R1 : RowsOk 10 f [((2, 3, 5) : Row)] := ⟨pf, by decide, V1, cf, by decide, fun r hr => by
      cases List.mem_singleton.mp hr
      exact ⟨⟨by decide, by decide⟩, ⟨by decide, by decide⟩, ⟨by decide, by decide⟩⟩⟩
    obtain ⟨t1, t2, t3, t4⟩ := tenH R1
    simp only [sp_Passage_init]
    refine ⟨rfl, [(2, 3, 5)], f, rfl, ⟨R1, by decide⟩, fun o1 c1 l1 => ?_⟩
    refine ⟨trivial, ["own_cycle", "own_runs"], [.int 10, .tup (rowsT o1)], rfl, .inl ?_⟩
    simp only [fold_psg]
    have P1 : Pas 10 f o1 100000 (10 ^ 150) := ⟨pf, c1, by decide, by simp at l1; omega, by rw [t4]; decide⟩
    refine ⟨10, f, o1, ⟨rfl, P1⟩, fun H g1 g2 => .inl ?_⟩
    have e1 := g1.uniq t1
    subst e1
    refine ⟨10, f, o1, ⟨rfl, P1⟩, fun H g3 g4 => .inl ?_⟩
    have e2 := g3.uniq t2
    subst e2
    have e3 : rowsT (List.map (platR f) [((4, 12, 0) : Row)]) = [.tup [.int 4, .int 12, .int 15]] := by
      show [D.tup [.int 4, .int 12, .int (f 12)]] = _
      rw [t3]
    rw [e3]
    walk_at "dl"
    refine ⟨⟨⟨by decide +kernel, by decide +kernel⟩, ⟨by decide +kernel, by decide +kernel⟩⟩, ?_⟩
    have ev : eqvD (.lst [.lst [.tup [.int 4, .int 12, .int 15]], .lst (pairsT [gapR ((7, 15, 0) : Row)])]) (.lst [.lst [.tup [.int 4, .int 12, .int 15]], .lst [.tup [.int 7, .int 14]]]) = true := by decide +kernel
    rw [ev]
    exact h
theorem law_true : ∀ ns : List Int, ns.length ≤ 63 → sp_law [.d (.scr ns)] [] fun z _ => z = .d (.bl true) := fun ns h => ⟨h, rfl⟩
end K10
set_option Elab.async false
set_option linter.all false
set_option maxRecDepth 100000
set_option maxHeartbeats 2000000
set_option autoImplicit false
/-! DLZU: dicts whose keys are tuples; lists with starred ranges -/
namespace DL
open PySem PySem.Spec PyProof.Rows L2
def getT (kvs : List (List Key × D)) (k : List Key) : Option D := (kvs.find? fun kv => decide (kv.1 = k)).map (·.2)
def setT (kvs : List (List Key × D)) (k : List Key) (d : D) : List (List Key × D) := if (kvs.any fun kv => decide (kv.1 = k)) = true then kvs.map fun kv => if kv.1 = k then (kv.1, d) else kv else kvs ++ [(k, d)]
theorem getT_nil (k : List Key) : getT [] k = none := rfl
theorem getT_cons (p : List Key × D) (r : List (List Key × D)) (k : List Key) : getT (p :: r) k = if p.1 = k then some p.2 else getT r k := by
  unfold getT
  rw [List.find?_cons]
  by_cases h : p.1 = k
  · rw [decide_eq_true h, if_pos h]; rfl
  · rw [decide_eq_false h, if_neg h]
theorem getT_none {kvs : List (List Key × D)} {k : List Key} (h : ∀ kv ∈ kvs, kv.1 ≠ k) : getT kvs k = none := by
  induction kvs with
  | nil => rfl
  | cons p r ih => rw [getT_cons, if_neg (h p List.mem_cons_self), ih fun kv m => h kv (List.mem_cons_of_mem _ m)]
theorem getT_app {a b : List (List Key × D)} {k : List Key} (h : ∀ kv ∈ a, kv.1 ≠ k) : getT (a ++ b) k = getT b k := by
  induction a with
  | nil => rfl
  | cons p r ih => rw [List.cons_append, getT_cons, if_neg (h p List.mem_cons_self), ih fun kv m => h kv (List.mem_cons_of_mem _ m)]
theorem setT_new {kvs : List (List Key × D)} {k : List Key} {d : D} (h : ∀ kv ∈ kvs, kv.1 ≠ k) : setT kvs k d = kvs ++ [(k, d)] := by
  unfold setT
  rw [if_neg]
  intro q
  obtain ⟨kv, m, e⟩ := List.any_eq_true.mp q
  exact h kv m (of_decide_eq_true e)
section
variable {K : PySem.W.Frag} {S H : Hp}
theorem KTD.len : ∀ {kvs : List (List Key × D)} {l : List (List Key × V)}, KTD K S kvs l → l.length = kvs.length
  | [], _, h => by rw [show _ = [] from h]; rfl
  | _ :: r, _, ⟨v, l', h1, h2, h3⟩ => by rw [h1, List.length_cons, List.length_cons, KTD.len h3]
theorem KTD.get : ∀ {kvs : List (List Key × D)} {l : List (List Key × V)} (k : List Key), KTD K S kvs l → (getT kvs k = none ∧ valV l k = none) ∨ ∃ d v, getT kvs k = some d ∧ valV l k = some v ∧ Is K S d v
  | [], _, k, h => by rw [show _ = [] from h]; exact .inl ⟨rfl, rfl⟩
  | kd :: r, _, k, h => by
    obtain ⟨v, l', rfl, h2, h3⟩ := h
    rw [getT_cons]
    by_cases e : kd.1 = k
    · rw [if_pos e]
      exact .inr ⟨kd.2, v, rfl, valV_pos (p := (kd.1, v)) e, h2⟩
    · rw [if_neg e, valV_neg (p := (kd.1, v)) e]
      exact KTD.get k h3
theorem KTD.snoc {d : D} {v : V} {k : List Key} (hd : Is K S d v) : ∀ {kvs : List (List Key × D)} {l : List (List Key × V)}, KTD K S kvs l → KTD K S (kvs ++ [(k, d)]) (l ++ [(k, v)])
  | [], _, h => by rw [show _ = [] from h]; exact ⟨v, [], rfl, hd, rfl⟩
  | kd :: r, _, h => by
    obtain ⟨v', l', rfl, h2, h3⟩ := h
    exact ⟨v', _, rfl, h2, KTD.snoc hd h3⟩
theorem KTD.mapK {d : D} {v : V} {k : List Key} (hd : Is K S d v) : ∀ {kvs : List (List Key × D)} {l : List (List Key × V)}, KTD K S kvs l → KTD K S (kvs.map fun kv => if kv.1 = k then (kv.1, d) else kv) (l.map fun kv => if kv.1 = k then (kv.1, v) else kv)
  | [], _, h => by rw [show _ = [] from h]; exact rfl
  | kd :: r, _, h => by
    obtain ⟨v', l', rfl, h2, h3⟩ := h
    rw [List.map_cons, List.map_cons]
    by_cases e : kd.1 = k
    · rw [if_pos e, if_pos (show (kd.1, v').1 = k from e)]
      exact ⟨v, _, rfl, hd, KTD.mapK hd h3⟩
    · rw [if_neg e, if_neg (show ¬ (kd.1, v').1 = k from e)]
      exact ⟨v', _, rfl, h2, KTD.mapK hd h3⟩
theorem KTD.any {k : List Key} : ∀ {kvs : List (List Key × D)} {l : List (List Key × V)}, KTD K S kvs l → (l.any fun kv => decide (kv.1 = k)) = (kvs.any fun kv => decide (kv.1 = k))
  | [], _, h => by rw [show _ = [] from h]; rfl
  | kd :: r, _, h => by
    obtain ⟨v', l', rfl, h2, h3⟩ := h
    rw [List.any_cons, List.any_cons, KTD.any h3]
theorem KTD.put {d : D} {v : V} {k : List Key} {kvs : List (List Key × D)} {l : List (List Key × V)} (h : KTD K S kvs l) (hd : Is K S d v) : KTD K S (setT kvs k d) (putK l k v) := by
  unfold setT putK
  rw [h.any]
  split
  · exact h.mapK hd
  · exact h.snoc hd
theorem isL_kD : ∀ {ks : List Key} {vs : List V}, IsL K S (ks.map kD) vs → vs = ks.map kV
  | [], _, h => by rw [show _ = [] from h]; rfl
  | k :: r, _, h => by
    obtain ⟨v, l', rfl, h2, h3⟩ := h
    rw [isL_kD h3, List.map_cons]
    congr 1
    cases k with
    | inl i => exact h2
    | inr x => exact h2
theorem entD_inj : ∀ {a b : List (List Key × D)}, a.map entD = b.map entD → a = b
  | [], [], _ => rfl
  | [], _ :: _, h => by cases h
  | _ :: _, [], h => by cases h
  | x :: a, y :: b, h => by
    rw [List.map_cons, List.map_cons, List.cons.injEq] at h
    rw [entD_inj h.2]
    congr 1
    obtain ⟨x1, x2⟩ := x
    obtain ⟨y1, y2⟩ := y
    have h1 := h.1
    unfold entD at h1
    simp only [D.tup.injEq, List.cons.injEq, and_true] at h1
    obtain ⟨h1, h2⟩ := h1
    rw [h2]
    have : ∀ {p q : List Key}, p.map kD = q.map kD → p = q := by
      intro p
      induction p with
      | nil => intro q h; cases q with
        | nil => rfl
        | cons _ _ => cases h
      | cons u p ih => intro q h; cases q with
        | nil => cases h
        | cons w q =>
          rw [List.map_cons, List.map_cons, List.cons.injEq] at h
          rw [ih h.2]
          congr 1
          have h3 := h.1
          cases u <;> cases w
          · exact congrArg Sum.inl (D.int.inj h3)
          · cases h3
          · cases h3
          · exact congrArg Sum.inr (D.str.inj h3)
    rw [this h1]
end
/-- what a dict with tuple keys holds: its cell -/
def tabC (p : Addr) (kd : List (List Key × D)) : D := .cel p (.cel p (.lst (kd.map entD)))
/-- a tuple that is known to be a new one -/
def keyF (p : Addr) (ks : List Key) : D := .cel p (.tup (ks.map kD))
section
variable {X : Cx} {pos : Pos}
theorem cel_tab {K : PySem.W.Frag} {S H : Hp} {as : List Addr} {cs : Cs} (r : Rep K S H as cs) {n : Nat} {a p : Addr} {kd : List (List Key × D)} (ha : as[n]? = some a) (hc : cs[n]? = some (tabC p kd)) : p = a ∧ S a = none ∧ ∃ kvs, H a = some (.dT kvs) ∧ KTD K S kd kvs := by
  obtain ⟨h1, _, h3, kd', kvs, e, h4, h5⟩ := (show CelAt K S H a (.cel p (.cel p (.lst (kd.map entD)))) from r.cel n a _ ha hc)
  rw [entD_inj e]
  exact ⟨h1, h3, kvs, h4, h5⟩
theorem key_at {K : PySem.W.Frag} {S H : Hp} (e : Sub S H) {p : Addr} {ks : List Key} {v : V} (h : Is K S (keyF p ks) v) : v = .ref p ∧ H p = some (.tup (ks.map kV)) := by
  obtain ⟨h1, vs, h2, h3⟩ := (show v = .ref p ∧ ∃ vs, S p = some (.tup vs) ∧ IsL K S (ks.map kD) vs from h)
  rw [isL_kD h3] at h2
  exact ⟨h1, e _ _ h2⟩
/-- (a, b), a tuple that will be a key -/
def dTupF (a : DA) : DE := fun en cs k => a en cs fun zs cs1 => datL zs fun ds => ds.length ≤ LIM ∧ ∀ p, k (.d (.cel p (.tup ds))) cs1
theorem u_dTupF (a : DA) (en : En) (cs : Cs) (k : Z → Cs → Prop) : dTupF a en cs k = (a en cs fun zs cs1 => datL zs fun ds => ds.length ≤ LIM ∧ ∀ p, k (.d (.cel p (.tup ds))) cs1) := nd rfl
theorem q_tupF {es : List Expr} {x1} {ta : TA} {da : DA} (ha : QA X es ta da) : QE X (.Tuple es x1 pos) (tTup ta) (dTupF da) := by
  refine ⟨pe_tup ha.pa, ?_⟩
  intro σ H S as en cs k Q rp e q p
  refine ha.sem σ H S as en cs _ _ rp e q fun zs vs S1 H1 as1 cs1 e1 r1 v1 q1 => ?_
  obtain ⟨ds, i, hz, q1⟩ := datL_is v1 q1
  refine ⟨by rw [i.len]; exact size_of hz, fun a na => ?_⟩
  refine p (.d (.cel a (.tup ds))) (.ref a) _ _ as1 cs1 (e1.trans (r1.ext na (.tup vs))) (r1.lay na _) ⟨rfl, vs, upd_same, IsL.mono (Sub.new (r1.sub.free na)) _ _ i⟩ (q1 a)
/-- {} that will be filled, its keys tuples -/
def dDicT : DE := fun _ cs k => ∀ p, k (.c cs.length) (cs ++ [tabC p []])
theorem u_dDicT (b0 : En) (cs : Cs) (k : Z → Cs → Prop) : dDicT b0 cs k = (∀ p, k (.c cs.length) (cs ++ [tabC p []])) := nd rfl
theorem q_dicT : QE X (.Dict [] [] pos) tDNewT dDicT := by
  refine ⟨pe_dnewT, ?_⟩
  intro σ H S as en cs k Q r e q p
  intro a na
  exact p (.c cs.length) (.ref a) S _ (as ++ [a]) _ ⟨Sub.refl _, [a], rfl⟩ (r.cell na (c := tabC a []) ⟨rfl, rfl, r.sub.free na, [], [], rfl, upd_same, rfl⟩) ⟨a, r.get_new a, rfl⟩ (q a)
/-- key in dict -/
def dInT (neg : Bool) (a b : DE) : DE := fun en cs k => a en cs fun x cs1 => b en cs1 fun y cs2 => ∃ (p : Addr) (ks : List Key) (n : Nat) (c : Addr) (kd : List (List Key × D)), x = .d (keyF p ks) ∧ y = .c n ∧ cs2[n]? = some (tabC c kd) ∧ k (.d (.bl (if neg = true then !(getT kd ks).isSome else (getT kd ks).isSome))) cs2
theorem u_dInT (neg : Bool) (a b : DE) (en : En) (cs : Cs) (k : Z → Cs → Prop) : dInT neg a b en cs k = (a en cs fun x cs1 => b en cs1 fun y cs2 => ∃ (p : Addr) (ks : List Key) (n : Nat) (c : Addr) (kd : List (List Key × D)), x = .d (keyF p ks) ∧ y = .c n ∧ cs2[n]? = some (tabC c kd) ∧ k (.d (.bl (if neg = true then !(getT kd ks).isSome else (getT kd ks).isSome))) cs2) := nd rfl
theorem q_inTd {a b : Expr} {ta tb : TE} {da db : DE} (hu : X.A.units + 1 < cLine) (ha : QE X a ta da) (hb : QE X b tb db) (hm : behindInMarks .In b = false := by rfl) : QE X (.Compare a [.In] [b] pos) (tDIn ta tb) (dInT false da db) := by
  refine ⟨pe_cmp (pc_din hu ha.pe hb.pe) hm, ?_⟩
  intro σ H S as en cs k Q rp e q p
  refine ha.sem.use rp e q fun z v S1 H1 as1 cs1 e1 r1 v1 q1 => ?_
  refine hb.sem.use r1 (e.mono e1) q1 fun z2 v2 S2 H2 as2 cs2 e2 r2 w2 q2 => ?_
  obtain ⟨pa, ks, n, c, kd, rfl, rfl, hc, q2⟩ := q2
  obtain ⟨ad, ha2, rfl⟩ := w2
  obtain ⟨_, _, kvs, h1, h2⟩ := cel_tab r2 ha2 hc
  obtain ⟨rfl, hk⟩ := key_at r2.sub (v1.mono e2)
  refine ⟨ad, _, rfl, DGet.t h1 hk, p _ _ S2 H2 as2 cs2 (e1.trans e2) r2 ?_ q2⟩
  rw [if_neg (by decide)]
  rcases h2.get ks with ⟨g1, g2⟩ | ⟨d, u, g1, g2, _⟩ <;> (rw [g1, g2]; exact rfl)
theorem q_notinTd {a b : Expr} {ta tb : TE} {da db : DE} (hu : X.A.units + 1 < cLine) (ha : QE X a ta da) (hb : QE X b tb db) (hm : behindInMarks .NotIn b = false := by rfl) : QE X (.Compare a [.NotIn] [b] pos) (tDNotIn ta tb) (dInT true da db) := by
  refine ⟨pe_cmp (pc_dnotin hu ha.pe hb.pe) hm, ?_⟩
  intro σ H S as en cs k Q rp e q p
  refine ha.sem.use rp e q fun z v S1 H1 as1 cs1 e1 r1 v1 q1 => ?_
  refine hb.sem.use r1 (e.mono e1) q1 fun z2 v2 S2 H2 as2 cs2 e2 r2 w2 q2 => ?_
  obtain ⟨pa, ks, n, c, kd, rfl, rfl, hc, q2⟩ := q2
  obtain ⟨ad, ha2, rfl⟩ := w2
  obtain ⟨_, _, kvs, h1, h2⟩ := cel_tab r2 ha2 hc
  obtain ⟨rfl, hk⟩ := key_at r2.sub (v1.mono e2)
  refine ⟨ad, _, rfl, DGet.t h1 hk, p _ _ S2 H2 as2 cs2 (e1.trans e2) r2 ?_ q2⟩
  rw [if_pos rfl]
  rcases h2.get ks with ⟨g1, g2⟩ | ⟨d, u, g1, g2, _⟩ <;> (rw [g1, g2]; exact rfl)
theorem q_inTdT {a b : Expr} {ta tb : TE} {da db : DE} (hu : X.A.units + 1 < cLine) (ha : QE X a ta da) (hb : QE X b tb db) (hm : behindInMarks .In b = false := by rfl) : QT X (.Compare a [.In] [b] pos) (tB (tDIn ta tb)) (dB (dInT false da db)) := by
  refine ⟨pt_cmp (pc_din hu ha.pe hb.pe) hm, ?_⟩
  intro σ H S as en cs k Q rp e q p
  refine (q_inTd (pos := pos) hu ha hb hm).sem.use rp e q fun z v S1 H1 as1 cs1 e1 r1 v1 q1 => ?_
  obtain ⟨b, rfl, q1⟩ := q1
  exact ⟨b, v1, p b S1 H1 as1 cs1 e1 r1 q1⟩
theorem q_notinTdT {a b : Expr} {ta tb : TE} {da db : DE} (hu : X.A.units + 1 < cLine) (ha : QE X a ta da) (hb : QE X b tb db) (hm : behindInMarks .NotIn b = false := by rfl) : QT X (.Compare a [.NotIn] [b] pos) (tB (tDNotIn ta tb)) (dB (dInT true da db)) := by
  refine ⟨pt_cmp (pc_dnotin hu ha.pe hb.pe) hm, ?_⟩
  intro σ H S as en cs k Q rp e q p
  refine (q_notinTd (pos := pos) hu ha hb hm).sem.use rp e q fun z v S1 H1 as1 cs1 e1 r1 v1 q1 => ?_
  obtain ⟨b, rfl, q1⟩ := q1
  exact ⟨b, v1, p b S1 H1 as1 cs1 e1 r1 q1⟩
/-- d[k] -/
def dGetT (a b : DE) : DE := fun en cs k => a en cs fun x cs1 => b en cs1 fun y cs2 => ∃ (p : Addr) (ks : List Key) (n : Nat) (c : Addr) (kd : List (List Key × D)) (d : D), x = .c n ∧ y = .d (keyF p ks) ∧ cs2[n]? = some (tabC c kd) ∧ getT kd ks = some d ∧ k (.d d) cs2
theorem u_dGetT (a b : DE) (en : En) (cs : Cs) (k : Z → Cs → Prop) : dGetT a b en cs k = (a en cs fun x cs1 => b en cs1 fun y cs2 => ∃ (p : Addr) (ks : List Key) (n : Nat) (c : Addr) (kd : List (List Key × D)) (d : D), x = .c n ∧ y = .d (keyF p ks) ∧ cs2[n]? = some (tabC c kd) ∧ getT kd ks = some d ∧ k (.d d) cs2) := nd rfl
theorem q_getT {a b : Expr} {ta tb : TE} {da db : DE} (hu : X.A.units + 1 < cLine) (ha : QE X a ta da) (hb : QE X b tb db) (hs : NoSl b) : QE X (.Subscript a b pos) (tDGet ta tb) (dGetT da db) := by
  refine ⟨pe_dget hu ha.pe hb.pe hs, ?_⟩
  intro σ H S as en cs k Q rp e q p
  refine ha.sem.use rp e q fun z v S1 H1 as1 cs1 e1 r1 v1 q1 => ?_
  refine hb.sem.use r1 (e.mono e1) q1 fun z2 v2 S2 H2 as2 cs2 e2 r2 w2 q2 => ?_
  obtain ⟨pa, ks, n, c, kd, d, rfl, rfl, hc, hd, q2⟩ := q2
  obtain ⟨ad, ha2, rfl⟩ := v1.mono e2
  obtain ⟨_, _, kvs, h1, h2⟩ := cel_tab r2 ha2 hc
  obtain ⟨rfl, hk⟩ := key_at r2.sub w2
  rcases h2.get ks with ⟨g1, g2⟩ | ⟨d', u, g1, g2, g3⟩
  · rw [g1] at hd; cases hd
  · rw [g1] at hd; cases hd
    have g := DGet.t h1 hk
    rw [g2] at g
    exact ⟨ad, u, rfl, g, p (.d _) u S2 H2 as2 cs2 (e1.trans e2) r2 g3 q2⟩
/-- d[k] = v -/
def dPutT (a b c : DE) : DS := fun D en cs => c en cs fun z cs1 => a en cs1 fun x cs2 => b en cs2 fun y cs3 => ∃ (p : Addr) (ks : List Key) (n : Nat) (c : Addr) (kd : List (List Key × DL.D)) (dz : DL.D), x = .c n ∧ y = .d (keyF p ks) ∧ z = .d dz ∧ cs3[n]? = some (tabC c kd) ∧ kd.length < LIM ∧ D.nx en (cs3.set n (tabC c (setT kd ks dz)))
theorem u_dPutT (a b c : DE) (D0 : DEnds) (en : En) (cs : Cs) : dPutT a b c D0 en cs = (c en cs fun z cs1 => a en cs1 fun x cs2 => b en cs2 fun y cs3 => ∃ (p : Addr) (ks : List Key) (n : Nat) (c : Addr) (kd : List (List Key × DL.D)) (dz : DL.D), x = .c n ∧ y = .d (keyF p ks) ∧ z = .d dz ∧ cs3[n]? = some (tabC c kd) ∧ kd.length < LIM ∧ D0.nx en (cs3.set n (tabC c (setT kd ks dz)))) := nd rfl
theorem qs_putT {o i v : Expr} {to ti tv : TE} {od id vd : DE} {pos' : Pos} (hu : X.A.units + 1 < cLine) (ho : QE X o to od) (hi : QE X i ti id) (hv : QE X v tv vd) (hs : swapsWith v (some (.Subscript o i pos')) pos.line X.env = pure false := by rfl) :
    QS X (.Assign [.Subscript o i pos'] v pos) (sDPut to ti tv) (dPutT od id vd) := by
  refine ⟨ps_dput hu ho.pe hi.pe hv.pe hs, ?_⟩
  intro σ H S as en cs D E r e q p
  refine hv.sem.use r e q fun z v S1 H1 as1 cs1 e1 r1 w1 q1 => ?_
  refine ho.sem.use r1 (e.mono e1) q1 fun z2 v2 S2 H2 as2 cs2 e2 r2 w2 q2 => ?_
  refine hi.sem.use r2 (e.mono (e1.trans e2)) q2 fun z3 v3 S3 H3 as3 cs3 e3 r3 w3 q3 => ?_
  obtain ⟨pa, ks, n, c, kd, dz, rfl, rfl, rfl, hc, hz, q3⟩ := q3
  obtain ⟨a, ha, rfl⟩ := w2.mono e3
  obtain ⟨rfl, hS, kvs, h1, h2⟩ := cel_tab r3 ha hc
  obtain ⟨rfl, hk⟩ := key_at r3.sub w3
  have vd : Is X.K S3 dz v := Is.mono (e2.trans e3).sub _ _ w1
  exact ⟨_, _, rfl, DPut.t h1 hk (by rw [h2.len]; exact size_lt hz), p.nx σ S3 _ as3 en _ ((e1.trans e2).trans e3) (r3.put ha (c := tabC _ (setT kd ks dz)) ⟨rfl, rfl, hS, _, _, rfl, upd_same, h2.put vd⟩ hS) (e.mono ((e1.trans e2).trans e3)) q3⟩
end
/-! ### t < u, tuples of ints -/
theorem isL_ints_inv {K : PySem.W.Frag} {S : Hp} : ∀ {ns : List Int} {vs : List V}, IsL K S (ns.map D.int) vs → vs = ns.map V.int
  | [], _, h => by rw [show _ = [] from h]; rfl
  | n :: r, _, h => by
    obtain ⟨v, l', rfl, h2, h3⟩ := h
    rw [isL_ints_inv h3, List.map_cons]
    congr 1
def ltTD : D → D → (D → Prop) → Prop
  | .tup ds, .tup es, k => ∃ ns ms : List Int, ds = ns.map D.int ∧ es = ms.map D.int ∧ k (.bl (HT.lexLt ns ms))
  | _, _, _ => False
theorem o_ltT {K : PySem.W.Frag} : Op2 K (rLtT K) ltTD := by
  intro S H as cs dx dy x y k Q r hx hy h q
  unfold ltTD at h
  split at h
  · obtain ⟨ns, ms, rfl, rfl, h⟩ := h
    obtain ⟨a, vs, rfl, h1, h2⟩ := (show Is K S (.tup _) x from hx)
    obtain ⟨b, us, rfl, h3, h4⟩ := (show Is K S (.tup _) y from hy)
    rw [isL_ints_inv h2] at h1
    rw [isL_ints_inv h4] at h3
    exact ⟨a, b, ns, ms, rfl, rfl, r.sub.t h1, r.sub.t h3, q (.bl _) _ S H (Sub.refl S) r rfl h⟩
  · exact h.elim
theorem e_ltT2 (a b c d : Int) (k : D → Prop) : ltTD (.tup [.int a, .int b]) (.tup [.int c, .int d]) k = k (.bl (decide (a < c ∨ a = c ∧ b < d))) := by
  have e : HT.lexLt [a, b] [c, d] = decide (a < c ∨ a = c ∧ b < d) := by
    rw [HT.lexLt_cons, HT.lexLt_cons, HT.lexLt_nil_nil]
    by_cases h : a = c
    · subst h
      rw [if_pos rfl]
      by_cases g : b = d
      · subst g
        rw [if_pos rfl]
        simp
      · rw [if_neg g]
        simp
    · rw [if_neg h]
      simp [h]
  refine propext ⟨fun h => ?_, fun h => ⟨[a, b], [c, d], rfl, rfl, by rw [e]; exact h⟩⟩
  obtain ⟨ns, ms, h1, h2, h⟩ := h
  have e1 : ns = [a, b] := by
    match ns, h1 with
    | [x, y], h1 => simp only [List.map_cons, List.map_nil, List.cons.injEq, D.int.injEq, and_true] at h1; rw [h1.1, h1.2]
  have e2 : ms = [c, d] := by
    match ms, h2 with
    | [x, y], h2 => simp only [List.map_cons, List.map_nil, List.cons.injEq, D.int.injEq, and_true] at h2; rw [h2.1, h2.2]
  rw [e1, e2, e] at h
  exact h
/-! ### starred ranges -/
section
variable {prog : Program} {w : World} {A : Around} {E : Value → Shared → Prop} {s : Shared}
theorem wpAny_collect_range {Q : List Value → Shared → Prop} {r : Addr} {a b c : Int} {t u v : Tok} {n : Nat} (hh : A.handled = none) (hr : IsRange s.heap r a b c t u v) (hsmall : Builtin.Range.small a b c = true)
    (hn : Builtin.Range.rangeSize a b c = n) (hlen : n ≤ 2 ^ 24)
    (hQ : ∀ h' tk (acc : Array Value), (∀ b o, s.heap.get? b = some o → h'.get? b = some o) → ItemsOf (fun i v => ∃ t, v = .int (a + i * c) t) acc n → Q acc.toList { s with heap := h', toks := tk }) :
    wpAny (model prog w) A (collect (.ref r)) Q E s := by
  unfold collect
  refine wpAny_bind (wpAny_runValue (codeAny_builtin F.entry_proto_collect ?_))
  rw [Around.under_plainId F.plain_proto_collect _]
  show wpAny _ A.in1 (newList [] >>= fun l => again (.builtin "list.__iadd__" ⟨[l, .ref r], []⟩)) _ _ s
  refine wpAny_bind (wpAny_newObj_type ?_)
  refine wpAny_pure ⟨plainId_quiet F.plain_list_iadd _, codeAny_builtin F.entry_list_iadd ?_⟩
  rw [Around.under_plainId F.plain_list_iadd _]
  show wpAny _ A.in1 (Builtin.List.listExtendWith (.ref s.heap.objs.size) (.ref r) (.ref s.heap.objs.size)) _ _ _
  have hS : (s.heap.push { cls := .type "list", data := .seq ([] : List Value).toArray }).get? s.heap.objs.size = some { cls := .type "list", data := .seq #[] 0 } := Heap.get?_push_size _ rfl
  have fin' : ∀ (h' : Heap) (tk : Nat) (acc' : Array Value) (c' : Nat), (∀ b o, s.heap.get? b = some o → h'.get? b = some o) → h'.get? s.heap.objs.size = some { cls := .type "list", dict := none, data := .seq acc' c', slots := #[] } →
      ItemsOf (fun i v => ∃ t, v = .int (a + i * c) t) acc' n → wpAny (model prog w) A (match Value.ref s.heap.objs.size with
      | Value.ref a => do
        match (← load a).data with
          | Data.seq xs _ => pure xs.toList
          | _ => unsupported "internal:collect"
      | _ => unsupported "internal:collect") Q E { s with heap := h', toks := tk } := fun h' tk acc' c' hk hg hi => by
    show wpAny _ A (load s.heap.objs.size >>= _) _ _ _
    exact wpAny_bind (wpAny_load hg (wpAny_pure (hQ h' tk acc' hk hi)))
  refine wpAny_mono (wpAny_extend_range (A := A) (s := { s with heap := s.heap.push { cls := .type "list", data := .seq ([] : List Value).toArray } }) (R := fun r s' => r = .ok (.ret (.ref s.heap.objs.size)) ∧ ∃ (h' : Heap) (tk : Nat) (acc' : Array Value) (c' : Nat), s' = { s with heap := h', toks := tk } ∧ (∀ b o, s.heap.get? b = some o → h'.get? b = some o) ∧ h'.get? s.heap.objs.size = some { cls := .type "list", dict := none, data := .seq acc' c', slots := #[] } ∧ ItemsOf (fun i v => ∃ t, v = .int (a + i * c) t) acc' n)
    hh (Heap.get?_push_of_some _ hr) hsmall hn hlen s.heap.objs.size (.ref s.heap.objs.size) 0 hS fun h' tk acc' c' hk hg hi => ⟨rfl, h', tk, acc', c', rfl, fun b o e => hk b o (Nat.ne_of_lt (Heap.lt_size e)) (Heap.get?_push_of_some _ e), hg, hi⟩) (fun fin s' h => ?_) (fun e s' h => ?_)
  · cases fin with
    | done f =>
      obtain ⟨e, h', tk, acc', c', rfl, hk, hg, hi⟩ := h
      cases e
      exact fin' h' tk acc' c' hk hg hi
    | again c' => exact ⟨h.1, codeAny_mono h.2 fun r s'' hr => by
        obtain ⟨rfl, h', tk, acc', c', rfl, hk, hg, hi⟩ := hr
        exact fin' h' tk acc' c' hk hg hi⟩
  · exact absurd h.1 (by simp)
end
section
variable {X : Cx} {pins : List (Addr × Obj)} {σ : L2.St} {H : Hp} {s : Shared}
theorem star_rng (hc : X.calm = true) {r : Addr} {a b : Int} {t u v : Tok} {E : Value → Shared → Prop} {Q : List Value → Shared → Prop} (I : Inv X pins σ H s) (hr : IsRange s.heap r a b 1 t u v) (ok : RgOk a b) (hQ : ∀ us s', Inv X pins σ H s' → Vals (rgV a b) us → Q us s') : PySem.W.StarOf (model X.prog X.w) X.A E (.ref r) Q s := by
  obtain ⟨b1, b2, b3, b4, b5⟩ := ok
  have hT : s.TypeIs (.ref r) "range" := ⟨_, hr, rfl⟩
  have z : wpAny (model X.prog X.w) X.A (collect (.ref r)) Q E s :=
    wpAny_collect_range (n := (b - a).toNat) (I.ok.hd hc) hr (small_one b1 b2 b3 b4) (rangeSize_nat a b) b5 fun h' tk acc hk hi => hQ _ _ (I.kept hk) (vals_rg hi)
  unfold PySem.W.StarOf notIterableAtAll
  exact wpAny_bind (wpAny_specialOf hT PySem.F.slot_range_iter.lookup (wpAny_pure ⟨rfl, z⟩))
end
/-- *range(..) in a display -/
def tStarRg (te : L2.St → Hp → (Int → Int → Hp → Prop) → Prop) (t : TA) : TA := fun σ H Q => te σ H fun a b H1 => RgOk a b ∧ t σ H1 fun ys H2 => Q (rgV a b ++ ys) H2
section
variable {X : Cx} {e : Expr} {es : List Expr} {te : L2.St → Hp → (Int → Int → Hp → Prop) → Prop} {t : TA} {p : Pos}
theorem pa_starRg (hc : X.calm = true) (he : PRg X e te) (hr : PA X es t) (hs : starEach (.Starred e p :: es) X.env = (true, eval e X.env) :: starEach es X.env := by rfl) : PA X (.Starred e p :: es) (tStarRg te t) := by
  refine ⟨fun pos pins s σ H Q I h => ?_⟩
  refine PySem.W.items_star (thn (he pins s σ H _ I h) fun v s1 ⟨r, a, b, t0, u, v', H1, ex, hrg, I1, ok, q⟩ => ?_) hs
  subst ex
  refine star_rng hc I1 hrg ok fun us s2 I2 rv => ?_
  exact thn (hr.run pos pins s2 σ H1 _ I2 q) fun ws s3 ⟨vs, H3, I3, r3, q3⟩ => ⟨rgV a b ++ vs, H3, I3, rv.append r3, q3⟩
end
def dStar1 (a : DE) (r : DA) : DA := fun en cs k => a en cs fun z cs1 => ∃ j, z = .d (.int j) ∧ (0 ≤ j ∧ j ≤ 16777216) ∧ r en cs1 fun zs cs2 => k ((rgD 0 j.toNat).map Z.d ++ zs) cs2
def dStar2 (a b : DE) (r : DA) : DA := fun en cs k => a en cs fun z cs1 => b en cs1 fun w cs2 => r2D z w fun i j => (-(2 ^ 60) ≤ i ∧ i ≤ j ∧ j ≤ 2 ^ 60 ∧ j - i ≤ 16777216) ∧ r en cs2 fun zs cs3 => k ((rgD i (j - i).toNat).map Z.d ++ zs) cs3
theorem u_dStar1 (a : DE) (r : DA) (en : En) (cs : Cs) (k : List Z → Cs → Prop) : dStar1 a r en cs k = (a en cs fun z cs1 => ∃ j, z = .d (.int j) ∧ (0 ≤ j ∧ j ≤ 16777216) ∧ r en cs1 fun zs cs2 => k ((rgD 0 j.toNat).map Z.d ++ zs) cs2) := nd rfl
theorem u_dStar2 (a b : DE) (r : DA) (en : En) (cs : Cs) (k : List Z → Cs → Prop) : dStar2 a b r en cs k = (a en cs fun z cs1 => b en cs1 fun w cs2 => r2D z w fun i j => (-(2 ^ 60) ≤ i ∧ i ≤ j ∧ j ≤ 2 ^ 60 ∧ j - i ≤ 16777216) ∧ r en cs2 fun zs cs3 => k ((rgD i (j - i).toNat).map Z.d ++ zs) cs3) := nd rfl
theorem datL_app (ds : List D) (zs : List Z) (k : List D → Prop) : datL (ds.map Z.d ++ zs) k = datL zs fun xs => k (ds ++ xs) := by
  induction ds generalizing k with
  | nil => rfl
  | cons d r ih => exact ih _
theorem datL_d (ds : List D) (k : List D → Prop) : datL (ds.map Z.d) k = k ds := by
  have := datL_app ds [] k
  rw [List.append_nil] at this
  rw [this]
  show k (ds ++ []) = k ds
  rw [List.append_nil]
theorem vzl_app {K : PySem.W.Frag} {S : Hp} {as : List Addr} : ∀ {xs : List Int} {zs : List Z} {vs : List V}, VZL K S as zs vs → VZL K S as ((xs.map D.int).map Z.d ++ zs) (xs.map V.int ++ vs)
  | [], _, _, h => h
  | x :: xs, _, _, h => ⟨.int x, _, rfl, rfl, vzl_app h⟩
section
variable {X : Cx} {a b : Expr} {es : List Expr} {ta tb : TE} {da db : DE} {t : TA} {dr : DA} {p p2 q : Pos}
theorem qa_star1 (hc : X.calm = true) (hm2 : X.mg "range" = none) (ha : QE X a ta da) (hr : QA X es t dr) (hg2 : Gl X "range" := by rfl)
    (he : starEach [a] X.env = (false, eval a X.env) :: starEach [] X.env := by rfl) (hs : starEach (.Starred (.Call (.Name "range" p2) [a] [] q) p :: es) X.env = (true, eval (.Call (.Name "range" p2) [a] [] q) X.env) :: starEach es X.env := by rfl) :
    QA X (.Starred (.Call (.Name "range" p2) [a] [] q) p :: es) (tStarRg (tRg1 ta) t) (dStar1 da dr) := by
  refine ⟨pa_starRg hc (prg_1 hg2 hm2 ha.pe he) hr.pa hs, ?_⟩
  intro σ H S as en cs k Q r ev qq pq
  refine ha.sem.use r ev qq fun z v S1 H1 as1 cs1 e1 r1 v1 q1 => ?_
  obtain ⟨j, rfl, ⟨j0, j1⟩, q2⟩ := q1
  refine ⟨j, v1, RgOk.of_le (by omega) (by omega) (by omega) (by omega), ?_⟩
  refine hr.sem σ H1 S1 as1 en cs1 _ _ r1 (ev.mono e1) q2 fun zs vs S2 H2 as2 cs2 e2 r2 w2 q3 => ?_
  have e : rgD 0 j.toNat = ((List.range j.toNat).map fun (i : Nat) => (0 : Int) + (i : Int)).map D.int := by
    unfold rgD
    rw [List.map_map]
    rfl
  have e3 : rgV 0 j = ((List.range j.toNat).map fun (i : Nat) => (0 : Int) + (i : Int)).map V.int := by
    unfold rgV
    rw [List.map_map, Int.sub_zero]
    rfl
  refine pq _ _ S2 H2 as2 cs2 (e1.trans e2) r2 ?_ q3
  rw [e, e3]
  exact vzl_app w2
theorem qa_star2 (hc : X.calm = true) (hm2 : X.mg "range" = none) (ha : QE X a ta da) (hb : QE X b tb db) (hr : QA X es t dr) (hg2 : Gl X "range" := by rfl)
    (na : starEach [a, b] X.env = (false, eval a X.env) :: starEach [b] X.env := by rfl) (nb : starEach [b] X.env = (false, eval b X.env) :: starEach [] X.env := by rfl) (nc : ((backTo q (starEach [b] X.env)).any fun x => x.fst) = false := by rfl)
    (hs : starEach (.Starred (.Call (.Name "range" p2) [a, b] [] q) p :: es) X.env = (true, eval (.Call (.Name "range" p2) [a, b] [] q) X.env) :: starEach es X.env := by rfl) :
    QA X (.Starred (.Call (.Name "range" p2) [a, b] [] q) p :: es) (tStarRg (tRg2 ta tb) t) (dStar2 da db dr) := by
  refine ⟨pa_starRg hc (prg_2 hg2 hm2 ha.pe hb.pe na nb nc) hr.pa hs, ?_⟩
  intro σ H S as en cs k Q r ev qq pq
  refine ha.sem.use r ev qq fun z v S1 H1 as1 cs1 e1 r1 v1 q1 => ?_
  refine hb.sem.use r1 (ev.mono e1) q1 fun z2 v2 S2 H2 as2 cs2 e2 r2 w2 q2 => ?_
  obtain ⟨i, j, rfl, rfl, ⟨i0, ij, j1, ji⟩, q2⟩ := r2D_inv q2
  refine ⟨i, j, v1, w2, ⟨by omega, by omega, by omega, by omega, by omega⟩, ?_⟩
  refine hr.sem σ H2 S2 as2 en cs2 _ _ r2 (ev.mono (e1.trans e2)) q2 fun zs vs S3 H3 as3 cs3 e3 r3 w3 q3 => ?_
  have e : rgD i (j - i).toNat = ((List.range (j - i).toNat).map fun (n : Nat) => i + (n : Int)).map D.int := by
    unfold rgD
    rw [List.map_map]
    rfl
  have e4 : rgV i j = ((List.range (j - i).toNat).map fun (n : Nat) => i + (n : Int)).map V.int := by
    unfold rgV
    rw [List.map_map]
    rfl
  refine pq _ _ S3 H3 as3 cs3 ((e1.trans e2).trans e3) r3 ?_ q3
  rw [e, e4]
  exact vzl_app w3
end
end DL
set_option Elab.async false
set_option linter.all false
set_option maxRecDepth 100000
set_option maxHeartbeats 2000000
set_option autoImplicit false
/-! DLZV: a def of which nothing is asked -/
namespace DL
open PySem PySem.Spec PyProof.Rows L2
theorem Got.no {P : Program} {w : World} {K : PySem.W.Frag} {mg : Str → Option Value} {base : Heap} {name : Str} {ps : List Str} {st : Stmt} (T : DefT K mg name st ps) : Got P w K mg base name 0 ps (fun _ _ _ => False) := by
  obtain ⟨f, fd, F, g, b⟩ := T
  refine ⟨f, fd, g, F.kp, b, ⟨fun _ _ _ h => h.elim, fun A outer s H args us vs Q hr hgd e0 hb r hsp => ?_⟩⟩
  obtain ⟨S, as, zs, cs, q, rep, vz, hz, pq⟩ := hsp
  exact hz.elim
theorem qss_lock {X : Cx} {ss : List Stmt} {ts : TS} {d : DS} (h : QSs X ss ts d) : QSs X ss ts (dLock d) := h
/-- if x in TABLE -/
theorem q_inTabT {X : Cx} {pos p : Pos} {a : Expr} {ta : TE} {da : DE} {name : Str} {T : List (Str × Str)} (kt : KTb X.K X.w X.mg name T) (ha : QE X a ta da) (hg : Gl X name := by rfl) (hd : (name == ("__debug__" : Str)) = false := by decide) (hm : behindInMarks .In (.Name name p) = false := by rfl) : ∃ tt, QT X (.Compare a [.In] [.Name name p] pos) tt (dB (dInTab T da)) := by
  obtain ⟨d, es, n, hmg, D, to⟩ := kt.ex
  refine ⟨_, pt_cmpR (op_in_kd D) ha.pe (pe_glob (v := .ref d) hg hmg rfl hd) hm, ?_⟩
  intro σ H S as en cs k Q rp e q pq
  refine ha.sem.use rp e q fun z v S1 H1 as1 cs1 e1 r1 v1 q1 => ?_
  obtain ⟨s, rfl, b, hb0, q1⟩ := q1
  obtain ⟨h1, h2, h3⟩ := to.look s
  have ns : PySem.W.nsIn X.K d s = some ((es.toList.find? (·.key.isStr s)).map (·.val)) := by
    unfold PySem.W.nsIn
    rw [D.at_]
    dsimp only
    cases q : es.toList.find? (·.key.isStr s) with
    | none => rw [h3]; rfl
    | some e => rfl
  refine ⟨s, _, v1, rfl, ns, ?_⟩
  have hb : ((es.toList.find? (·.key.isStr s)).map (·.val)).isSome = (T.lookup s).isSome := by
    cases q : T.lookup s with
    | none => rw [h1 q]; rfl
    | some v =>
      obtain ⟨e, t, he, _⟩ := h2 v q
      rw [he]
      rfl
  rw [hb]
  cases hb0
  exact ⟨_, rfl, pq _ S1 H1 as1 cs1 e1 r1 q1⟩
end DL
set_option Elab.async false
set_option linter.all false
set_option maxRecDepth 100000
set_option maxHeartbeats 2000000
set_option autoImplicit false
/-! LMA: lambdas handed to defs and called there -/
namespace DL
open PySem PySem.Spec PyProof.Rows L2
/-- what a lambda captured: the addresses, what stands there -/
abbrev Caps := List (Nat × D)
def capD (caps : Caps) : List (Key × D) := caps.map fun p => (.inl (p.1 : Int), p.2)
/-- a lambda as data -/
def lamD (f : Addr) (caps : Caps) : D := .cel f (.dic (capD caps))
def CapOk (K : PySem.W.Frag) (S : Hp) (caps : Caps) : Prop := ∀ p ∈ caps, Is K S p.2 (.ref p.1)
theorem CapOk.mono {K : PySem.W.Frag} {S T : Hp} (e : Sub S T) {caps : Caps} (h : CapOk K S caps) : CapOk K T caps := fun p hp => Is.mono e _ _ (h p hp)
theorem isR_caps {K : PySem.W.Frag} {S : Hp} : ∀ {caps : Caps}, IsR K S (capD caps) ↔ CapOk K S caps
  | [] => ⟨fun _ p hp => (by cases hp), fun _ => trivial⟩
  | p :: r => by
    show ((∃ x : Nat, (Sum.inl (p.1 : Int) : Key) = .inl (x : Int) ∧ Is K S p.2 (.ref x)) ∧ IsR K S (capD r)) ↔ _
    rw [isR_caps (caps := r)]
    constructor
    · rintro ⟨⟨x, e, h⟩, h2⟩ y hy
      rcases List.mem_cons.mp hy with rfl | hy
      · have e := Int.ofNat.inj (Sum.inl.inj e)
        rw [e]
        exact h
      · exact h2 y hy
    · intro h
      exact ⟨⟨p.1, rfl, h p List.mem_cons_self⟩, fun y hy => h y (List.mem_cons_of_mem _ hy)⟩
theorem lamD_is {K : PySem.W.Frag} {S : Hp} {f : Addr} {caps : Caps} {v : V} : Is K S (lamD f caps) v ↔ v = .ref f ∧ CapOk K S caps := by
  show (v = .ref f ∧ IsR K S (capD caps)) ↔ _
  rw [isR_caps]
/-- the code object among what is captured -/
def codD (c : Addr) (q : Str) : Nat × D := (c, .cel c (.str q))
theorem codD_is {K : PySem.W.Frag} {S : Hp} {c : Addr} {q : Str} (h : Is K S (codD c q).2 (.ref (codD c q).1)) : S c = some (LamX.CodeO c q) := h.2
/-! ### what a lambda promises -/
def spL (K : PySem.W.Frag) (caps : Caps) (sp : DSpec) (vs : List V) (H : Hp) (Q : VK) : Prop :=
  ∃ (S : Hp) (as : List Addr) (zs : List Z) (cs : Cs) (k : Z → Cs → Prop), Rep K S H as cs ∧ VZL K S as zs vs ∧ CapOk K S caps ∧ sp zs cs k ∧ PQ K S as k Q
structure FnL (P : Program) (w : World) (K : PySem.W.Frag) (mg : Str → Option Value) (base : Heap) (k : Nat) (f : Addr) (n : Nat) (caps : Caps) (sp : DSpec) : Prop where
  len : ∀ zs cs q, sp zs cs q → zs.length = n
  at_ : PySem.W.FnAt f base
  run : ∀ (A : Around) (outer : List Env) (s : Shared) (H : Hp) (us : List Value) (vs : List V) (Q : VK), Room k A → A.guards = some [] → Env0 P w K mg base A outer s H → Vals vs us → spL K caps sp vs H Q →
    codeAny (model P w) A (.call (.ref f) ⟨us, []⟩) (CR CX0 outer P w H s Q E0) s
section
variable {P : Program} {w : World} {K : PySem.W.Frag} {mg : Str → Option Value} {base : Heap} {k n : Nat} {f : Addr} {caps : Caps} {sp : DSpec}
theorem FnL.mono {j : Nat} (F : FnL P w K mg base j f n caps sp) (h : j ≤ k) : FnL P w K mg base k f n caps sp :=
  ⟨F.len, F.at_, fun A outer s H us vs Q hr => F.run A outer s H us vs Q (hr.mono h)⟩
end
section
variable {X : Cx} {k i n : Nat} {f : Addr} {caps : Caps} {sp : DSpec} {x : Str} {p pos : Pos} {e : Expr} {es : List Expr} {ta : TA} {da : DA}
def tCallLD (K : PySem.W.Frag) (i : Nat) (f : Addr) (caps : Caps) (sp : DSpec) (t : TA) : TE := fun σ H Q => σ[i]? = some (some (.ref f)) ∧ t σ H fun vs H1 => spL K caps sp vs H1 Q
/-- x(..), x a local name that holds a lambda -/
def dCallL (i : Nat) (f : Addr) (caps : Caps) (sp : DSpec) (a : DA) : DE := fun en cs k => en[i]? = some (some (.d (lamD f caps))) ∧ a en cs fun zs cs1 => sp zs cs1 k
theorem u_dCallL (en : En) (cs : Cs) (k : Z → Cs → Prop) : dCallL i f caps sp da en cs k = (en[i]? = some (some (.d (lamD f caps))) ∧ da en cs fun zs cs1 => sp zs cs1 k) := nd rfl
theorem q_callL (L : FnL X.prog X.w X.K X.mg X.base k f n caps sp) (hr : Room k X.A) (hgd : X.A.guards = some []) (ha : QA X (e :: es) ta da) (hN : X.N[i]? = some x := by rfl)
    (hv : Vis X.env.scope x := by first | exact .inl rfl | exact .inr (.inl rfl) | exact .inr (.inr rfl))
    (hdb : (x == ("__debug__" : Str)) = false := by decide) (hcd : (x == ("__classdict__" : Str)) = false := by decide)
    (he : starEach (e :: es) X.env = (false, eval e X.env) :: starEach es X.env := by rfl) (hpl : (backTo pos (starEach es X.env)).any (·.1) = false := by rfl) :
    QE X (.Call (.Name x p) (e :: es) [] pos) (tCallLD X.K i f caps sp ta) (dCallL i f caps sp da) := by
  refine ⟨⟨fun pins s σ H Q I h => ?_⟩, ?_⟩
  · obtain ⟨hs, ht⟩ := h
    refine wpAny_Call_Name_kw (thn ((pe_var (pos := p) (i := i) hN hv hdb hcd).run pins s σ H (fun v H1 => v = .ref f ∧ H1 = H) I ⟨.ref f, hs, rfl, rfl⟩) fun u s1 ⟨v, H1, I1, rv1, q1⟩ => ?_)
    obtain ⟨ev, eH⟩ := q1
    subst ev
    rw [eH] at I1
    obtain rfl : u = Value.ref f := rv1
    have fa : ∀ {t : Shared} {G : Hp}, Inv X pins σ G t → PySem.W.FnAt f t.heap := fun {t G} J => by
      obtain ⟨oc, od, fd, sl, z⟩ := L.at_
      exact ⟨oc, od, fd, sl, J.bk _ _ z⟩
    refine PySem.W.callWith_F (fa I1) (thn (ha.pa.run pos pins s1 σ H _ I1 ht) fun us s2 ⟨vs, H2, I2, r, q2⟩ => ⟨fa I2, ?_⟩) he hpl
    refine wpAny_call (codeAny_mono (L.run X.A X.stack s2 H2 us vs Q hr hgd I2.env0 r q2) fun r s' hq => ?_)
    cases r with
    | error e => exact hq.elim
    | ok fl =>
      cases fl with
      | ret u => exact I2.after hq
      | next => exact hq.elim
      | brk => exact hq.elim
      | cont => exact hq.elim
  · intro σ H S as en cs k Q rp ev q pq
    obtain ⟨he, q⟩ := q
    obtain ⟨v, hv1, hv2⟩ := ev.at_ i _ he
    obtain ⟨rfl, cap⟩ := lamD_is.mp (show Is X.K S (lamD f caps) v from hv2)
    refine ⟨hv1, ha.sem σ H S as en cs _ _ rp ev q fun zs vs S1 H1 as1 cs1 e1 r1 v1 q1 => ?_⟩
    exact ⟨S1, as1, zs, cs1, k, r1, v1, cap.mono e1.sub, q1, pq.mono e1⟩
end
/-! ### a lambda by its body -/
/-- the object, its cells -/
structure LamAt (base : Heap) (f : Addr) (F : NdefX.NF) (bd : Expr) (fr : List Str) (xs : List Nat) : Prop where
  obj : ∃ pm ctv : Value, base.get? f = some (PySem.W.kla_obj "<lambda>" F.qual F.params bd F.scope F.cl pm F.c ctv)
  len : xs.length = fr.length
  all : ∀ y c, F.cl.lookup y = some c → ∃ v, base.IsCell c v
  inj : ∀ x y c, F.cl.lookup x = some c → F.cl.lookup y = some c → x = y
  has : ∀ (i : Nat) (y : Str), fr[i]? = some y → ∃ c, F.cl.lookup y = some c ∧ ∀ x, xs[i]? = some x → base.IsCell c (some (.ref x))
def startL (N : List Str) (zs : List Z) (ds : List D) : En := zs.map some ++ ((ds.map fun d => some (.d d)) ++ List.replicate (N.length - zs.length - ds.length) none)
theorem lam_L {P : Program} {w : World} {K : PySem.W.Frag} {mg : Str → Option Value} {base : Heap} {k : Nat} {f : Addr} {F : NdefX.NF} {bd : Expr} {N ps fr : List Str} {xs : List Nat} {ds : List D} {sp : DSpec}
    (A0 : LamAt base f F bd fr xs) (S : NdefX.NScope N ps fr F.scope) (hds : ds.length = xs.length) (hN : N.length = ps.length + fr.length)
    (hb : ∀ (pm cdv ct : Value) (us : List Value), us.length = ps.length → bindArgs (PySem.W.kla_fn "<lambda>" F.qual F.params bd F.scope F.cl pm cdv ct) ⟨us, []⟩ = pure (ps.zip us))
    (len : ∀ zs cs q, sp zs cs q → zs.length = ps.length) (t : DE)
    (der : ∀ (A : Around) (outer : List Env) (s : Shared) (H : Hp), Room k (NdefX.ncx CX0 P w K mg base N F f A outer s H E0).A → (NdefX.ncx CX0 P w K mg base N F f A outer s H E0).A.guards = some [] →
      ∃ te : TE, QE (NdefX.ncx CX0 P w K mg base N F f A outer s H E0) bd te t)
    (rd : ∀ zs cs q, sp zs cs q → t (startL N zs ds) cs (FinZ cs.length q)) : FnL P w K mg base (k + 1) f ps.length (codD F.c F.qual :: xs.zip ds) sp := by
  obtain ⟨pm, ctv, ho⟩ := A0.obj
  refine ⟨len, ⟨_, _, _, _, ho⟩, fun A outer s H us vs Q hr hg e0 r h => ?_⟩
  obtain ⟨S0, as, zs, cs, q, rep, vz, cap, hz, pq⟩ := h
  have zl := len _ _ _ hz
  have hl : vs.length = ps.length := vz.len.trans zl
  have hc := NdefX.codeO_at e0.hok (rep.sub _ _ (codD_is (cap _ List.mem_cons_self)))
  have lim : s.heap.NoLimit := e0.mod.nolimit.keeps fun b o e => (e0.bs b o e).1
  refine PySem.W.kla_callFunE hr.depth (e0.bs _ _ ho).1 rfl S.co S.gen rfl hc ?_
  rw [hb _ _ _ us (by rw [← r.length]; exact hl)]
  refine wpAny_pure (wpAny_newFunctionEnv (fun y hy => S.nocell y hy) (fun y hy => S.par y.1 (List.of_mem_zip hy).1) (fun h1 hns hsb => ⟨lim.fresh _ hsb, ?_⟩) S.kind)
  show codeAny _ _ (.expr bd (NdefX.envF F f s.heap.objs.size)) _ _
  have kp : ∀ b o, s.heap.get? b = some o → h1.get? b = some o := fun b o e => hsb.extBut b o (Nat.ne_of_lt (Heap.lt_size e)) (Heap.get?_push_of_some _ e)
  have C : NdefX.CellsAt F.cl fr (xs.map fun x => some (V.ref x)) s.heap H := by
    have up : ∀ {c : Addr} {v : Option Value}, base.IsCell c v → H c = none ∧ s.heap.IsCell c v := fun {c v} ⟨o, e, d⟩ => ⟨(e0.bs _ _ e).2, o, (e0.bs _ _ e).1, d⟩
    refine ⟨by rw [List.length_map]; exact A0.len, fun y c e => ?_, A0.inj, fun i y e => ?_⟩
    · obtain ⟨v, z⟩ := A0.all y c e
      exact ⟨(up z).1, v, (up z).2⟩
    · obtain ⟨c, e1, e2⟩ := A0.has i y e
      refine ⟨c, e1, fun v hv => ?_⟩
      rw [List.getElem?_map] at hv
      obtain ⟨x, hx, hx2⟩ := Option.map_eq_some_iff.mp hv
      cases hx2
      exact ⟨.ref x, rfl, (up (e2 x hx)).2⟩
  have J : Inv (NdefX.ncx CX0 P w K mg base N F f A outer s H E0) [] (NdefX.startF N vs (xs.map fun x => some (V.ref x))) H { s with heap := h1, toks := s.toks + (ps.zip us).length } := NdefX.inv_startN S hr.hd e0 hl r C hns kp
  obtain ⟨te, d⟩ := der A outer s H (hr.deeper _) hg
  have ev : EnvOk K S0 as (startL N zs ds) (NdefX.startF N vs (xs.map fun x => some (V.ref x))) := by
    refine ⟨?_, fun i z e => ?_⟩
    · unfold startL NdefX.startF
      simp only [List.length_append, List.length_map, List.length_replicate]
      omega
    · unfold startL at e
      unfold NdefX.startF
      by_cases h1 : i < zs.length
      · rw [List.getElem?_append_left (by rw [List.length_map]; exact h1), List.getElem?_map] at e
        obtain ⟨z', hz', e⟩ := Option.map_eq_some_iff.mp e
        cases e
        obtain ⟨v, hv, hz2⟩ := vz.get hz'
        exact ⟨v, by rw [List.getElem?_append_left (by rw [List.length_map]; omega), List.getElem?_map, hv]; rfl, hz2⟩
      · rw [List.getElem?_append_right (by rw [List.length_map]; omega), List.length_map] at e
        by_cases h2 : i - zs.length < ds.length
        · rw [List.getElem?_append_left (by rw [List.length_map]; exact h2), List.getElem?_map] at e
          obtain ⟨d', hd', e⟩ := Option.map_eq_some_iff.mp e
          cases e
          have hx : xs[i - zs.length]? = some (xs[i - zs.length]'(by omega)) := List.getElem?_eq_getElem (by omega)
          refine ⟨.ref (xs[i - zs.length]'(by omega)), ?_, cap (_, d') (List.mem_cons_of_mem _ (List.mem_of_getElem? (i := i - zs.length) ?_))⟩
          · have vl : (List.map some vs).length = zs.length := by rw [List.length_map]; omega
            rw [List.getElem?_append_right (by omega), vl, List.getElem?_append_left (by rw [List.length_map]; omega), List.getElem?_map, hx]
            rfl
          · rw [List.getElem?_zip_eq_some]
            exact ⟨hx, hd'⟩
        · rw [List.getElem?_append_right (by rw [List.length_map]; omega), List.getElem?_replicate] at e
          split at e <;> cases e
  have hte : te (NdefX.startF N vs (xs.map fun x => some (V.ref x))) H Q := d.sem _ H S0 as _ cs _ Q rep ev (rd zs cs q hz) (by rw [← rep.len]; exact fin_pq pq)
  refine PySem.W.kla_codeExpr (wpAny_mono (d.pe.run [] _ _ H Q J hte) (fun v s' hq => ?_) fun e s' hq => hq)
  obtain ⟨w', H', J', rv, qq⟩ := hq
  exact ⟨w', H', J'.os, J'.bare, J'.base, J'.hok, rv, qq⟩
end DL
set_option Elab.async false
set_option linter.all false
set_option maxRecDepth 100000
set_option maxHeartbeats 2000000
set_option autoImplicit false
/-! LMB: lambdas made and handed over -/
namespace DL
open PySem PySem.Spec PyProof.Rows L2
/-- the heap when a lambda has been made: as ahead, or its code object is new and stands in the table -/
def LamH (P : Addr) (q : Str) (c' : Addr) (H H1 : Hp) : Prop :=
  (H1 = H ∧ H c' = some (LamX.CodeO c' q) ∧ ∃ (ps : Array Value) (pos : Pos), H P = some (.tbl ps) ∧ codeAmong pos ps.toList = some (.ref c')) ∨
    ∃ ps more : Array Value, H P = some (.tbl ps) ∧ H c' = none ∧ H1 = upd (upd H P (.tbl (ps ++ more))) c' (LamX.CodeO c' q) ∧ TriplesOk (ps ++ more).toList ∧
      ∀ (pos : Pos) (cv : Value), codeAmong pos (ps ++ more).toList = some cv → codeAmong pos ps.toList = some cv ∨ cv = .ref c'
section
variable {X : Cx} {pins : List (Addr × Obj)} {σ : L2.St} {H : Hp} {s : Shared}
theorem make_lam {c P : Addr} {params : Arguments} {body : Expr} {scope : Scope} {pos : Pos} {E : Value → Shared → Prop} {Q : Value → Shared → Prop} (I : Inv X pins σ H s) (TB : LamX.TabB X.base X.mg c P) (hcode : X.env.code = .ref c)
    (hT : LamX.TabS H P (X.env.qual ++ "<lambda>")) (hdef : defaultsOf params X.env = ([], [])) (hfree : ∀ y ∈ scope.names, y.2 = .free → ∃ c, X.env.cells.lookup y.1 = some c)
    (h : ∀ (f c' : Addr) (pm ctv : Value) (H1 : Hp) (s' : Shared), Inv X pins σ H1 s' → LamH P (X.env.qual ++ "<lambda>") c' H H1 →
      s'.heap.get? f = some (PySem.W.kla_obj "<lambda>" (X.env.qual ++ "<lambda>") params body scope (cloFrom X.env.cells scope.names []) pm c' ctv) → H1 f = none → f ∉ X.fs → Q (.ref f) s') :
    wpAny (model X.prog X.w) X.A (eval (.Lambda params body scope pos) X.env) Q E s := by
  obtain ⟨ps, hP, ht, ha⟩ := hT
  have atP : s.heap.get? P = some (PySem.W.tabObj ps) := I.hok P _ hP
  have bmP := TB.bm.keeps I.bk
  have glb := I.mod.glob.keeps I.bk
  have cdP := TB.code.keeps I.bk
  refine PySem.W.kla_eval hdef ?_
  cases hc : codeAmong pos ps.toList with
  | some cv =>
    obtain ⟨c', rfl, hco⟩ := ha pos cv hc
    refine PySem.W.kla_makeFunctionHit (c := c) (closure_ok hfree) I.ok.glob glb hcode cdP atP ht hc bmP ?_
    intro ctv h' tk hx hsz
    have I1 : Inv X pins σ H { s with heap := h'.push (PySem.W.kla_obj "<lambda>" (X.env.qual ++ "<lambda>") params body scope (cloFrom X.env.cells scope.names []) ((X.mg "__name__").getD .none) c' ctv), toks := tk } := I.kept fun b o e => Heap.get?_push_of_some _ (hx b o e)
    exact h _ c' _ ctv H _ I1 (.inl ⟨rfl, hco, ps, pos, hP, hc⟩) (Heap.get?_push_size _ rfl) (I.hok.fresh hsz) (I.nofs hsz)
  | none =>
    refine PySem.W.kla_makeFunction (c := c) (closure_ok hfree) I.ok.glob glb hcode cdP atP ht hc TB.gP bmP ?_
    intro c' ctv h' tk hx hge hlt hrec htb
    obtain ⟨c2, oc, vs, t, e2, hoc, hd, hv⟩ := hrec
    cases e2
    have nC : H c' = none := I.hok.fresh hge
    have eL : (ps ++ #[rawInt pos.line, rawInt pos.col, .ref c']).toList = ps.toList ++ [rawInt pos.line, rawInt pos.col, .ref c'] := by simp
    have kp : ∀ b o, b ≠ P → s.heap.get? b = some o → (h'.push (PySem.W.kla_obj "<lambda>" (X.env.qual ++ "<lambda>") params body scope (cloFrom X.env.cells scope.names []) ((X.mg "__name__").getD .none) c' ctv)).get? b = some o := fun b o hb e => Heap.get?_push_of_some _ (hx b o hb e)
    have I1 := LamX.inv_table (t' := tk) (c := c') (q := X.env.qual ++ "<lambda>") I hP kp (Heap.get?_push_of_some _ htb) hge ⟨oc, vs, t, Heap.get?_push_of_some _ hoc, hd, hv⟩
    refine h _ c' _ ctv _ _ I1 (.inr ⟨ps, _, hP, nC, rfl, by rw [eL]; exact PySem.TriplesOk_snoc _ _ _ _ ht, fun p' cv hcv => ?_⟩) (Heap.get?_push_size _ rfl) ?_ (I.nofs (Nat.le_trans hge (Nat.le_of_lt hlt)))
    · rw [eL] at hcv
      exact LamX.among_app _ ht hcv
    · have hs : s.heap.objs.size ≤ h'.objs.size := Nat.le_trans hge (Nat.le_of_lt hlt)
      have n1 : h'.objs.size ≠ c' := Nat.ne_of_gt hlt
      have n2 : h'.objs.size ≠ P := fun z => Nat.lt_irrefl _ (Nat.lt_of_lt_of_le (Heap.lt_size atP) (by rw [← z]; exact hs))
      rw [upd_ne n1, upd_ne n2]
      exact I.hok.fresh hs
end
/-! ### arguments ahead of others -/
structure PAc (X : Cx) (es : List Expr) (t : TA) : Prop where
  run : ∀ (pos : Pos) (pins : List (Addr × Obj)) (s : Shared) (σ : L2.St) (H : Hp) (Q : List V → Hp → Prop) (rest : List (Bool × Sem Value)) (R : List Value → Shared → Prop), Inv X pins σ H s → t σ H Q →
    (∀ (us : List Value) (vs : List V) (s' : Shared) (H' : Hp), Inv X pins σ H' s' → Vals vs us → Q vs H' → wpAny (model X.prog X.w) X.A (spliced rest) (fun ws s'' => R (us ++ ws) s'') X.xe s') →
    wpAny (model X.prog X.w) X.A (spliced (backTo pos (starEach es X.env) ++ rest)) R X.xe s
structure QAc (X : Cx) (es : List Expr) (ta : TA) (t : DA) : Prop where
  pa : PAc X es ta
  sem : SemA X.K ta t
section
variable {X : Cx}
theorem qac_nil : QAc X [] tNil dNil := ⟨⟨fun pos pins s σ H Q rest R I h k => k [] [] s H I .nil h⟩, qa_nil.sem⟩
theorem qac_cons {e : Expr} {es : List Expr} {te : TE} {de : DE} {ta : TA} {da : DA} (he : QE X e te de) (ha : QAc X es ta da) (hs : starEach (e :: es) X.env = (false, eval e X.env) :: starEach es X.env := by rfl) : QAc X (e :: es) (tCons te ta) (dCons de da) := by
  refine ⟨⟨fun pos pins s σ H Q rest R I h k => ?_⟩, ?_⟩
  · rw [hs]
    show wpAny _ _ (spliced ((false, eval e X.env) :: (backTo pos (starEach es X.env) ++ rest))) _ _ s
    refine Calls.spliced_cons (thn (he.pe.run pins s σ H _ I h) fun u s1 ⟨x, H1, I1, r1, q1⟩ => ?_)
    exact ha.pa.run pos pins s1 σ H1 _ rest _ I1 q1 fun us vs s2 H2 I2 r2 q2 => k (u :: us) (x :: vs) s2 H2 I2 (.cons r1 r2) q2
  · intro σ H S as en cs k Q rp ev q p
    refine he.sem.use rp ev q fun z v S1 H1 as1 cs1 e1 r1 v1 q1 => ?_
    refine ha.sem σ H1 S1 as1 en cs1 _ _ r1 (ev.mono e1) q1 fun zs vs S2 H2 as2 cs2 e2 r2 w2 q2 => ?_
    exact p (z :: zs) (v :: vs) S2 H2 as2 cs2 (e1.trans e2) r2 ⟨v, vs, rfl, v1.mono e2, w2⟩ q2
end
/-! ### the lambda handed over -/
def refD : D → Bool
  | .ob _ _ _ => true
  | .lst _ => true
  | .tup _ => true
  | .dic _ => true
  | _ => false
theorem refD_is {K : PySem.W.Frag} {S : Hp} : ∀ {d : D} {v : V}, refD d = true → Is K S d v → ∃ x : Nat, v = .ref x
  | .ob _ _ _, _, _, ⟨x, _, _, h, _⟩ => ⟨x, h⟩
  | .lst _, _, _, ⟨x, _, h, _⟩ => ⟨x, h⟩
  | .tup _, _, _, ⟨x, _, h, _⟩ => ⟨x, h⟩
  | .dic _, _, _, ⟨x, _, h, _⟩ => ⟨x, h⟩
  | .non, _, h, _ => by cases h
  | .bl _, _, h, _ => by cases h
  | .int _, _, h, _ => by cases h
  | .str _, _, h, _ => by cases h
  | .scr _, _, h, _ => by cases h
  | .ty _, _, h, _ => by cases h
  | .obj _, _, h, _ => by cases h
  | .cel _ _, _, h, _ => by cases h
/-- what the lambda made holds -/
abbrev capsOf (c' : Nat) (q : Str) (xs : List Nat) (ds : List D) : Caps := codD c' q :: xs.zip ds
def tCallLam (K : PySem.W.Frag) (P : Addr) (q : Str) (js : List Nat) (spg : Addr → Caps → DSpec) (t1 t2 : TA) : TE := fun σ H Q => t1 σ H fun vs1 H1 => LamX.TabS H1 P q ∧ ∀ (f c' : Addr) (H2 : Hp), LamH P q c' H1 H2 → H2 f = none →
  t2 σ H2 fun vs2 H3 => ∃ (xs : List Nat) (ds : List D), ds.length = xs.length ∧ xs.length = js.length ∧ (∀ (i j x : Nat), js[i]? = some j → xs[i]? = some x → σ[j]? = some (some (.ref x))) ∧ spD K (spg f (capsOf c' q xs ds)) (vs1 ++ .ref f :: vs2) H3 Q
/-- g(.., lambda ..: .., ..): the captured names stand in the slots js -/
def dCallLam (q : Str) (js : List Nat) (spg : Addr → Caps → DSpec) (a1 a2 : DA) : DE := fun en cs k => a1 en cs fun zs1 cs1 => ∀ f : Addr, a2 en cs1 fun zs2 cs2 => ∃ ds : List D, (js.map fun j => en[j]?) = (ds.map fun d => some (some (.d d))) ∧ (ds.all refD) = true ∧
  ∀ (c' : Nat) (xs : List Nat), xs.length = ds.length → spg f (capsOf c' q xs ds) (zs1 ++ .d (lamD f (capsOf c' q xs ds)) :: zs2) cs2 k
theorem u_dCallLam (q : Str) (js : List Nat) (spg : Addr → Caps → DSpec) (a1 a2 : DA) (en : En) (cs : Cs) (k : Z → Cs → Prop) : dCallLam q js spg a1 a2 en cs k = (a1 en cs fun zs1 cs1 => ∀ f : Addr, a2 en cs1 fun zs2 cs2 => ∃ ds : List D, (js.map fun j => en[j]?) = (ds.map fun d => some (some (.d d))) ∧ (ds.all refD) = true ∧
  ∀ (c' : Nat) (xs : List Nat), xs.length = ds.length → spg f (capsOf c' q xs ds) (zs1 ++ .d (lamD f (capsOf c' q xs ds)) :: zs2) cs2 k) := nd rfl
/-- the cells behind a lambda's making -/
theorem rep_lam {K : PySem.W.Frag} {S H H1 : Hp} {as : List Addr} {cs : Cs} {P c' : Addr} {q : Str} (r : Rep K S H as cs) (hm : (P, q) ∈ tabsK K) (one : ∀ p ∈ tabsK K, p.1 = P → p.2 = q) (lh : LamH P q c' H H1) :
    Rep K (upd S c' (LamX.CodeO c' q)) H1 as cs ∧ Ext S as (upd S c' (LamX.CodeO c' q)) as := by
  have hnew : c' ∉ as := fun ha => by
    rcases lh with ⟨_, _, ps, pos, h1, h2⟩ | ⟨_, _, _, h2, _⟩
    · obtain ⟨_, ps2, e, _, hc⟩ := (r.tab _ hm).2
      simp only at e
      rw [h1] at e
      cases e
      obtain ⟨c, e1, e2, _⟩ := hc pos _ h2
      cases e1
      exact e2 ha
    · exact r.liv c' ha h2
  have sS : Sub S (upd S c' (LamX.CodeO c' q)) := fun a o e => by
    by_cases z : a = c'
    · subst z
      have e1 := r.sub a o e
      rcases lh with ⟨_, h2, _⟩ | ⟨ps, more, h1, h2, _⟩
      · rw [h2] at e1
        rw [upd_same, ← e1]
      · rw [h2] at e1
        cases e1
    · rw [upd_ne z]
      exact e
  have nP := (r.tab _ hm).1
  have tP := (r.tab _ hm).2
  have cP : c' ≠ P := fun z => by
    obtain ⟨_, ps, e, _⟩ := tP
    simp only at e
    rw [← z] at e
    rcases lh with ⟨_, h2, _⟩ | ⟨_, _, _, h2, _⟩ <;> rw [h2] at e
    · unfold LamX.CodeO at e
      cases e
    · cases e
  -- what is no table stays
  have keep : ∀ a o, a ≠ P → H a = some o → H1 a = some o := fun a o n e => by
    rcases lh with ⟨h1, _⟩ | ⟨_, _, _, h2, h3, _⟩
    · rw [h1]
      exact e
    · rw [h3, upd_ne (ne_of_none e h2), upd_ne n]
      exact e
  have at_c : H1 c' = some (LamX.CodeO c' q) := by
    rcases lh with ⟨h1, h2, _⟩ | ⟨_, _, _, _, h3, _⟩
    · rw [h1]
      exact h2
    · rw [h3]
      exact upd_same
  have notP : ∀ a ∈ as, a ≠ P := fun a ha z => tP.nas (by rw [← z]; exact ha)
  have keepA : ∀ a ∈ as, H1 a = H a := fun a ha => by
    cases e : H a with
    | none => exact absurd e (r.liv a ha)
    | some o => exact keep a o (notP a ha) e
  refine ⟨⟨fun a o e => ?_, r.len, r.nod, fun n a c e1 e2 => ?_, fun a ha => by rw [keepA a ha]; exact r.liv a ha, fun p hp => ⟨?_, ?_⟩⟩, Ext.of sS⟩
  · by_cases z : a = c'
    · subst z
      rw [upd_same] at e
      rw [at_c]
      exact e
    · rw [upd_ne z] at e
      refine keep a o (fun y => ?_) (r.sub a o e)
      rw [y] at e
      have nP : S P = none := nP
      rw [nP] at e
      cases e
  · have ha := List.mem_of_getElem? e1
    have ne : a ≠ c' := fun z => hnew (by rw [← z]; exact ha)
    exact CelAt.mono sS (fun h => by rw [upd_ne ne]; exact h) (keepA a ha) (r.cel n a c e1 e2)
  · have h1 := (r.tab p hp).1
    have ne : p.1 ≠ c' := fun z => by
      obtain ⟨_, ps, e, _⟩ := (r.tab p hp).2
      rw [z] at e
      rcases lh with ⟨_, h2, _⟩ | ⟨_, _, _, h2, _⟩ <;> rw [h2] at e
      · unfold LamX.CodeO at e
        cases e
      · cases e
    rw [upd_ne ne]
    exact h1
  · obtain ⟨h0, ps, e, tr, hc⟩ := (r.tab p hp).2
    refine ⟨h0, ?_⟩
    by_cases z : p.1 = P
    · have z2 := one p hp z
      rcases lh with ⟨h1, h2, _⟩ | ⟨ps', more, h1, h2, h3, h4, h5⟩
      · exact ⟨ps, by rw [h1]; exact e, tr, fun pos cv hcv => by
          obtain ⟨c, e1, e2, e3⟩ := hc pos cv hcv
          exact ⟨c, e1, e2, by rw [h1]; exact e3⟩⟩
      · rw [z] at e
        have ep : ps' = ps := by
          rw [h1] at e
          cases e
          rfl
        subst ep
        refine ⟨ps' ++ more, by rw [z, h3, upd_ne (fun y => cP y.symm), upd_same], h4, fun pos cv hcv => ?_⟩
        rcases h5 pos cv hcv with y | y
        · obtain ⟨c, e1, e2, e3⟩ := hc pos cv y
          refine ⟨c, e1, e2, keep c _ (fun y2 => ?_) e3⟩
          rw [y2, e] at e3
          unfold LamX.CodeO at e3
          cases e3
        · exact ⟨c', y, hnew, by rw [z2]; exact at_c⟩
    · refine ⟨ps, keep _ _ z e, tr, fun pos cv hcv => ?_⟩
      obtain ⟨c, e1, e2, e3⟩ := hc pos cv hcv
      refine ⟨c, e1, e2, keep c _ (fun y2 => ?_) e3⟩
      obtain ⟨_, ps2, e4, _⟩ := tP
      simp only at e4
      rw [y2, e4] at e3
      unfold LamX.CodeO at e3
      cases e3
end DL
set_option Elab.async false
set_option linter.all false
set_option maxRecDepth 100000
set_option maxHeartbeats 2000000
set_option autoImplicit false
/-! LMC: g(.., lambda ..: .., ..) -/
namespace DL
open PySem PySem.Spec PyProof.Rows L2
abbrev lamQ (qual : Str) : Str := qual ++ ".<locals>." ++ "<lambda>"
/-- what K tells of a def that makes lambdas -/
structure LamK (K : PySem.W.Frag) (mg : Str → Option Value) (qual : Str) : Prop where
  tab : ∀ cdv : Value, PySem.W.codeIn K cdv qual = true → ∃ c : Addr, cdv = .ref c ∧ (tabP K cdv, lamQ qual) ∈ tabsK K ∧ ∀ base : Heap, K.In base → base.Ns mainGlobals mg → LamX.TabB base mg c (tabP K cdv)
  one : ∀ p ∈ tabsK K, ∀ r ∈ tabsK K, p.1 = r.1 → p.2 = r.2
section
variable {X : Cx} {pins : List (Addr × Obj)} {σ : L2.St} {H : Hp} {s : Shared}
theorem inv_pin {f : Addr} {o : Obj} {fd : FuncData} (I : Inv X pins σ H s) (e : s.heap.get? f = some o) (n : H f = none) (hd : o.data = .func fd) (hf : f ∉ X.fs) : Inv X ((f, o) :: pins) σ H s := by
  refine { I with pin := fun p hp => ?_ }
  rcases List.mem_append.mp hp with hp | hp
  · exact I.pin p (List.mem_append_left _ hp)
  · rcases List.mem_cons.mp hp with rfl | hp
    · refine ⟨e, n, fun z => ?_, hf, fun v z => ?_⟩
      · obtain ⟨m, ⟨o', es, ep, e', d', _⟩, _⟩ := I.loc
        have z : f = X.env.locals := z
        rw [← z, e] at e'
        cases e'
        rw [hd] at d'
        cases d'
      · have z : o.data = .cell v := z
        rw [hd] at z
        cases z
    · exact I.pin p (List.mem_append_right _ hp)
theorem inv_unpin {p : Addr × Obj} (I : Inv X (p :: pins) σ H s) : Inv X pins σ H s :=
  { I with pin := fun q hq => I.pin q ((List.mem_append.mp hq).elim (fun h => List.mem_append_left _ h) fun h => List.mem_append_right _ (List.mem_cons_of_mem _ h)) }
theorem funs_base {h b1 b2 : Heap} : ∀ {l : List Env}, (∀ b ∈ frs l, b2.get? b = none) → h.FunFrames b1 l → h.FunFrames b2 l
  | [], _, _ => trivial
  | env :: r, k, ⟨h1, ⟨L, o, e1, e2, e3, e4⟩, h2⟩ => by
    have hL : L ∈ frs (env :: r) := by
      unfold frs
      rw [List.filterMap_cons, e1]
      exact List.mem_cons_self
    refine ⟨h1, ⟨L, o, e1, k L hL, e3, e4⟩, funs_base (fun b hb => k b ?_) h2⟩
    unfold frs at hb ⊢
    rw [List.filterMap_cons, e1]
    exact List.mem_cons_of_mem _ hb
/-- the base with a lambda and what it captured -/
theorem base_lam {f c' : Addr} {pm ctv : Value} {q : Str} {params : Arguments} {bd : Expr} {scope : Scope} {fr : List Str} {js xs : List Nat}
    (I : Inv X ((f, PySem.W.kla_obj "<lambda>" q params bd scope (cloFrom X.env.cells scope.names []) pm c' ctv) :: pins) σ H s)
    (hjs : (js.map fun j => X.N[j]?) = fr.map some) (hfr : ∀ y ∈ fr, X.env.scope.names.lookup y = some .cell ∨ X.env.scope.names.lookup y = some .free) (hfn : ∀ y ∈ fr, X.fn y = true)
    (hsf : ∀ y ∈ scope.names, y.2 = .free → y.1 ∈ fr) (hfs : ∀ y ∈ fr, (y, NameKind.free) ∈ scope.names) (hl : xs.length = js.length) (hx : ∀ (i j x : Nat), js[i]? = some j → xs[i]? = some x → σ[j]? = some (some (.ref x))) :
    ∃ base' : Heap, Env0 X.prog X.w X.K X.mg base' X.A X.stack s H ∧ LamAt base' f ⟨"<lambda>", q, params, [], scope, cloFrom X.env.cells scope.names [], c'⟩ bd fr xs := by
  obtain ⟨cl, hcl⟩ : ∃ cl, cl = cloFrom X.env.cells scope.names [] := ⟨_, rfl⟩
  rw [← hcl] at I ⊢
  have hp := I.pin _ (List.mem_append_right _ List.mem_cons_self)
  obtain ⟨p1, p2, p3, p4, _⟩ := hp
  have cm : ∀ {y : Str} {c : Addr}, (y, c) ∈ cl → y ∈ fr ∧ X.env.cells.lookup y = some c := fun {y c} h => by
    rw [hcl] at h
    rcases cloFrom_mem h with h | ⟨h1, h2⟩
    · cases h
    · have hy := hsf _ h1 rfl
      obtain ⟨c1, hc⟩ := I.ok.has y (hfr y hy)
      rw [hc] at h2
      exact ⟨hy, by rw [hc, h2]; rfl⟩
  have cl_ : ∀ {y : Str} {c : Addr}, cl.lookup y = some c → y ∈ fr ∧ X.env.cells.lookup y = some c := fun {y c} h => cm (PySem.mem_of_lookup h)
  obtain ⟨Hx, hHx⟩ : ∃ Hx : Hp, Hx = fun b => if (X.base.get? b).isSome = true ∨ b = f ∨ b ∈ cl.map Prod.snd then none else some (.rng 0 0) := ⟨_, rfl⟩
  have hx1 : ∀ b, (X.base.get? b).isSome = true ∨ b = f ∨ b ∈ cl.map Prod.snd → Hx b = none := fun b h => by rw [hHx]; exact if_pos h
  have hx2 : ∀ b, Hx b = none → (X.base.get? b).isSome = true ∨ b = f ∨ b ∈ cl.map Prod.snd := fun b h => by
    rw [hHx] at h
    by_cases z : (X.base.get? b).isSome = true ∨ b = f ∨ b ∈ cl.map Prod.snd
    · exact z
    · cases (if_neg z).symm.trans h
  have up : ∀ b o, X.base.get? b = some o → (hidT s.heap Hx).get? b = some o := fun b o e => hidT_get (I.bk b o e) (hx1 b (.inl (by rw [e]; rfl)))
  have cellOf : ∀ {b : Addr}, b ∈ cl.map Prod.snd → ∃ y, y ∈ fr ∧ X.env.cells.lookup y = some b := fun {b} hb => by
    obtain ⟨⟨y, c⟩, h1, h2⟩ := List.mem_map.mp hb
    have h2 : c = b := h2
    subst h2
    exact ⟨y, cm h1⟩
  have cK : ∀ {y : Str} {c : Addr} {v : Option Value}, cl.lookup y = some c → s.heap.IsCell c v → (hidT s.heap Hx).IsCell c v := fun {y c v} h ⟨o, e, d⟩ =>
    ⟨o, hidT_get e (hx1 c (.inr (.inr (List.mem_map.mpr ⟨(y, c), PySem.mem_of_lookup h, rfl⟩)))), d⟩
  have fsn : ∀ b ∈ X.fs, b < X.s_0.heap.objs.size := fun b hb => by
    obtain ⟨_, o, ho, _⟩ := I.ok.funs.mem hb
    exact Heap.lt_size ho
  refine ⟨hidT s.heap Hx, ⟨I.ok.frames, ⟨I.ok.mod.kin.keeps up, I.mod.glob.keeps up, ?_, I.mod.nolimit.keeps up⟩, fun b o e => ?_, by rw [hidT_size]; exact Nat.le_refl _, funs_base (fun b hb => ?_) I.stack, I.stkFree, I.hok, I.bare⟩,
    ⟨pm, ctv, hidT_get p1 (hx1 f (.inr (.inl rfl)))⟩, ?_, fun y c h => ?_, fun x y c h1 h2 => I.ok.inj x y c (cl_ h1).2 (cl_ h2).2, fun i y h => ?_⟩
  · obtain ⟨mb, h1, h2⟩ := I.mod.blt
    exact ⟨mb, h1.keeps up, h2⟩
  · obtain ⟨e1, e2⟩ := of_hidT e
    rcases hx2 b e2 with h | rfl | h
    · obtain ⟨o', ho⟩ := Option.isSome_iff_exists.mp h
      have := I.bs b o' ho
      rw [e1] at this
      exact ⟨e1, this.2⟩
    · exact ⟨e1, p2⟩
    · obtain ⟨y, _, hy⟩ := cellOf h
      exact ⟨e1, I.freeC y b hy⟩
  · cases e : (hidT s.heap Hx).get? b with
    | none => rfl
    | some o =>
      obtain ⟨e1, e2⟩ := of_hidT e
      rcases hx2 b e2 with h | rfl | h
      · obtain ⟨o', ho⟩ := Option.isSome_iff_exists.mp h
        have := (I.stack.mem hb).1
        rw [ho] at this
        cases this
      · rcases List.mem_cons.mp (I.stkSub b hb) with z | z
        · exact absurd z p3
        · exact absurd z p4
      · obtain ⟨y, hy, hc⟩ := cellOf h
        rcases List.mem_cons.mp (I.stkSub b hb) with z | z
        · exact absurd z (I.cne y b hc)
        · have h1 := fsn b z
          have h2 := I.ok.cab y b (hfn y hy) hc
          exact absurd h1 (Nat.not_lt.mpr h2)
  · have := congrArg List.length hjs
    rw [List.length_map, List.length_map] at this
    exact hl.trans this
  · obtain ⟨v, z⟩ := I.cell y c (cl_ h).2
    exact ⟨v, cK h z⟩
  · have hy := List.mem_of_getElem? h
    obtain ⟨c1, hc1⟩ := I.ok.has y (hfr y hy)
    obtain ⟨c, hc⟩ : ∃ c, cl.lookup y = some c := by
      rw [hcl]
      exact mem_lookup (cloFrom_has (cells := X.env.cells) (acc := []) (hfs y hy))
    refine ⟨c, hc, fun x hxi => cK hc ?_⟩
    have hcx := (cl_ hc).2
    obtain ⟨j, hj⟩ : ∃ j, js[i]? = some j := ⟨_, List.getElem?_eq_getElem (by rw [← hl]; exact (List.getElem?_eq_some_iff.mp hxi).1)⟩
    have hN : X.N[j]? = some y := by
      have e1 : (js.map fun j => X.N[j]?)[i]? = (fr.map some)[i]? := by rw [hjs]
      rw [List.getElem?_map, List.getElem?_map, hj, h] at e1
      exact Option.some.inj e1
    obtain ⟨m, _, hlk⟩ := I.loc
    have vis : Vis X.env.scope y := .inr (hfr y hy)
    obtain ⟨u, ru, lk⟩ := hlk j y (.ref x) hN (hx i j x hj hxi) vis
    obtain rfl : u = Value.ref x := ru
    rcases lk with ⟨k1, _⟩ | ⟨_, c2, e2, z⟩
    · have k1 : X.env.scope.names.lookup y = some .local := k1
      rcases hfr y hy with k2 | k2 <;> rw [k1] at k2 <;> cases k2
    · rw [hcx] at e2
      cases e2
      exact z
end
theorem back_app (pos : Pos) (a b : List (Bool × Sem Value)) : backTo pos (a ++ b) = backTo pos a ++ backTo pos b := List.map_append ..
section
variable {X : Cx} {name qual : Str} {ps fr : List Str} {k : Nat} {e : Expr} {es es1 es2 : List Expr} {params : Arguments} {bd : Expr} {scope : Scope} {lpos p pos : Pos} {t1 t2 : TA} {a1 a2 : DA} {js : List Nat} {spg : Addr → Caps → DSpec}
theorem VZL.app {K : PySem.W.Frag} {S : Hp} {as : List Addr} : ∀ {zs ys : List Z} {vs us : List V}, VZL K S as zs vs → VZL K S as ys us → VZL K S as (zs ++ ys) (vs ++ us)
  | [], _, _, _, h, g => by rw [show _ = [] from h]; exact g
  | _ :: _, _, _, _, ⟨v, r, h1, h2, h3⟩, g => by
    subst h1
    exact ⟨v, _, rfl, h2, VZL.app h3 g⟩
theorem q_callLam (L : LamK X.K X.mg qual) (hcd : PySem.W.codeIn X.K X.env.code qual = true) (G0 : Got X.prog X.w X.K X.mg X.base name 0 ps fun _ _ _ => False)
    (G : ∀ (base' : Heap) (f c' : Addr) (xs : List Nat) (ds : List D), ds.length = xs.length → LamAt base' f ⟨"<lambda>", lamQ qual, params, [], scope, cloFrom X.env.cells scope.names [], c'⟩ bd fr xs →
      Got X.prog X.w X.K X.mg base' name k ps (spg f (capsOf c' (lamQ qual) xs ds)))
    (hr : Room k X.A) (hgd : X.A.guards = some []) (h1 : QAc X es1 t1 a1) (h2 : QA X es2 t2 a2)
    (hst : starEach (e :: es) X.env = starEach es1 X.env ++ (false, eval (.Lambda params bd scope lpos) X.env) :: starEach es2 X.env := by rfl)
    (hq : X.env.qual = qual ++ ".<locals>." := by rfl) (hg : Gl X name := by rfl) (hdb : (name == ("__debug__" : Str)) = false := by decide)
    (he : starEach (e :: es) X.env = (false, eval e X.env) :: starEach es X.env := by rfl) (hpl : (backTo pos (starEach es X.env)).any (·.1) = false := by rfl)
    (hjs : (js.map fun j => X.N[j]?) = fr.map some := by rfl) (hfr : (fr.all fun y => decide (X.env.scope.names.lookup y = some .cell)) = true := by rfl) (hfn : ∀ y, X.fn y = true := by exact fun _ => rfl)
    (hsf : (scope.names.all fun y => decide (y.2 ≠ .free) || fr.contains y.1) = true := by rfl) (hfs : (fr.all fun y => scope.names.any fun z => decide (z.1 = y) && decide (z.2 = .free)) = true := by rfl) (hdef : defaultsOf params X.env = ([], []) := by rfl) :
    QE X (.Call (.Name name p) (e :: es) [] pos) (tCallLam X.K (tabP X.K X.env.code) (lamQ qual) js spg t1 t2) (dCallLam (lamQ qual) js spg a1 a2) := by
  obtain ⟨c, hc, hm, TBs⟩ := L.tab _ hcd
  have hfr' : ∀ y ∈ fr, X.env.scope.names.lookup y = some .cell ∨ X.env.scope.names.lookup y = some .free := fun y hy => .inl (of_decide_eq_true (List.all_eq_true.mp hfr y hy))
  have hsf' : ∀ y ∈ scope.names, y.2 = .free → y.1 ∈ fr := fun y hy z => by
    have h := List.all_eq_true.mp hsf y hy
    rcases Bool.or_eq_true_iff.mp h with h | h
    · exact absurd z (of_decide_eq_true h)
    · exact List.contains_iff_mem.mp h
  have hfs' : ∀ y ∈ fr, (y, NameKind.free) ∈ scope.names := fun y hy => by
    obtain ⟨z, hz, h⟩ := List.any_eq_true.mp (List.all_eq_true.mp hfs y hy)
    obtain ⟨h1, h2⟩ := Bool.and_eq_true_iff.mp h
    have e1 := of_decide_eq_true h1
    have e2 := of_decide_eq_true h2
    rw [← e1, ← e2]
    exact hz
  refine ⟨⟨fun pins s σ H Q I h => ?_⟩, ?_⟩
  · have TB := TBs X.base I.ok.mod.kin I.mod.glob
    obtain ⟨g, fd, gm, gk, gb, _⟩ := G0
    refine wpAny_Call_Name_kw (ld_glob I hg gm ?_ hdb)
    refine PySem.W.callWith_K (h₀ := X.base) I.ok.mod.kin gk ?_ he hpl
    rw [hst, back_app]
    refine h1.pa.run pos pins s σ H _ _ _ I h fun us1 vs1 s1 H1 I1 r1 q1 => ?_
    obtain ⟨hT, q1⟩ := q1
    show wpAny _ _ (spliced ((false, eval (.Lambda params bd scope lpos) X.env) :: backTo pos (starEach es2 X.env))) _ _ s1
    have eq : X.env.qual ++ "<lambda>" = lamQ qual := by rw [hq]
    refine Calls.spliced_cons (make_lam I1 TB hc (by rw [eq]; exact hT) hdef (fun y hy z => I1.ok.has _ (hfr' _ (hsf' y hy z))) fun f c' pm ctv H2 s2 I2 lh hf hfn0 hfs0 => ?_)
    rw [eq] at lh hf
    have I2p := inv_pin I2 hf hfn0 rfl hfs0
    refine thn (h2.pa.run pos _ s2 σ H2 _ I2p (q1 f c' H2 lh hfn0)) fun us2 s3 ⟨vs2, H3, I3, r3, q3⟩ => ⟨I3.kIn, ?_⟩
    obtain ⟨xs, ds, l1, l2, hxs, q3⟩ := q3
    obtain ⟨base', e0, A0⟩ := base_lam I3 hjs hfr' (fun y _ => hfn y) hsf' hfs' l2 hxs
    obtain ⟨g', fd', gm', gk', gb', FD⟩ := G base' f c' xs ds l1 A0
    cases gm'.symm.trans gm
    have rv : Vals (vs1 ++ .ref f :: vs2) (us1 ++ .ref f :: us2) := r1.append (.cons rfl r3)
    have hl : (us1 ++ Value.ref f :: us2 ++ []).length = ps.length := by
      obtain ⟨S, as, zs, cs, q, a1, a2, a3, a4⟩ := q3
      rw [List.append_nil, ← rv.length, a2.len, FD.len _ _ _ a3]
    have b := gb' s3 _ I3.kIn hl
    rw [List.append_nil] at b
    refine wpAny_call (codeAny_mono (FD.run X.A X.stack s3 H3 ⟨us1 ++ .ref f :: us2, []⟩ _ _ Q hr hgd e0 b rv q3) fun r s' hq => ?_)
    cases r with
    | error e => exact hq.elim
    | ok fl =>
      cases fl with
      | ret u =>
        obtain ⟨v, H', J, rv', qq⟩ := I3.after hq
        exact ⟨v, H', inv_unpin J, rv', qq⟩
      | next => exact hq.elim
      | brk => exact hq.elim
      | cont => exact hq.elim
  · intro σ H S as en cs kk Q rp ev qd pq
    refine h1.sem σ H S as en cs _ _ rp ev qd fun zs1 vs1 S1 H1 as1 cs1 e1 r1 v1 q1 => ?_
    refine ⟨?_, fun f c' H2 lh hf0 => ?_⟩
    · obtain ⟨_, ps', e, tr, hcv⟩ := (r1.tab _ hm).2
      exact ⟨ps', e, tr, fun pos cv h => let ⟨c, h1, _, h3⟩ := hcv pos cv h; ⟨c, h1, h3⟩⟩
    obtain ⟨r2, e2⟩ := rep_lam r1 hm (fun p hp z => L.one p hp _ hm z) lh
    refine h2.sem σ H2 _ as1 en cs1 _ _ r2 (ev.mono (e1.trans e2)) (q1 f) fun zs2 vs2 S3 H3 as3 cs3 e3 r3 v3 q3 => ?_
    obtain ⟨ds, hen, href, hk⟩ := q3
    have ev3 := ev.mono (e1.trans (e2.trans e3))
    -- the addresses of what is captured
    have dl : ds.length = js.length := by
      have := congrArg List.length hen
      rw [List.length_map, List.length_map] at this
      exact this.symm
    have at_ : ∀ i : Nat, ∀ d, ds[i]? = some d → ∃ j x : Nat, js[i]? = some j ∧ σ[j]? = some (some (.ref x)) ∧ Is X.K S3 d (.ref x) := fun i d hd => by
      have il := (List.getElem?_eq_some_iff.mp hd).1
      have hj : js[i]? = some (js[i]'(by omega)) := List.getElem?_eq_getElem (by omega)
      have e : (js.map fun j => en[j]?)[i]? = (ds.map fun d => some (some (Z.d d)))[i]? := by rw [hen]
      rw [List.getElem?_map, List.getElem?_map, hj, hd] at e
      obtain ⟨v, hv, hz⟩ := ev3.at_ _ _ (Option.some.inj e)
      obtain ⟨x, rfl⟩ := refD_is (List.all_eq_true.mp href d (List.mem_of_getElem? hd)) hz
      exact ⟨_, x, hj, hv, hz⟩
    obtain ⟨xs, xl, hx⟩ : ∃ xs : List Nat, xs.length = ds.length ∧ ∀ (i : Nat) (d : D) (x : Nat), ds[i]? = some d → xs[i]? = some x → ∃ j, js[i]? = some j ∧ σ[j]? = some (some (.ref x)) ∧ Is X.K S3 d (.ref x) := by
      refine ⟨(List.range ds.length).map fun i => match σ[js.getD i 0]? with
        | some (some (.ref x)) => x
        | _ => 0, by rw [List.length_map, List.length_range], fun i d x hd hxi => ?_⟩
      obtain ⟨j, y, h1, h2, h3⟩ := at_ i d hd
      have il := (List.getElem?_eq_some_iff.mp hd).1
      rw [List.getElem?_map, List.getElem?_range il] at hxi
      have ej : js.getD i 0 = j := by rw [List.getD_eq_getElem?_getD, h1]; rfl
      have hxi := Option.some.inj hxi
      simp only [ej, h2] at hxi
      subst hxi
      exact ⟨j, h1, h2, h3⟩
    refine ⟨xs, ds, xl.symm, xl.trans dl, fun i j x hj hxi => ?_, S3, as3, zs1 ++ .d (lamD f (capsOf c' (lamQ qual) xs ds)) :: zs2, cs3, kk, r3, ?_, hk c' xs xl, pq.mono (e1.trans (e2.trans e3))⟩
    · have il := (List.getElem?_eq_some_iff.mp hxi).1
      obtain ⟨j', h1, h2, _⟩ := hx i _ x (List.getElem?_eq_getElem (by omega)) hxi
      rw [hj] at h1
      cases h1
      exact h2
    · refine VZL.app (v1.mono (e2.trans e3)) ⟨.ref f, vs2, rfl, lamD_is.mpr ⟨rfl, fun p hp => ?_⟩, v3⟩
      rcases List.mem_cons.mp hp with rfl | hp
      · exact ⟨rfl, e3.sub _ _ upd_same⟩
      · obtain ⟨i, hi⟩ := List.mem_iff_getElem?.mp hp
        rw [List.getElem?_zip_eq_some] at hi
        obtain ⟨_, _, _, h3⟩ := hx i _ _ hi.2 hi.1
        exact h3
end
end DL
set_option Elab.async false
set_option linter.all false
set_option maxRecDepth 100000
set_option maxHeartbeats 2000000
set_option autoImplicit false
/-! HKC: a head by one kernel run: what the top leaves, looked at by names -/
namespace DL
open PySem PySem.Spec PyProof.Rows L2
namespace Hk
theorem isNo_eq {v : Value} (h : isNo v = true) : v = .none := by
  cases v <;> first | rfl | cases h
theorem FnC.fun_ {K : FrK} {d : FnC} (e : d.seen K = d.due) (g : d.good K = true) : ∃ fd, Fun K d.name d.qual d.st (d.adr K) fd := by
  obtain ⟨kp, g2⟩ := Bool.and_eq_true_iff.mp g
  unfold FnC.seen at e
  cases q : fdA K (d.adr K) with
  | none =>
    rw [q] at g2
    cases g2
  | some fd =>
    rw [q] at g2 e
    obtain ⟨g3, g4⟩ := Bool.and_eq_true_iff.mp g2
    have g5 := isNo_eq g4
    have e2 : seeF fd = ((d.name, d.qual), (defArgs d.st, .stmts (defBody d.st)), (defScope d.st, mainGlobals), [], builtinsNs) := Option.some.inj e
    unfold fdA at q
    obtain ⟨o, q1, q2⟩ := Option.bind_eq_some_iff.mp q
    obtain ⟨oc, od, dt, osl⟩ := o
    cases dt with
    | func fd2 =>
      cases q2
      obtain ⟨m1, m2, m3, m4, m5, m6, m7, m8, m9, m10, m11, m12, m13, m14, m15⟩ := fd
      simp only [seeF, Prod.mk.injEq] at e2
      obtain ⟨⟨rfl, rfl⟩, ⟨rfl, rfl⟩, ⟨rfl, rfl⟩, rfl, rfl⟩ := e2
      have g5 : m8 = .none := g5
      subst g5
      exact ⟨_, fun_mk q1 g3 kp⟩
    | _ => cases q2
section
variable {fa : List He.Fa} {ck : List (FrK → Bool)} {fn : List FnC} {K : FrK}
theorem SaysC.all (c : SaysC fa ck fn K) : (fa.all fun f => f.ok K) = true ∧ (ck.all fun c => c K) = true ∧ (fn.all fun d => d.good K) = true := by
  have h := congrArg (fun z : ObC => z.1) c
  obtain ⟨h1, h2⟩ := Bool.and_eq_true_iff.mp (show ((fa.all fun f => f.ok K) && ((ck.all fun c => c K) && fn.all fun d => d.good K)) = true from h)
  obtain ⟨h3, h4⟩ := Bool.and_eq_true_iff.mp h2
  exact ⟨h1, h3, h4⟩
theorem SaysC.fact (c : SaysC fa ck fn K) (i : Nat) {f : He.Fa} (h : fa[i]? = some f := by rfl) : f.ok K = true := List.all_eq_true.mp c.all.1 f (List.mem_of_getElem? h)
theorem SaysC.chk (c : SaysC fa ck fn K) (i : Nat) {f : FrK → Bool} (h : ck[i]? = some f := by rfl) : f K = true := List.all_eq_true.mp c.all.2.1 f (List.mem_of_getElem? h)
theorem SaysC.def_ (c : SaysC fa ck fn K) (i : Nat) {d : FnC} (h : fn[i]? = some d := by rfl) : ∃ fd, Fun K d.name d.qual d.st (d.adr K) fd := by
  have e : fn.map (fun d => d.seen K) = fn.map FnC.due := congrArg (fun z : ObC => z.2) c
  have e2 : (fn.map fun d => d.seen K)[i]? = (fn.map FnC.due)[i]? := by rw [e]
  rw [List.getElem?_map, List.getElem?_map, h] at e2
  exact FnC.fun_ (Option.some.inj e2) (List.all_eq_true.mp c.all.2.2 d (List.mem_of_getElem? h))
end
/-! ### what is looked at -/
theorem clsC_ok {x : Str} {K : FrK} (h : clsC x K = true) : ClsD K (He.ga K x) := by
  unfold clsC at h
  simp only [Bool.and_eq_true] at h
  obtain ⟨h1, h2, h3, h4, h5, h6, h7, h8⟩ := h
  exact ⟨He.cls_ok h1, He.eqO_ok h2, He.eqO_ok h3, of_decide_eq_true h4, of_decide_eq_true h5, h6, of_decide_eq_true h7, h8⟩
theorem othC_ok {x y : Str} {K : FrK} (h : othC x y K = true) : ∀ C' ∈ ([He.ga K y] : List Addr), Oth K (He.ga K x) C' := fun C' hC => by
  rw [List.mem_singleton.mp hC]
  unfold othC at h
  simp only [Bool.and_eq_true] at h
  obtain ⟨h1, h2, h3⟩ := h
  exact ⟨clsC_ok h1, of_decide_eq_true h2, of_decide_eq_true h3⟩
theorem neC_ok {x : Str} {K : FrK} (h : neC x K = true) : PySem.W.findIn K (.ref (He.ga K x)) "__ne__" = some (some (.builtin "object.__ne__")) := He.eqO_ok h
theorem isRec_ok {K : FrK} {p f : Addr} (h : isRec K p f = true) : ∃ rest, PySem.W.recIn K p "property" = some (.ref f :: rest) := by
  unfold isRec at h
  split at h
  · rename_i g rest q
    rw [of_decide_eq_true h] at q
    exact ⟨rest, q⟩
  · cases h
section
variable {K : FrK} {h : Heap} {mg : Str → Option Value} {st : Stmt} {ps : List Str} {x m name qual : Str} {fd : FuncData}
theorem defT (X : K.In h) (G : h.Ns mainGlobals mg) (g : (He.Fa.glo name).ok K = true) (F : Fun K name name st (He.ga K name) fd)
    (hb : ∀ (kV doc pm : Value) (an : Option Addr) (cdv ct : Value) (us : List Value), us.length = ps.length → bindArgs (PySem.W.fnOf name name (defArgs st) (defBody st) (defScope st) .none kV doc pm an cdv ct) ⟨us, []⟩ = pure (ps.zip us)) : DefT K mg name st ps :=
  ⟨_, _, F, He.glo_ok X G g, F.binds hb⟩
theorem methT (g : methC x m K = true) (F : Fun K m qual st (mA x m K) fd)
    (hb : ∀ (kV doc pm : Value) (an : Option Addr) (cdv ct : Value) (us : List Value), us.length = ps.length → bindArgs (PySem.W.fnOf m qual (defArgs st) (defBody st) (defScope st) .none kV doc pm an cdv ct) ⟨us, []⟩ = pure (ps.zip us)) : MethT K (He.ga K x) m qual st ps := by
  obtain ⟨g1, g2⟩ := Bool.and_eq_true_iff.mp g
  exact ⟨_, _, F, He.meth_ok g1, g2, F.binds hb⟩
theorem propT (g : propC x m K = true) (F : Fun K m qual st (pA x m K) fd)
    (hb : ∀ (kV doc pm : Value) (an : Option Addr) (cdv ct : Value) (us : List Value), us.length = ps.length → bindArgs (PySem.W.fnOf m qual (defArgs st) (defBody st) (defScope st) .none kV doc pm an cdv ct) ⟨us, []⟩ = pure (ps.zip us)) : PropT K (He.ga K x) m qual st ps := by
  unfold propC at g
  simp only [Bool.and_eq_true] at g
  obtain ⟨g1, g2, g3, g4⟩ := g
  exact ⟨mA x m K, _, _, F, ⟨He.eqO_ok g1, He.eqO_ok g2, of_decide_eq_true g3, isRec_ok g4⟩, F.binds hb⟩
theorem initT (X : K.In h) (G : h.Ns mainGlobals mg) (g : (He.Fa.glo x).ok K = true) (k : (He.Fa.mkr x).ok K = true) (F : Fun K "__init__" qual st (mA x "__init__" K) fd)
    (hb : ∀ (kV doc pm : Value) (an : Option Addr) (cdv ct : Value) (us : List Value), us.length = ps.length → bindArgs (PySem.W.fnOf "__init__" qual (defArgs st) (defBody st) (defScope st) .none kV doc pm an cdv ct) ⟨us, []⟩ = pure (ps.zip us)) : InitT K mg (He.ga K x) x qual st ps :=
  ⟨_, _, F, He.glo_ok X G g, He.mkr_ok k, F.binds hb⟩
end
/-! ### defs that make lambdas -/
theorem lamK {K : FrK} {h : Heap} {mg : Str → Option Value} {q : Str} (X : K.In h) (G : h.Ns mainGlobals mg) (t : TabsOk h K) (c : lamC q K = true) (o : oneC K = true) (b : bmC K = true) (g : (He.Fa.glo "__builtins__").ok K = true) (gm : (K.lookup mainGlobals).isSome = true) : LamK K mg q := by
  have bmA := He.glo_ok X G g
  refine ⟨fun cdv hc => ?_, fun p hp r hr e => ?_⟩
  · unfold PySem.W.codeIn at hc
    split at hc
    · rename_i c'
      split at hc
      · rename_i cl od vs sl hl
        split at hc
        · rename_i a n tk rest hv
          have hm := PySem.W.mem_of_lookupK hl
          have h1 := List.all_eq_true.mp c _ hm
          unfold codeOk at h1
          simp only [hv] at h1
          have en : n = q := eq_of_beq hc
          subst en
          rw [show (n != n) = false by simp, Bool.false_or] at h1
          obtain ⟨h2, h3⟩ := Bool.and_eq_true_iff.mp h1
          obtain ⟨h4, h5⟩ := Bool.and_eq_true_iff.mp h3
          have h5 := of_decide_eq_true h5
          have eP : tabP K (.ref c') = tabP [(c', ⟨cl, od, .fields vs, sl⟩)] (.ref c') := by
            unfold tabP
            simp only [hl, List.lookup_cons, beq_self_eq_true]
          have eH : PySem.W.codeHdIn K c' (tabP K (.ref c')) = true := by
            rw [eP]
            unfold PySem.W.codeHdIn at h4 ⊢
            simp only [hl, List.lookup_cons, beq_self_eq_true] at h4 ⊢
            exact h4
          rw [← eP] at h5
          have hT : (tabP K (.ref c'), lamQ n) ∈ tabsK K := List.mem_filterMap.mpr ⟨_, hm, h5⟩
          have no := t.out _ hT
          refine ⟨c', rfl, hT, fun base KB NB => ⟨PySem.W.codeHd_of_K KB eH, ?_, fun z => ?_⟩⟩
          · unfold bmC at b
            split at b
            · rename_i x d sl2 hb
              obtain ⟨b1, b2⟩ := Bool.and_eq_true_iff.mp b
              have b1 := of_decide_eq_true b1
              obtain ⟨b2, b3⟩ := Bool.and_eq_true_iff.mp b2
              have b2 := of_decide_eq_true b2
              have b3 := of_decide_eq_true b3
              subst b1
              subst b2
              have hx := X _ _ hb
              refine ⟨_, _, bmA, fun z => ?_, fun z => ?_, fun z => ?_, KB _ _ hb, rfl, rfl, rfl⟩
              · exact b3 z
              · obtain ⟨o2, es, ep, e1, e2, _⟩ := NB
                rw [← z, KB _ _ hb] at e1
                cases e1
                cases e2
              · have no : K.lookup (tabP K (.ref c')) = none := no
                rw [← z, hb] at no
                cases no
            · cases b
          · have no : K.lookup (tabP K (.ref c')) = none := no
            rw [← z] at no
            rw [no] at gm
            cases gm
        · cases hc
      · cases hc
    · cases hc
  · have h1 := List.all_eq_true.mp (List.all_eq_true.mp o p hp) r hr
    rw [e] at h1
    rw [show (r.1 != r.1) = false by simp, Bool.false_or] at h1
    exact of_decide_eq_true h1
end Hk
theorem walk_H {l : PySem.W.OpenLaw} {n k : Nat} {q : Program} {loose : List Str} {XP : (Str → Option Value) → Heap → Prop} {YP : World → Heap → Prop} {d : DefRec} {sp : DSpec} {x : Str}
    (hn : l.most = some n) (hn2 : n ≤ sizeLine) (hdf : d.params.defaults = []) (hr : Room k callerA)
    (F : ∀ (w : World) (h : Heap), YP w h → ∃ K : PySem.W.Frag, K.In h ∧ TabsOk h K ∧ ∀ mg : Str → Option Value, h.Ns mainGlobals mg →
      ∀ base : Heap, K.In base → base.Ns mainGlobals mg → Got l.prog w K mg base d.name k [x] sp)
    (hsp : ∀ ns : List Int, ns.length ≤ n → sp [.d (.scr ns)] [] fun z _ => z = .d (.bl true)) :
    PySem.W.WalkO q loose XP YP l.row.toRowW d [] (fun f vs => PySem.call f vs) := by
  refine Att.attach_call hn hdf fun w s0 s1 mg mb fa o pm cd doc a vs ns G Y ho hd hcd hmg hobj hints hlen hg => ?_
  obtain ⟨K, KX, TK, FK⟩ := F w _ Y
  exact law_callG KX G.T.g G.T.b G.T.builtins G.T.nolimit hg TK hobj hints (Nat.le_trans hlen hn2) hr hmg (FK mg G.T.g) (hsp ns hlen)
end DL
set_option Elab.async false
set_option linter.all false
set_option maxRecDepth 100000
set_option maxHeartbeats 4000000
set_option autoImplicit false
namespace K10
open PySem PySem.Spec PyProof.Rows DL K01 PM PA
open L2 hiding It
structure Bt (mg : Str → Option Value) : Prop where
  all_ : mg "all" = none
  bool_ : mg "bool" = none
  enumerate_ : mg "enumerate" = none
  int_ : mg "int" = none
  isinstance_ : mg "isinstance" = none
  len_ : mg "len" = none
  list_ : mg "list" = none
  max_ : mg "max" = none
  min_ : mg "min" = none
  range_ : mg "range" = none
  repr_ : mg "repr" = none
  sorted_ : mg "sorted" = none
  tuple_ : mg "tuple" = none
  zip_ : mg "zip" = none
structure Bc (K : PySem.W.Frag) (mg : Str → Option Value) (cA : Str → Addr) : Prop where
  kc_Passage : ClsD K (cA "Passage")
  mc_Passage : mg "Passage" = some (.ref (cA "Passage"))
  na_Passage_own_cycle : NoAttr K (cA "Passage") "own_cycle"
  na_Passage_own_runs : NoAttr K (cA "Passage") "own_runs"
  ot_Passage : ∀ C' ∈ ([] : List Addr), Oth K (cA "Passage") C'
abbrev N_is_int : List Str := ["value"]
theorem sc_is_int : FnScope N_is_int ["value"] (defScope s_is_int) := ⟨rfl, rfl, rfl, by decide +kernel, rfl, by decide +kernel, by decide +kernel⟩
abbrev N_in_range : List Str := ["value", "low", "high"]
theorem sc_in_range : FnScope N_in_range ["value", "low", "high"] (defScope s_in_range) := ⟨rfl, rfl, rfl, by decide +kernel, rfl, by decide +kernel, by decide +kernel⟩
abbrev N_require_cycle : List Str := ["value"]
theorem sc_require_cycle : FnScope N_require_cycle ["value"] (defScope s_require_cycle) := ⟨rfl, rfl, rfl, by decide +kernel, rfl, by decide +kernel, by decide +kernel⟩
abbrev N_is_row : List Str := ["value", "number"]
theorem sc_is_row : FnScope N_is_row ["value"] (defScope s_is_row) := ⟨rfl, rfl, rfl, by decide +kernel, rfl, by decide +kernel, by decide +kernel⟩
abbrev N_are_runs : List Str := ["cycle", "value", "moved", "one", "other", "row"]
theorem sc_are_runs : FnScope N_are_runs ["cycle", "value"] (defScope s_are_runs) := ⟨rfl, rfl, rfl, by decide +kernel, rfl, by decide +kernel, by decide +kernel⟩
abbrev N_moved_row : List Str := ["row", "by"]
theorem sc_moved_row : FnScope N_moved_row ["row", "by"] (defScope s_moved_row) := ⟨rfl, rfl, rfl, by decide +kernel, rfl, by decide +kernel, by decide +kernel⟩
abbrev N_joined_rows : List Str := ["rows", "found", "row"]
theorem sc_joined_rows : FnScope N_joined_rows ["rows"] (defScope s_joined_rows) := ⟨rfl, rfl, rfl, by decide +kernel, rfl, by decide +kernel, by decide +kernel⟩
abbrev N_normal_runs : List Str := ["cycle", "rows", "found", "first", "last", "follows", "row"]
theorem sc_normal_runs : FnScope N_normal_runs ["cycle", "rows"] (defScope s_normal_runs) := ⟨rfl, rfl, rfl, by decide +kernel, rfl, by decide +kernel, by decide +kernel⟩
abbrev N_require_passage : List Str := ["value"]
theorem sc_require_passage : FnScope N_require_passage ["value"] (defScope s_require_passage) := ⟨rfl, rfl, rfl, by decide +kernel, rfl, by decide +kernel, by decide +kernel⟩
abbrev N_platoons : List Str := ["passage", "found", "ahead", "first", "last", "arrival", "by"]
theorem sc_platoons : FnScope N_platoons ["passage"] (defScope s_platoons) := ⟨rfl, rfl, rfl, by decide +kernel, rfl, by decide +kernel, by decide +kernel⟩
abbrev N_gaps : List Str := ["passage", "found", "cycle", "last", "ahead", "row", "by"]
theorem sc_gaps : FnScope N_gaps ["passage"] (defScope s_gaps) := ⟨rfl, rfl, rfl, by decide +kernel, rfl, by decide +kernel, by decide +kernel⟩
abbrev N_l_spring : List Str := ["_law_script", "_law_k", "_law_cell"]
theorem sc_l_spring : FnScope N_l_spring ["_law_script", "_law_k"] (defScope s_l_spring) := ⟨rfl, rfl, rfl, by decide +kernel, rfl, by decide +kernel, by decide +kernel⟩
abbrev N_l_take : List Str := ["_law_spring_here", "_law_many", "_law_found", "_law_mixed"]
theorem sc_l_take : FnScope N_l_take ["_law_spring_here", "_law_many"] (defScope s_l_take) := ⟨rfl, rfl, rfl, by decide +kernel, rfl, by decide +kernel, by decide +kernel⟩
abbrev N_l_cycle : List Str := ["_law_spring_here", "_law_some"]
theorem sc_l_cycle : FnScope N_l_cycle ["_law_spring_here"] (defScope s_l_cycle) := ⟨rfl, rfl, rfl, by decide +kernel, rfl, by decide +kernel, by decide +kernel⟩
abbrev N_l_shares : List Str := ["_law_spring_here", "_law_total", "_law_many", "_law_found", "_law_turn", "_law_spot"]
theorem sc_l_shares : FnScope N_l_shares ["_law_spring_here", "_law_total", "_law_many"] (defScope s_l_shares) := ⟨rfl, rfl, rfl, by decide +kernel, rfl, by decide +kernel, by decide +kernel⟩
abbrev N_l_rows : List Str := ["_law_spring_here", "_law_cycle_here", "_law_many", "_law_begin", "_law_arrival", "_law_sizes", "_law_left", "_law_turn", "_law_room", "_law_starts_here", "_law_arrivals", "_law_found", "_law_spot", "_law_size_here"]
theorem sc_l_rows : FnScope N_l_rows ["_law_spring_here", "_law_cycle_here", "_law_many", "_law_begin", "_law_arrival"] (defScope s_l_rows) := ⟨rfl, rfl, rfl, by decide +kernel, rfl, by decide +kernel, by decide +kernel⟩
abbrev N_l_drawn : List Str := ["_law_spring_here", "_law_cycle_here", "_law_many", "_law_far", "_law_begin", "_law_arrival"]
theorem sc_l_drawn : FnScope N_l_drawn ["_law_spring_here", "_law_cycle_here", "_law_many"] (defScope s_l_drawn) := ⟨rfl, rfl, rfl, by decide +kernel, rfl, by decide +kernel, by decide +kernel⟩
abbrev N_l_to : List Str := ["_law_cycle_here", "_law_rows_here", "_law_start", "_law_turns", "_law_by", "_law_first", "_law_last", "_law_arrival"]
theorem sc_l_to : FnScope N_l_to ["_law_cycle_here", "_law_rows_here", "_law_start"] (defScope s_l_to) := ⟨rfl, rfl, rfl, by decide +kernel, rfl, by decide +kernel, by decide +kernel⟩
abbrev N_l_same : List Str := ["_law_actual", "_law_expected"]
theorem sc_l_same : FnScope N_l_same ["_law_actual", "_law_expected"] (defScope s_l_same) := ⟨rfl, rfl, rfl, by decide +kernel, rfl, by decide +kernel, by decide +kernel⟩
abbrev N_l_of : List Str := ["_law_table", "_law_start", "_law_size_here"]
theorem sc_l_of : FnScope N_l_of ["_law_table", "_law_start"] (defScope s_l_of) := ⟨rfl, rfl, rfl, by decide +kernel, rfl, by decide +kernel, by decide +kernel⟩
abbrev N_l_table_due : List Str := ["_law_table", "_law_found", "_law_empty", "_law_size_here", "_law_start", "_law_last", "_law_low", "_law_by"]
theorem sc_l_table_due : FnScope N_l_table_due ["_law_table"] (defScope s_l_table_due) := ⟨rfl, rfl, rfl, by decide +kernel, rfl, by decide +kernel, by decide +kernel⟩
abbrev N_l_rows_due : List Str := ["_law_cycle_here", "_law_rows_here", "_law_found", "_law_empty", "_law_ahead", "_law_first", "_law_last", "_law_arrival", "_law_by"]
theorem sc_l_rows_due : FnScope N_l_rows_due ["_law_cycle_here", "_law_rows_here"] (defScope s_l_rows_due) := ⟨rfl, rfl, rfl, by decide +kernel, rfl, by decide +kernel, by decide +kernel⟩
abbrev N_l_right : List Str := ["_law_spring_here", "_law_cycle_here", "_law_many", "_law_rows_here", "_law_one", "_law_due", "_law_told", "_law_start"]
theorem sc_l_right : FnScope N_l_right ["_law_spring_here", "_law_cycle_here", "_law_many"] (defScope s_l_right) := ⟨rfl, rfl, rfl, by decide +kernel, rfl, by decide +kernel, by decide +kernel⟩
abbrev N_law : List Str := ["_law_script", "_law_k", "_law_spring_here", "_law_turn", "_law_one"]
theorem sc_law : FnScope N_law ["_law_script"] (defScope s_law) := ⟨rfl, rfl, rfl, by decide +kernel, rfl, by decide +kernel, by decide +kernel⟩
abbrev N_Passage_init : List Str := ["self", "cycle", "runs"]
theorem sc_Passage_init : FnScope N_Passage_init ["self", "cycle", "runs"] (defScope s_Passage_init) := ⟨rfl, rfl, rfl, by decide +kernel, rfl, by decide +kernel, by decide +kernel⟩
variable {P : Program} {w : World} {K : PySem.W.Frag} {mg : Str → Option Value} {base : Heap}
theorem ok_is_int (T : DefT K mg "is_int" s_is_int ["value"]) (B : Bt mg)  : Got P w K mg base "is_int" 1 ["value"] sp_is_int :=
  Got.mk T sc_is_int (len_is_int) (t_is_int) (fun f cdv A outer s H hr hg => ⟨_,
      (qss_one (qs_ret (q_and (q_callB call_isi (c_isi "int" (by decide +kernel)) B.isinstance_ PyProof.Rows.boot_isinstance (qa_cons (qv 0) (qa_cons (q_bty B.int_ PyProof.Rows.boot_int) qa_nil))) (q_one (q_not (q_callB call_isi (c_isi "bool" (by decide +kernel)) B.isinstance_ PyProof.Rows.boot_isinstance (qa_cons (qv 0) (qa_cons (q_bty B.bool_ PyProof.Rows.boot_bool) qa_nil))))))))⟩) (rd_is_int)
theorem ok_is_row (T : DefT K mg "is_row" s_is_row ["value"]) (B : Bt mg) (G_is_int : Got P w K mg base "is_int" 1 ["value"] sp_is_int) : Got P w K mg base "is_row" 2 ["value"] sp_is_row :=
  Got.mk T sc_is_row (len_is_row) (t_is_row) (fun f cdv A outer s H hr hg => ⟨_,
      (qss_cons (qs_if (QW.t (q_orT (q_notT (q_val (q_callB call_isi (c_isi "tuple" (by decide +kernel)) B.isinstance_ PyProof.Rows.boot_isinstance (qa_cons (qv 0) (qa_cons (q_bty B.tuple_ PyProof.Rows.boot_tuple) qa_nil))))) (q_orT (q_cmpT (op_neU hr.units) o_neU (q_callB call_lenU c_len B.len_ PySem.boot_len (qa_cons (qv 0) qa_nil)) q_int (nomark _)) (q_or1 (q_notT (q_val (q_callB (cr_all rfl) c_all B.all_ (by decide +kernel) (qa_cons (q_lcH (own := [("number", 1)]) fin_d sc_is_row.nd (qi_seq (qv 0)) (blkOk_by (own := [("number", 1)]) (N := N_is_row) (sc := defScope s_is_row) (by decide +kernel)) s (qg_name 1 sc_is_row.nd) qts_nil (qc G_is_int (hr.mono (by decide)) hg (qa_cons (qv 1) qa_nil)) (fun _ _ _ _ _ => (qg_name 1 sc_is_row.nd)) (fun _ _ _ _ _ => qts_nil) (fun _ _ _ _ _ => (qc G_is_int (hr.mono (by decide)) hg (qa_cons (qv 1) qa_nil))) (by decide)) qa_nil)))))))) (qss_one (qs_ret q_bl)) qss_nil)
      (qss_one (qs_ret (q_cmp op_le o_cmp (q_ix ix_seq o_ix (qv 0) q_int (fun _ _ => rfl)) (q_ix ix_seq o_ix (qv 0) q_int (fun _ _ => rfl)) (nomark _)))))⟩) (rd_is_row)
theorem ok_are_runs (T : DefT K mg "are_runs" s_are_runs ["cycle", "value"]) (B : Bt mg) (G_is_row : Got P w K mg base "is_row" 2 ["value"] sp_is_row) : Got P w K mg base "are_runs" 3 ["cycle", "value"] sp_are_runs :=
  Got.mk T sc_are_runs (len_are_runs) (t_are_runs) (fun f cdv A outer s H hr hg => ⟨_,
      (qss_cons (qs_if (QW.t (q_orT (q_notT (q_val (q_callB call_isi (c_isi "tuple" (by decide +kernel)) B.isinstance_ PyProof.Rows.boot_isinstance (qa_cons (qv 1) (qa_cons (q_bty B.tuple_ PyProof.Rows.boot_tuple) qa_nil))))) (q_orT (q_cmpT (op_eqU hr.units) o_eqU (qv 1) (q_tup qa_nil) (nomark _)) (q_or1 (q_notT (q_val (q_callB (cr_all rfl) c_all B.all_ (by decide +kernel) (qa_cons (q_lcH (own := [("row", 5)]) fin_d sc_are_runs.nd (qi_seq (qv 1)) (blkOk_by (own := [("row", 5)]) (N := N_are_runs) (sc := defScope s_are_runs) (by decide +kernel)) s (qg_name 5 sc_are_runs.nd) qts_nil (qc G_is_row (hr.mono (by decide)) hg (qa_cons (qv 5) qa_nil)) (fun _ _ _ _ _ => (qg_name 5 sc_are_runs.nd)) (fun _ _ _ _ _ => qts_nil) (fun _ _ _ _ _ => (qc G_is_row (hr.mono (by decide)) hg (qa_cons (qv 5) qa_nil))) (by decide)) qa_nil)))))))) (qss_one (qs_ret q_bl)) qss_nil)
      (qss_cons (qs_set 2 sc_are_runs.nd (q_tup (qa_cons (q_op op_addU o_add (q_ix ix_seq o_ix (q_ix ix_seq o_ix (qv 1) q_int (fun _ _ => rfl)) q_int (fun _ _ => rfl)) (qv 0)) (qa_cons (q_op op_addU o_add (q_ix ix_seq o_ix (q_ix ix_seq o_ix (qv 1) q_int (fun _ _ => rfl)) q_int (fun _ _ => rfl)) (qv 0)) (qa_cons (q_op op_addU o_add (q_ix ix_seq o_ix (q_ix ix_seq o_ix (qv 1) q_int (fun _ _ => rfl)) q_int (fun _ _ => rfl)) (qv 0)) qa_nil)))))
      (qss_cons (qs_for PassesOwn.never (qi_zip B.zip_ (qv 1) (q_op op_addU o_add (q_slice (qv 1) (qo_some q_int) qo_none) (q_tup (qa_cons (qv 2) qa_nil)))) (qg_tup (qgs_cons (qg_name 3 sc_are_runs.nd) (qgs_cons (qg_name 4 sc_are_runs.nd) qgs_nil))) (qss_one (qs_if (QW.t (q_orT (q_cmpT op_le o_cmp (q_ix ix_seq o_ix (qv 4) q_int (fun _ _ => rfl)) (q_ix ix_seq o_ix (qv 3) q_int (fun _ _ => rfl)) (nomark _)) (q_or1 (q_cmpT op_le o_cmp (q_ix ix_seq o_ix (qv 4) q_int (fun _ _ => rfl)) (q_op op_sub o_sub (q_op op_addU o_add (q_ix ix_seq o_ix (qv 3) q_int (fun _ _ => rfl)) (q_ix ix_seq o_ix (qv 3) q_int (fun _ _ => rfl))) (q_ix ix_seq o_ix (qv 3) q_int (fun _ _ => rfl))) (nomark _))))) (qss_one (qs_ret q_bl)) qss_nil)))
      (qss_one (qs_ret q_bl)))))⟩) (rd_are_runs)
theorem ok_joined_rows (T : DefT K mg "joined_rows" s_joined_rows ["rows"]) (B : Bt mg)  : Got P w K mg base "joined_rows" 1 ["rows"] sp_joined_rows :=
  Got.mk T sc_joined_rows (len_joined_rows) (t_joined_rows) (fun f cdv A outer s H hr hg => ⟨_,
      (qss_cons (qs_set 1 sc_joined_rows.nd (q_lstC qa_nil))
      (qss_cons (qs_for PassesOwn.never (qi_seq (qv 0)) (qg_name 2 sc_joined_rows.nd) (qss_one (qs_if (QW.t (q_andT (q_cmpT (op_neU hr.units) o_neU (qv 1) (q_lst qa_nil) (nomark _)) (q_andT (q_cmpT (op_eqU hr.units) o_eqU (q_ix ix_seq o_ix (qv 2) q_int (fun _ _ => rfl)) (q_op op_addU o_add (q_ix ix_seq o_ix (q_ix ix_seq o_ix (qv 1) (q_un un_neg o_neg q_int) (fun _ _ => rfl)) q_int (fun _ _ => rfl)) q_int) (nomark _)) (q_and1 (q_cmpT (op_eqU hr.units) o_eqU (q_ix ix_seq o_ix (qv 2) q_int (fun _ _ => rfl)) (q_op op_sub o_sub (q_op op_addU o_add (q_ix ix_seq o_ix (q_ix ix_seq o_ix (qv 1) (q_un un_neg o_neg q_int) (fun _ _ => rfl)) q_int (fun _ _ => rfl)) (q_ix ix_seq o_ix (qv 2) q_int (fun _ _ => rfl))) (q_ix ix_seq o_ix (q_ix ix_seq o_ix (qv 1) (q_un un_neg o_neg q_int) (fun _ _ => rfl)) q_int (fun _ _ => rfl))) (nomark _)))))) (qss_one (qs_asg (q_tup (qa_cons (q_ix ix_seq o_ix (q_ix ix_seq o_ix (qv 1) (q_un un_neg o_neg q_int) (fun _ _ => rfl)) q_int (fun _ _ => rfl)) (qa_cons (q_ix ix_seq o_ix (qv 2) q_int (fun _ _ => rfl)) (qa_cons (q_ix ix_seq o_ix (q_ix ix_seq o_ix (qv 1) (q_un un_neg o_neg q_int) (fun _ _ => rfl)) q_int (fun _ _ => rfl)) qa_nil)))) (qg_set (qv 1) (q_un un_neg o_neg q_int)))) (qss_one (qs_expr (q_append (qv 1) (qv 2)))))))
      (qss_one (qs_ret (qv 1)))))⟩) (rd_joined_rows)
theorem ok_moved_row (T : DefT K mg "moved_row" s_moved_row ["row", "by"]) (B : Bt mg)  : Got P w K mg base "moved_row" 1 ["row", "by"] sp_moved_row :=
  Got.mk T sc_moved_row (len_moved_row) (t_moved_row) (fun f cdv A outer s H hr hg => ⟨_,
      (qss_one (qs_ret (q_tup (qa_cons (q_op op_addU o_add (q_ix ix_seq o_ix (qv 0) q_int (fun _ _ => rfl)) (qv 1)) (qa_cons (q_op op_addU o_add (q_ix ix_seq o_ix (qv 0) q_int (fun _ _ => rfl)) (qv 1)) (qa_cons (q_op op_addU o_add (q_ix ix_seq o_ix (qv 0) q_int (fun _ _ => rfl)) (qv 1)) qa_nil))))))⟩) (rd_moved_row)
theorem ok_normal_runs (T : DefT K mg "normal_runs" s_normal_runs ["cycle", "rows"]) (B : Bt mg) (G_joined_rows : Got P w K mg base "joined_rows" 1 ["rows"] sp_joined_rows) (G_moved_row : Got P w K mg base "moved_row" 1 ["row", "by"] sp_moved_row) : Got P w K mg base "normal_runs" 2 ["cycle", "rows"] sp_normal_runs :=
  Got.mk T sc_normal_runs (len_normal_runs) (t_normal_runs) (fun f cdv A outer s H hr hg => ⟨_,
      (qss_cons (qs_set 2 sc_normal_runs.nd (qc G_joined_rows (hr.mono (by decide)) hg (qa_cons (qv 1) qa_nil)))
      (qss_cons (qs_set 3 sc_normal_runs.nd (q_ix ix_seq o_ix (qv 2) q_int (fun _ _ => rfl)))
      (qss_cons (qs_set 4 sc_normal_runs.nd (q_ix ix_seq o_ix (qv 2) (q_un un_neg o_neg q_int) (fun _ _ => rfl)))
      (qss_cons (qs_set 5 sc_normal_runs.nd (q_and (q_cmp (op_eqU hr.units) o_eqU (q_op op_addU o_add (q_ix ix_seq o_ix (qv 3) q_int (fun _ _ => rfl)) (qv 0)) (q_op op_addU o_add (q_ix ix_seq o_ix (qv 4) q_int (fun _ _ => rfl)) q_int) (nomark _)) (q_one (q_cmp (op_eqU hr.units) o_eqU (q_op op_addU o_add (q_ix ix_seq o_ix (qv 3) q_int (fun _ _ => rfl)) (qv 0)) (q_op op_sub o_sub (q_op op_addU o_add (q_op op_addU o_add (q_ix ix_seq o_ix (qv 4) q_int (fun _ _ => rfl)) (q_ix ix_seq o_ix (qv 4) q_int (fun _ _ => rfl))) q_int) (q_ix ix_seq o_ix (qv 4) q_int (fun _ _ => rfl))) (nomark _)))))
      (qss_cons (qs_if (QW.t (q_andT (q_val (qv 5)) (q_and1 (q_cmpT (op_eqU hr.units) o_eqU (q_callB call_lenU c_len B.len_ PySem.boot_len (qa_cons (qv 2) qa_nil)) q_int (nomark _))))) (qss_one (qs_ret (q_tup (qa_cons (q_tup (qa_cons q_int (qa_cons (q_op op_sub o_sub (qv 0) q_int) (qa_cons (q_op op_sub o_sub (q_ix ix_seq o_ix (qv 3) q_int (fun _ _ => rfl)) (q_ix ix_seq o_ix (qv 3) q_int (fun _ _ => rfl))) qa_nil)))) qa_nil)))) qss_nil)
      (qss_cons (qs_if (q_val (qv 5)) (qss_one (qs_set 2 sc_normal_runs.nd (q_op op_addU o_add (q_lst (qa_cons (q_tup (qa_cons (q_op op_sub o_sub (q_ix ix_seq o_ix (qv 4) q_int (fun _ _ => rfl)) (qv 0)) (qa_cons (q_ix ix_seq o_ix (qv 3) q_int (fun _ _ => rfl)) (qa_cons (q_op op_sub o_sub (q_ix ix_seq o_ix (qv 4) q_int (fun _ _ => rfl)) (qv 0)) qa_nil)))) qa_nil)) (q_slice (qv 2) (qo_some q_int) (qo_some (q_un un_neg o_neg q_int)))))) qss_nil)
      (qss_one (qs_ret (q_callTy call_tuple_of c_tupOf B.tuple_ (by decide +kernel) (qa_cons (q_callB cr_sortedR c_sortedR B.sorted_ (by decide +kernel) (qa_cons (q_lcH (own := [("row", 6)]) fin_d sc_normal_runs.nd (qi_seq (qv 2)) (blkOk_by (own := [("row", 6)]) (N := N_normal_runs) (sc := defScope s_normal_runs) (by decide +kernel)) s (qg_name 6 sc_normal_runs.nd) qts_nil (qc G_moved_row (hr.mono (by decide)) hg (qa_cons (qv 6) (qa_cons (q_op op_sub o_sub q_int (q_op op_mulU o_mul (q_op op_fdivW o_fdiv (q_ix ix_seq o_ix (qv 6) q_int (fun _ _ => rfl)) (qv 0)) (qv 0))) qa_nil))) (fun _ _ _ _ _ => (qg_name 6 sc_normal_runs.nd)) (fun _ _ _ _ _ => qts_nil) (fun _ _ _ _ _ => (qc G_moved_row (hr.mono (by decide)) hg (qa_cons (qv 6) (qa_cons (q_op op_sub o_sub q_int (q_op op_mulU o_mul (q_op op_fdivW o_fdiv (q_ix ix_seq o_ix (qv 6) q_int (fun _ _ => rfl)) (qv 0)) (qv 0))) qa_nil)))) (by decide)) qa_nil)) qa_nil))))))))))⟩) (rd_normal_runs)
theorem ok_in_range (T : DefT K mg "in_range" s_in_range ["value", "low", "high"]) (B : Bt mg) (G_is_int : Got P w K mg base "is_int" 1 ["value"] sp_is_int) : Got P w K mg base "in_range" 2 ["value", "low", "high"] sp_in_range :=
  Got.mk T sc_in_range (len_in_range) (t_in_range) (fun f cdv A outer s H hr hg => ⟨_,
      (qss_one (qs_ret (q_and (qc G_is_int (hr.mono (by decide)) hg (qa_cons (qv 0) qa_nil)) (q_one (q_chain op_le op_le o_cmp o_cmp (qv 1) (qv 0) (qv 2))))))⟩) (rd_in_range)
theorem ok_require_cycle (T : DefT K mg "require_cycle" s_require_cycle ["value"]) (B : Bt mg) (c_MOST_CYCLE : ∃ t, mg "MOST_CYCLE" = some (.int 1000000000000000000000000000000 t)) (G_in_range : Got P w K mg base "in_range" 2 ["value", "low", "high"] sp_in_range) : Got P w K mg base "require_cycle" 3 ["value"] sp_require_cycle :=
  Got.mk T sc_require_cycle (len_require_cycle) (t_require_cycle) (fun f cdv A outer s H hr hg => ⟨_,
      (qss_one (qs_if (q_notT (q_val (qc G_in_range (hr.mono (by decide)) hg (qa_cons (qv 0) (qa_cons q_int (qa_cons (q_gint c_MOST_CYCLE) qa_nil)))))) (qss_one qs_never) qss_nil))⟩) (rd_require_cycle)
theorem ok_Passage_init {cA : Str → Addr} (T : InitT K mg (cA "Passage") "Passage" "Passage.__init__" s_Passage_init ["self", "cycle", "runs"]) (B : Bt mg) (BC : Bc K mg cA) (G_are_runs : Got P w K mg base "are_runs" 3 ["cycle", "value"] sp_are_runs) (G_normal_runs : Got P w K mg base "normal_runs" 2 ["cycle", "rows"] sp_normal_runs) (G_require_cycle : Got P w K mg base "require_cycle" 3 ["value"] sp_require_cycle) : GotI P w K mg base (cA "Passage") "Passage" 4 ["self", "cycle", "runs"] (sp_Passage_init cA) :=
  GotI.mk T sc_Passage_init (len_Passage_init cA) (t_Passage_init cA) (fun f cdv A outer s H hr hg => ⟨_,
      (qss_cons (qs_expr (qc G_require_cycle (hr.mono (by decide)) hg (qa_cons (qv 1) qa_nil)))
      (qss_cons (qs_if (q_notT (q_val (qc G_are_runs (hr.mono (by decide)) hg (qa_cons (qv 1) (qa_cons (qv 2) qa_nil))))) (qss_one qs_never) qss_nil)
      (qss_cons (qs_setF (BC.kc_Passage).cl BC.na_Passage_own_cycle (qv 0) (qv 1))
      (qss_one (qs_setF (BC.kc_Passage).cl BC.na_Passage_own_runs (qv 0) (qc G_normal_runs (hr.mono (by decide)) hg (qa_cons (qv 1) (qa_cons (q_callTy call_list_of c_lstOf B.list_ (by decide +kernel) (qa_cons (qv 2) qa_nil)) qa_nil))))))))⟩) (rd_Passage_init cA)
theorem ok_l_take (T : DefT K mg "_law_take" s_l_take ["_law_spring_here", "_law_many"]) (B : Bt mg)  : Got P w K mg base "_law_take" 1 ["_law_spring_here", "_law_many"] sp_l_take :=
  Got.mk T sc_l_take (len_l_take) (t_l_take) (fun f cdv A outer s H hr hg => ⟨_,
      (qss_cons (qs_if (q_cmpT op_gt o_cmp (q_ix ix_seq o_ix (qv 0) q_int (fun _ _ => rfl)) q_int (nomark _)) (qss_cons (qs_set 2 sc_l_take.nd (q_op op_mod o_mod (q_ix ix_seq o_ix (qv 0) q_int (fun _ _ => rfl)) (qv 1)))
      (qss_cons (qs_asg (q_op op_fdivW o_fdiv (q_ix ix_seq o_ix (qv 0) q_int (fun _ _ => rfl)) (qv 1)) (qg_set (qv 0) q_int))
      (qss_one (qs_ret (qv 2))))) qss_nil)
      (qss_cons (qs_asg (q_op op_addU o_add (q_ix ix_seq o_ix (qv 0) q_int (fun _ _ => rfl)) q_int) (qg_set (qv 0) q_int))
      (qss_cons (qs_set 3 sc_l_take.nd (q_op op_mod o_mod (q_op op_powW o_pow (q_op op_addU o_add (q_ix ix_seq o_ix (qv 0) q_int (fun _ _ => rfl)) (q_op op_mulU o_mul q_int (q_ix ix_seq o_ix (qv 0) q_int (fun _ _ => rfl)))) q_int) (q_op op_addU o_add (q_op op_powW o_pow q_int q_int) q_int)))
      (qss_cons (qs_set 3 sc_l_take.nd (q_op op_mod o_mod (q_op op_powW o_pow (q_op op_addU o_add (qv 3) (q_op op_mulU o_mul q_int (q_ix ix_seq o_ix (qv 0) q_int (fun _ _ => rfl)))) q_int) (q_op op_addU o_add (q_op op_powW o_pow q_int q_int) q_int)))
      (qss_one (qs_ret (q_op op_mod o_mod (q_op op_fdivW o_fdiv (qv 3) q_int) (qv 1))))))))⟩) (rd_l_take)
theorem ok_l_cycle (T : DefT K mg "_law_cycle" s_l_cycle ["_law_spring_here"]) (B : Bt mg) (G_l_take : Got P w K mg base "_law_take" 1 ["_law_spring_here", "_law_many"] sp_l_take) : Got P w K mg base "_law_cycle" 2 ["_law_spring_here"] sp_l_cycle :=
  Got.mk T sc_l_cycle (len_l_cycle) (t_l_cycle) (fun f cdv A outer s H hr hg => ⟨_,
      (qss_cons (qs_set 1 sc_l_cycle.nd (q_lstC (qa_cons (q_op op_addU o_add q_int (qc G_l_take (hr.mono (by decide)) hg (qa_cons (qv 0) (qa_cons q_int qa_nil)))) (qa_cons (q_op op_addU o_add q_int (qc G_l_take (hr.mono (by decide)) hg (qa_cons (qv 0) (qa_cons q_int qa_nil)))) (qa_cons (q_op op_addU o_add q_int (qc G_l_take (hr.mono (by decide)) hg (qa_cons (qv 0) (qa_cons (q_op op_powW o_pow q_int q_int) qa_nil)))) (qa_cons (q_op op_powW o_pow q_int q_int) qa_nil))))))
      (qss_cons (qs_expr (q_append (qv 1) (q_op op_sub o_sub (q_op op_powW o_pow q_int q_int) (qc G_l_take (hr.mono (by decide)) hg (qa_cons (qv 0) (qa_cons (q_op op_sub o_sub (q_op op_powW o_pow q_int q_int) (q_op op_powW o_pow q_int q_int)) qa_nil))))))
      (qss_frz 1 (qss_one (qs_ret (q_ix ix_seq o_ix (qv 1) (qc G_l_take (hr.mono (by decide)) hg (qa_cons (qv 0) (qa_cons q_int qa_nil))) (fun _ _ => rfl)))))))⟩) (rd_l_cycle)
theorem ok_l_shares (T : DefT K mg "_law_shares" s_l_shares ["_law_spring_here", "_law_total", "_law_many"]) (B : Bt mg) (G_l_take : Got P w K mg base "_law_take" 1 ["_law_spring_here", "_law_many"] sp_l_take) : Got P w K mg base "_law_shares" 2 ["_law_spring_here", "_law_total", "_law_many"] sp_l_shares :=
  Got.mk T sc_l_shares (len_l_shares) (t_l_shares) (fun f cdv A outer s H hr hg => ⟨_,
      (qss_cons (qs_set 3 sc_l_shares.nd (q_lstC qa_nil))
      (qss_cons (qs_for PassesOwn.never (qi_range1 B.range_ (q_op op_sub o_sub (qv 2) q_int)) (qg_name 4 sc_l_shares.nd) (qss_cons (qs_expr (q_append (qv 3) (qc G_l_take (hr.mono (by decide)) hg (qa_cons (qv 0) (qa_cons (q_ix ix_seq o_ix (q_lst (qa_cons (q_op op_addU o_add (qv 1) q_int) (qa_cons (q_op op_addU o_add (q_callB call_minU c_min B.min_ (by decide +kernel) (qa_cons (qv 1) (qa_cons q_int qa_nil))) q_int) qa_nil))) (qc G_l_take (hr.mono (by decide)) hg (qa_cons (qv 0) (qa_cons q_int qa_nil))) (fun _ _ => rfl)) qa_nil)))))
      (qss_one (qs_set 1 sc_l_shares.nd (q_op op_sub o_sub (qv 1) (q_ix ix_seq o_ix (qv 3) (q_un un_neg o_neg q_int) (fun _ _ => rfl)))))))
      (qss_cons (qs_expr (q_append (qv 3) (qv 1)))
      (qss_frz 3 (qss_cons (qs_set 5 sc_l_shares.nd (qc G_l_take (hr.mono (by decide)) hg (qa_cons (qv 0) (qa_cons (qv 2) qa_nil))))
      (qss_one (qs_ret (q_op op_addU o_add (q_slice (qv 3) (qo_some (qv 5)) qo_none) (q_slice (qv 3) qo_none (qo_some (qv 5)))))))))))⟩) (rd_l_shares)
theorem ok_l_rows (T : DefT K mg "_law_rows" s_l_rows ["_law_spring_here", "_law_cycle_here", "_law_many", "_law_begin", "_law_arrival"]) (B : Bt mg) (G_l_shares : Got P w K mg base "_law_shares" 2 ["_law_spring_here", "_law_total", "_law_many"] sp_l_shares) (G_l_take : Got P w K mg base "_law_take" 1 ["_law_spring_here", "_law_many"] sp_l_take) : Got P w K mg base "_law_rows" 3 ["_law_spring_here", "_law_cycle_here", "_law_many", "_law_begin", "_law_arrival"] sp_l_rows :=
  Got.mk T sc_l_rows (len_l_rows) (t_l_rows) (fun f cdv A outer s H hr hg => ⟨_,
      (qss_cons (qs_par3 5 6 2 sc_l_rows.nd (qa_cons (q_lstC qa_nil) (qa_cons (qv 1) (qa_cons (q_callB call_minU c_min B.min_ (by decide +kernel) (qa_cons (qv 2) (qa_cons (qv 1) qa_nil))) qa_nil))))
      (qss_cons (qs_for PassesOwn.never (qi_range1 B.range_ (qv 2)) (qg_name 7 sc_l_rows.nd) (qss_cons (qs_set 8 sc_l_rows.nd (q_op op_sub o_sub (qv 6) (q_op op_sub o_sub (q_op op_sub o_sub (qv 2) (qv 7)) q_int)))
      (qss_cons (qs_expr (q_append (qv 5) (q_op op_addU o_add q_int (qc G_l_take (hr.mono (by decide)) hg (qa_cons (qv 0) (qa_cons (q_ix ix_seq o_ix (q_lst (qa_cons q_int (qa_cons (q_callB call_minU c_min B.min_ (by decide +kernel) (qa_cons (qv 8) (qa_cons q_int qa_nil))) (qa_cons (qv 8) qa_nil)))) (qc G_l_take (hr.mono (by decide)) hg (qa_cons (qv 0) (qa_cons q_int qa_nil))) (fun _ _ => rfl)) qa_nil))))))
      (qss_one (qs_set 6 sc_l_rows.nd (q_op op_sub o_sub (qv 6) (q_ix ix_seq o_ix (qv 5) (q_un un_neg o_neg q_int) (fun _ _ => rfl))))))))
      (qss_frz 5 (qss_cons (qs_par3 9 10 11 sc_l_rows.nd (qa_cons (qc G_l_shares (hr.mono (by decide)) hg (qa_cons (qv 0) (qa_cons (qv 6) (qa_cons (qv 2) qa_nil)))) (qa_cons (qc G_l_shares (hr.mono (by decide)) hg (qa_cons (qv 0) (qa_cons (qv 6) (qa_cons (qv 2) qa_nil)))) (qa_cons (q_lstC qa_nil) qa_nil))))
      (qss_cons (qs_for PassesOwn.never (qi_enumU B.enumerate_ (qv 5)) (qg_tup (qgs_cons (qg_name 12 sc_l_rows.nd) (qgs_cons (qg_name 13 sc_l_rows.nd) qgs_nil))) (qss_cons (qs_par 3 4 sc_l_rows.nd (qa_cons (q_op op_addU o_add (qv 3) (q_ix ix_seq o_ix (qv 9) (qv 12) (fun _ _ => rfl))) (qa_cons (q_op op_addU o_add (qv 4) (q_ix ix_seq o_ix (qv 10) (qv 12) (fun _ _ => rfl))) qa_nil)))
      (qss_cons (qs_expr (q_append (qv 11) (q_tup (qa_cons (qv 3) (qa_cons (q_op op_sub o_sub (q_op op_addU o_add (qv 3) (qv 13)) q_int) (qa_cons (qv 4) qa_nil))))))
      (qss_one (qs_par 3 4 sc_l_rows.nd (qa_cons (q_op op_addU o_add (qv 3) (qv 13)) (qa_cons (q_op op_addU o_add (qv 4) (qv 13)) qa_nil)))))))
      (qss_one (qs_ret (qv 11))))))))⟩) (rd_l_rows)
theorem ok_l_drawn (T : DefT K mg "_law_drawn" s_l_drawn ["_law_spring_here", "_law_cycle_here", "_law_many"]) (B : Bt mg) (G_l_rows : Got P w K mg base "_law_rows" 3 ["_law_spring_here", "_law_cycle_here", "_law_many", "_law_begin", "_law_arrival"] sp_l_rows) (G_l_take : Got P w K mg base "_law_take" 1 ["_law_spring_here", "_law_many"] sp_l_take) : Got P w K mg base "_law_drawn" 4 ["_law_spring_here", "_law_cycle_here", "_law_many"] sp_l_drawn :=
  Got.mk T sc_l_drawn (len_l_drawn) (t_l_drawn) (fun f cdv A outer s H hr hg => ⟨_,
      (qss_cons (qs_set 3 sc_l_drawn.nd (q_ix ix_seq o_ix (q_lst (qa_cons (q_op op_addU o_add (qv 1) q_int) (qa_cons (q_op op_powW o_pow q_int q_int) qa_nil))) (qc G_l_take (hr.mono (by decide)) hg (qa_cons (qv 0) (qa_cons q_int qa_nil))) (fun _ _ => rfl)))
      (qss_cons (qs_set 4 sc_l_drawn.nd (q_op op_sub o_sub (qc G_l_take (hr.mono (by decide)) hg (qa_cons (qv 0) (qa_cons (qv 3) qa_nil))) (q_op op_fdivW o_fdiv (qv 3) q_int)))
      (qss_cons (qs_set 5 sc_l_drawn.nd (q_ix ix_seq o_ix (q_lst (qa_cons (q_op op_addU o_add (qv 4) (qc G_l_take (hr.mono (by decide)) hg (qa_cons (qv 0) (qa_cons (q_op op_addU o_add (q_op op_mulU o_mul q_int (qv 1)) q_int) qa_nil)))) (qa_cons (q_op op_sub o_sub (qc G_l_take (hr.mono (by decide)) hg (qa_cons (qv 0) (qa_cons (qv 3) qa_nil))) (q_op op_fdivW o_fdiv (qv 3) q_int)) qa_nil))) (qc G_l_take (hr.mono (by decide)) hg (qa_cons (qv 0) (qa_cons q_int qa_nil))) (fun _ _ => rfl)))
      (qss_one (qs_ret (qc G_l_rows (hr.mono (by decide)) hg (qa_cons (qv 0) (qa_cons (qv 1) (qa_cons (q_op op_addU o_add q_int (qc G_l_take (hr.mono (by decide)) hg (qa_cons (qv 0) (qa_cons (qv 2) qa_nil)))) (qa_cons (qv 4) (qa_cons (qv 5) qa_nil)))))))))))⟩) (rd_l_drawn)
theorem ok_l_rows_due (T : DefT K mg "_law_rows_due" s_l_rows_due ["_law_cycle_here", "_law_rows_here"]) (B : Bt mg)  : Got P w K mg base "_law_rows_due" 1 ["_law_cycle_here", "_law_rows_here"] sp_l_rows_due :=
  Got.mk T sc_l_rows_due (len_l_rows_due) (t_l_rows_due) (fun f cdv A outer s H hr hg => ⟨_,
      (qss_cons (qs_par 2 3 sc_l_rows_due.nd (qa_cons (q_lstC qa_nil) (qa_cons (q_lstC qa_nil) qa_nil)))
      (qss_cons (qs_set 4 sc_l_rows_due.nd (q_tup (qa_cons (q_op op_sub o_sub (q_ix ix_seq o_ix (q_ix ix_seq o_ix (qv 1) (q_un un_neg o_neg q_int) (fun _ _ => rfl)) q_int (fun _ _ => rfl)) (qv 0)) (qa_cons (q_op op_sub o_sub (q_op op_sub o_sub (q_op op_addU o_add (q_ix ix_seq o_ix (q_ix ix_seq o_ix (qv 1) (q_un un_neg o_neg q_int) (fun _ _ => rfl)) q_int (fun _ _ => rfl)) (q_ix ix_seq o_ix (q_ix ix_seq o_ix (qv 1) (q_un un_neg o_neg q_int) (fun _ _ => rfl)) q_int (fun _ _ => rfl))) (q_ix ix_seq o_ix (q_ix ix_seq o_ix (qv 1) (q_un un_neg o_neg q_int) (fun _ _ => rfl)) q_int (fun _ _ => rfl))) (qv 0)) qa_nil))))
      (qss_cons (qs_for PassesOwn.never (qi_seq (qv 1)) (qg_tup (qgs_cons (qg_name 5 sc_l_rows_due.nd) (qgs_cons (qg_name 6 sc_l_rows_due.nd) (qgs_cons (qg_name 7 sc_l_rows_due.nd) qgs_nil)))) (qss_cons (qs_if (q_cmpT op_gt o_cmp (qv 5) (q_op op_addU o_add (q_ix ix_seq o_ix (qv 4) q_int (fun _ _ => rfl)) q_int) (nomark _)) (qss_cons (qs_set 8 sc_l_rows_due.nd (q_op op_mulU o_mul (q_op op_fdivW o_fdiv (q_op op_addU o_add (q_ix ix_seq o_ix (qv 4) q_int (fun _ _ => rfl)) q_int) (qv 0)) (qv 0)))
      (qss_one (qs_expr (q_append (qv 2) (q_tup (qa_cons (q_op op_sub o_sub (q_op op_addU o_add (q_ix ix_seq o_ix (qv 4) q_int (fun _ _ => rfl)) q_int) (qv 8)) (qa_cons (q_op op_sub o_sub (qv 5) (qv 8)) (qa_cons (q_op op_sub o_sub (qv 7) (qv 8)) qa_nil)))))))) qss_nil)
      (qss_cons (qs_if (q_cmpT op_gt o_cmp (qv 7) (q_op op_addU o_add (q_ix ix_seq o_ix (qv 4) q_int (fun _ _ => rfl)) q_int) (nomark _)) (qss_cons (qs_set 8 sc_l_rows_due.nd (q_op op_mulU o_mul (q_op op_fdivW o_fdiv (q_op op_addU o_add (q_ix ix_seq o_ix (qv 4) q_int (fun _ _ => rfl)) q_int) (qv 0)) (qv 0)))
      (qss_one (qs_expr (q_append (qv 3) (q_tup (qa_cons (q_op op_sub o_sub (q_op op_addU o_add (q_ix ix_seq o_ix (qv 4) q_int (fun _ _ => rfl)) q_int) (qv 8)) (qa_cons (q_op op_sub o_sub (q_op op_sub o_sub (qv 7) q_int) (qv 8)) qa_nil))))))) qss_nil)
      (qss_one (qs_set 4 sc_l_rows_due.nd (q_tup (qa_cons (qv 6) (qa_cons (q_op op_sub o_sub (q_op op_addU o_add (qv 7) (qv 6)) (qv 5)) qa_nil))))))))
      (qss_frz 3 (qss_frz 2 (qss_one (qs_ret (q_lst (qa_cons (q_callB cr_sortedR c_sortedR B.sorted_ (by decide +kernel) (qa_cons (qv 2) qa_nil)) (qa_cons (q_callB cr_sortedR c_sortedR B.sorted_ (by decide +kernel) (qa_cons (qv 3) qa_nil)) qa_nil))))))))))⟩) (rd_l_rows_due)
theorem ok_l_same (T : DefT K mg "_law_same" s_l_same ["_law_actual", "_law_expected"]) (B : Bt mg)  : Got P w K mg base "_law_same" 1 ["_law_actual", "_law_expected"] sp_l_same :=
  Got.mk T sc_l_same (len_l_same) (t_l_same) (fun f cdv A outer s H hr hg => ⟨_,
      (qss_one (qs_ret (q_cmp (op_eqU hr.units) o_eqU (q_reprA hg hr.units B.repr_ (by decide +kernel) (qv 0)) (q_reprA hg hr.units B.repr_ (by decide +kernel) (qv 1)) (nomark _))))⟩) (rd_l_same)
theorem ok_l_of (T : DefT K mg "_law_of" s_l_of ["_law_table", "_law_start"]) (B : Bt mg)  : Got P w K mg base "_law_of" 1 ["_law_table", "_law_start"] sp_l_of :=
  Got.mk T sc_l_of (len_l_of) (t_l_of) (fun f cdv A outer s H hr hg => ⟨_,
      (qss_cons (qs_set 2 sc_l_of.nd (q_callB call_lenU c_len B.len_ PySem.boot_len (qa_cons (qv 0) qa_nil)))
      (qss_one (qs_ret (q_op op_addU o_add (q_ix ix_seq o_ix (qv 0) (q_op op_mod o_mod (qv 1) (qv 2)) (fun _ _ => rfl)) (q_op op_mulU o_mul (q_op op_fdivW o_fdiv (qv 1) (qv 2)) (qv 2))))))⟩) (rd_l_of)
theorem ok_l_table_due (T : DefT K mg "_law_table_due" s_l_table_due ["_law_table"]) (B : Bt mg) (G_l_of : Got P w K mg base "_law_of" 1 ["_law_table", "_law_start"] sp_l_of) : Got P w K mg base "_law_table_due" 2 ["_law_table"] sp_l_table_due :=
  Got.mk T sc_l_table_due (len_l_table_due) (t_l_table_due) (fun f cdv A outer s H hr hg => ⟨_,
      (qss_cons (qs_par3 1 2 3 sc_l_table_due.nd (qa_cons (q_lstC qa_nil) (qa_cons (q_lstC qa_nil) (qa_cons (q_callB call_lenU c_len B.len_ PySem.boot_len (qa_cons (qv 0) qa_nil)) qa_nil))))
      (qss_cons (qs_for PassesOwn.never (qi_range1 B.range_ (qv 3)) (qg_name 4 sc_l_table_due.nd) (qss_cons (qs_if (q_chainT op_lt (op_eqU hr.units) o_cmp o_eqU (qc G_l_of (hr.mono (by decide)) hg (qa_cons (qv 0) (qa_cons (q_op op_sub o_sub (qv 4) q_int) qa_nil))) (q_ix ix_seq o_ix (qv 0) (qv 4) (fun _ _ => rfl)) (qc G_l_of (hr.mono (by decide)) hg (qa_cons (qv 0) (qa_cons (q_op op_addU o_add (qv 4) q_int) qa_nil)))) (qss_cons (qs_set 5 sc_l_table_due.nd (qv 4))
      (qss_cons (qs_while PassesOwn.never (q_cmpT (op_eqU hr.units) o_eqU (qc G_l_of (hr.mono (by decide)) hg (qa_cons (qv 0) (qa_cons (q_op op_addU o_add (qv 5) q_int) qa_nil))) (q_ix ix_seq o_ix (qv 0) (qv 4) (fun _ _ => rfl)) (nomark _)) (qss_one (qs_set 5 sc_l_table_due.nd (q_op op_addU o_add (qv 5) q_int))))
      (qss_one (qs_expr (q_append (qv 1) (q_tup (qa_cons (qv 4) (qa_cons (qv 5) (qa_cons (q_ix ix_seq o_ix (qv 0) (qv 4) (fun _ _ => rfl)) qa_nil))))))))) qss_nil)
      (qss_one (qs_if (q_cmpT op_gt o_cmp (q_op op_sub o_sub (q_ix ix_seq o_ix (qv 0) (qv 4) (fun _ _ => rfl)) (qc G_l_of (hr.mono (by decide)) hg (qa_cons (qv 0) (qa_cons (q_op op_sub o_sub (qv 4) q_int) qa_nil)))) q_int (nomark _)) (qss_cons (qs_set 6 sc_l_table_due.nd (q_op op_addU o_add (qc G_l_of (hr.mono (by decide)) hg (qa_cons (qv 0) (qa_cons (q_op op_sub o_sub (qv 4) q_int) qa_nil))) q_int))
      (qss_cons (qs_set 7 sc_l_table_due.nd (q_op op_mulU o_mul (q_op op_fdivW o_fdiv (qv 6) (qv 3)) (qv 3)))
      (qss_one (qs_expr (q_append (qv 2) (q_tup (qa_cons (q_op op_sub o_sub (qv 6) (qv 7)) (qa_cons (q_op op_sub o_sub (q_op op_sub o_sub (q_ix ix_seq o_ix (qv 0) (qv 4) (fun _ _ => rfl)) q_int) (qv 7)) qa_nil)))))))) qss_nil))))
      (qss_frz 2 (qss_frz 1 (qss_one (qs_ret (q_lst (qa_cons (q_callB cr_sortedR c_sortedR B.sorted_ (by decide +kernel) (qa_cons (qv 1) qa_nil)) (qa_cons (q_callB cr_sortedR c_sortedR B.sorted_ (by decide +kernel) (qa_cons (qv 2) qa_nil)) qa_nil)))))))))⟩) (rd_l_table_due)
theorem ok_l_to (T : DefT K mg "_law_to" s_l_to ["_law_cycle_here", "_law_rows_here", "_law_start"]) (B : Bt mg)  : Got P w K mg base "_law_to" 1 ["_law_cycle_here", "_law_rows_here", "_law_start"] sp_l_to :=
  Got.mk T sc_l_to (len_l_to) (t_l_to) (fun f cdv A outer s H hr hg => ⟨_,
      (qss_cons (qs_set 3 sc_l_to.nd (q_op op_fdivW o_fdiv (q_op op_sub o_sub (qv 2) (q_ix ix_seq o_ix (q_ix ix_seq o_ix (qv 1) q_int (fun _ _ => rfl)) q_int (fun _ _ => rfl))) (qv 0)))
      (qss_cons (qs_for PassesOwn.never (qi_seq (q_tup (qa_cons (q_op op_mulU o_mul (qv 3) (qv 0)) (qa_cons (q_op op_mulU o_mul (q_op op_addU o_add (qv 3) q_int) (qv 0)) qa_nil)))) (qg_name 4 sc_l_to.nd) (qss_one (qs_for PassesOwn.never (qi_seq (qv 1)) (qg_tup (qgs_cons (qg_name 5 sc_l_to.nd) (qgs_cons (qg_name 6 sc_l_to.nd) (qgs_cons (qg_name 7 sc_l_to.nd) qgs_nil)))) (qss_one (qs_if (q_cmpT op_ge o_cmp (q_op op_addU o_add (qv 6) (qv 4)) (qv 2) (nomark _)) (qss_one (qs_ret (q_op op_addU o_add (q_op op_addU o_add (qv 7) (qv 4)) (q_callB call_maxU c_max B.max_ (by decide +kernel) (qa_cons q_int (qa_cons (q_op op_sub o_sub (q_op op_sub o_sub (qv 2) (qv 5)) (qv 4)) qa_nil)))))) qss_nil)))))
      (qss_one (qs_ret q_non))))⟩) (rd_l_to)
theorem ok_require_passage {cA : Str → Addr} (T : DefT K mg "require_passage" s_require_passage ["value"]) (B : Bt mg) (BC : Bc K mg cA)  : Got P w K mg base "require_passage" 1 ["value"] (sp_require_passage cA) :=
  Got.mk T sc_require_passage (len_require_passage cA) (t_require_passage cA) (fun f cdv A outer s H hr hg => ⟨_,
      (qss_one (qs_if (q_notT (q_val (q_isiO (Cs := []) BC.kc_Passage BC.ot_Passage B.isinstance_ BC.mc_Passage (qv 0)))) (qss_one qs_never) qss_nil))⟩) (rd_require_passage cA)
theorem ok_gaps {cA : Str → Addr} (T : DefT K mg "gaps" s_gaps ["passage"]) (B : Bt mg) (BC : Bc K mg cA) (G_require_passage : Got P w K mg base "require_passage" 1 ["value"] (sp_require_passage cA)) : Got P w K mg base "gaps" 2 ["passage"] (sp_gaps cA) :=
  Got.mk T sc_gaps (len_gaps cA) (t_gaps cA) (fun f cdv A outer s H hr hg => ⟨_,
      (qss_cons (qs_expr (qc G_require_passage (hr.mono (by decide)) hg (qa_cons (qv 0) qa_nil)))
      (qss_cons (qs_set 1 sc_gaps.nd (q_lstC qa_nil))
      (qss_cons (qs_set 2 sc_gaps.nd (qm_fld BC.kc_Passage BC.na_Passage_own_cycle (qv 0)))
      (qss_cons (qs_set 3 sc_gaps.nd (q_ix ix_seq o_ix (qm_fld BC.kc_Passage BC.na_Passage_own_runs (qv 0)) (q_un un_neg o_neg q_int) (fun _ _ => rfl)))
      (qss_cons (qs_set 4 sc_gaps.nd (q_op op_sub o_sub (q_op op_sub o_sub (q_op op_addU o_add (q_ix ix_seq o_ix (qv 3) q_int (fun _ _ => rfl)) (q_ix ix_seq o_ix (qv 3) q_int (fun _ _ => rfl))) (q_ix ix_seq o_ix (qv 3) q_int (fun _ _ => rfl))) (qv 2)))
      (qss_cons (qs_for PassesOwn.never (qi_seq (qm_fld BC.kc_Passage BC.na_Passage_own_runs (qv 0))) (qg_name 5 sc_gaps.nd) (qss_cons (qs_if (q_cmpT op_lt o_cmp (q_op op_addU o_add (qv 4) q_int) (q_ix ix_seq o_ix (qv 5) q_int (fun _ _ => rfl)) (nomark _)) (qss_cons (qs_set 6 sc_gaps.nd (q_op op_sub o_sub q_int (q_op op_mulU o_mul (q_op op_fdivW o_fdiv (q_op op_addU o_add (qv 4) q_int) (qv 2)) (qv 2))))
      (qss_one (qs_expr (q_append (qv 1) (q_tup (qa_cons (q_op op_addU o_add (q_op op_addU o_add (qv 4) q_int) (qv 6)) (qa_cons (q_op op_addU o_add (q_op op_sub o_sub (q_ix ix_seq o_ix (qv 5) q_int (fun _ _ => rfl)) q_int) (qv 6)) qa_nil))))))) qss_nil)
      (qss_one (qs_set 4 sc_gaps.nd (q_op op_sub o_sub (q_op op_addU o_add (q_ix ix_seq o_ix (qv 5) q_int (fun _ _ => rfl)) (q_ix ix_seq o_ix (qv 5) q_int (fun _ _ => rfl))) (q_ix ix_seq o_ix (qv 5) q_int (fun _ _ => rfl)))))))
      (qss_frz 1 (qss_one (qs_ret (q_sortC cr_sortedR B.sorted_ (by decide +kernel) (qv 1)))))))))))⟩) (rd_gaps cA)
theorem ok_platoons {cA : Str → Addr} (T : DefT K mg "platoons" s_platoons ["passage"]) (B : Bt mg) (BC : Bc K mg cA) (G_moved_row : Got P w K mg base "moved_row" 1 ["row", "by"] sp_moved_row) (G_require_passage : Got P w K mg base "require_passage" 1 ["value"] (sp_require_passage cA)) : Got P w K mg base "platoons" 2 ["passage"] (sp_platoons cA) :=
  Got.mk T sc_platoons (len_platoons cA) (t_platoons cA) (fun f cdv A outer s H hr hg => ⟨_,
      (qss_cons (qs_expr (qc G_require_passage (hr.mono (by decide)) hg (qa_cons (qv 0) qa_nil)))
      (qss_cons (qs_set 1 sc_platoons.nd (q_lstC qa_nil))
      (qss_cons (qs_set 2 sc_platoons.nd (q_op op_sub o_sub (q_ix ix_seq o_ix (q_ix ix_seq o_ix (qm_fld BC.kc_Passage BC.na_Passage_own_runs (qv 0)) (q_un un_neg o_neg q_int) (fun _ _ => rfl)) q_int (fun _ _ => rfl)) (qm_fld BC.kc_Passage BC.na_Passage_own_cycle (qv 0))))
      (qss_cons (qs_for PassesOwn.never (qi_seq (qm_fld BC.kc_Passage BC.na_Passage_own_runs (qv 0))) (qg_tup (qgs_cons (qg_name 3 sc_platoons.nd) (qgs_cons (qg_name 4 sc_platoons.nd) (qgs_cons (qg_name 5 sc_platoons.nd) qgs_nil)))) (qss_cons (qs_if (q_cmpT op_lt o_cmp (q_op op_addU o_add (qv 2) q_int) (qv 3) (nomark _)) (qss_cons (qs_set 6 sc_platoons.nd (q_op op_sub o_sub q_int (q_op op_mulU o_mul (q_op op_fdivW o_fdiv (q_op op_addU o_add (qv 2) q_int) (qm_fld BC.kc_Passage BC.na_Passage_own_cycle (qv 0))) (qm_fld BC.kc_Passage BC.na_Passage_own_cycle (qv 0)))))
      (qss_one (qs_expr (q_append (qv 1) (qc G_moved_row (hr.mono (by decide)) hg (qa_cons (q_tup (qa_cons (q_op op_addU o_add (qv 2) q_int) (qa_cons (qv 3) (qa_cons (qv 5) qa_nil)))) (qa_cons (qv 6) qa_nil))))))) qss_nil)
      (qss_one (qs_set 2 sc_platoons.nd (qv 4)))))
      (qss_frz 1 (qss_one (qs_ret (q_sortC cr_sortedR B.sorted_ (by decide +kernel) (qv 1)))))))))⟩) (rd_platoons cA)
theorem ok_l_right {cA : Str → Addr} (T : DefT K mg "_law_right" s_l_right ["_law_spring_here", "_law_cycle_here", "_law_many"]) (B : Bt mg) (G_Passage_init : GotI P w K mg base (cA "Passage") "Passage" 4 ["self", "cycle", "runs"] (sp_Passage_init cA)) (G_l_drawn : Got P w K mg base "_law_drawn" 4 ["_law_spring_here", "_law_cycle_here", "_law_many"] sp_l_drawn) (G_l_rows_due : Got P w K mg base "_law_rows_due" 1 ["_law_cycle_here", "_law_rows_here"] sp_l_rows_due) (G_l_same : Got P w K mg base "_law_same" 1 ["_law_actual", "_law_expected"] sp_l_same) (G_l_table_due : Got P w K mg base "_law_table_due" 2 ["_law_table"] sp_l_table_due) (G_l_to : Got P w K mg base "_law_to" 1 ["_law_cycle_here", "_law_rows_here", "_law_start"] sp_l_to) (G_gaps : Got P w K mg base "gaps" 2 ["passage"] (sp_gaps cA)) (G_platoons : Got P w K mg base "platoons" 2 ["passage"] (sp_platoons cA)) : Got P w K mg base "_law_right" 6 ["_law_spring_here", "_law_cycle_here", "_law_many"] sp_l_right :=
  Got.mk T sc_l_right (len_l_right) (t_l_right cA) (fun f cdv A outer s H hr hg => ⟨_,
      (qss_cons (qs_set 3 sc_l_right.nd (qc G_l_drawn (hr.mono (by decide)) hg (qa_cons (qv 0) (qa_cons (qv 1) (qa_cons (qv 2) qa_nil)))))
      (qss_cons (qs_par 4 5 sc_l_right.nd (qa_cons (qm_make G_Passage_init (hr.mono (by decide)) hg (qa_cons (qv 1) (qa_cons (q_callTy call_tuple_of c_tupOf B.tuple_ (by decide +kernel) (qa_cons (qv 3) qa_nil)) qa_nil))) (qa_cons (qc G_l_rows_due (hr.mono (by decide)) hg (qa_cons (qv 1) (qa_cons (qv 3) qa_nil))) qa_nil)))
      (qss_cons (qs_if (q_cmpT op_lt o_cmp (qv 1) q_int (nomark _)) (qss_one (qs_set 5 sc_l_right.nd (qc G_l_table_due (hr.mono (by decide)) hg (qa_cons (q_lcH (own := [("_law_start", 7)]) fin_d sc_l_right.nd (qi_range1 B.range_ (qv 1)) (blkOk_by (own := [("_law_start", 7)]) (N := N_l_right) (sc := defScope s_l_right) (by decide +kernel)) s (qg_name 7 sc_l_right.nd) qts_nil (qc G_l_to (hr.mono (by decide)) hg (qa_cons (qv 1) (qa_cons (qv 3) (qa_cons (qv 7) qa_nil)))) (fun _ _ _ _ _ => (qg_name 7 sc_l_right.nd)) (fun _ _ _ _ _ => qts_nil) (fun _ _ _ _ _ => (qc G_l_to (hr.mono (by decide)) hg (qa_cons (qv 1) (qa_cons (qv 3) (qa_cons (qv 7) qa_nil))))) (by decide)) qa_nil)))) qss_nil)
      (qss_cons (qs_set 6 sc_l_right.nd (q_lst (qa_cons (q_adrF (qc G_platoons (hr.mono (by decide)) hg (qa_cons (qv 4) qa_nil))) (qa_cons (q_adrF (qc G_gaps (hr.mono (by decide)) hg (qa_cons (qv 4) qa_nil))) qa_nil))))
      (qss_cons (qs_if (q_notT (q_val (qc G_l_same (hr.mono (by decide)) hg (qa_cons (qv 6) (qa_cons (qv 5) qa_nil))))) (qss_one (qs_ret q_bl)) qss_nil)
      (qss_cons (qs_expr (q_appendA (q_ix ix_seq o_ix (qv 6) q_int (fun _ _ => rfl)) q_non))
      (qss_cons (qs_expr (q_appendA (q_ix ix_seq o_ix (qv 6) q_int (fun _ _ => rfl)) q_non))
      (qss_one (qs_ret (qc G_l_same (hr.mono (by decide)) hg (qa_cons (q_lst (qa_cons (qc G_platoons (hr.mono (by decide)) hg (qa_cons (qv 4) qa_nil)) (qa_cons (qc G_gaps (hr.mono (by decide)) hg (qa_cons (qv 4) qa_nil)) qa_nil))) (qa_cons (qv 5) qa_nil))))))))))))⟩) (rd_l_right cA)
theorem ok_l_spring (T : DefT K mg "_law_spring" s_l_spring ["_law_script", "_law_k"]) (B : Bt mg)  : Got P w K mg base "_law_spring" 1 ["_law_script", "_law_k"] sp_l_spring :=
  Got.mk T sc_l_spring (len_l_spring) (t_l_spring) (fun f cdv A outer s H hr hg => ⟨_,
      (qss_cons (qs_set 2 sc_l_spring.nd q_int)
      (qss_cons (qs_if (q_cmpT op_lt o_cmp (qv 1) (q_callB call_lenU c_len B.len_ PySem.boot_len (qa_cons (qv 0) qa_nil)) (nomark _)) (qss_one (qs_set 2 sc_l_spring.nd (q_ix ix_seq o_ix (qv 0) (qv 1) (fun _ _ => rfl)))) qss_nil)
      (qss_one (qs_ret (q_lstC (qa_cons (q_callB call_maxU c_max B.max_ (by decide +kernel) (qa_cons q_int (qa_cons (q_op op_sub o_sub (qv 2) (q_op op_powW o_pow q_int q_int)) qa_nil))) (qa_cons (q_op op_addU o_add (q_op op_addU o_add (q_op op_mulU o_mul (q_op op_mod o_mod (qv 2) (q_op op_addU o_add (q_op op_powW o_pow q_int q_int) q_int)) q_int) (q_op op_mulU o_mul q_int (qv 1))) q_int) (qa_cons q_int qa_nil))))))))⟩) (rd_l_spring)
theorem ok_law {cA : Str → Addr} (T : DefT K mg "law" s_law ["_law_script"]) (B : Bt mg) (G_Passage_init : GotI P w K mg base (cA "Passage") "Passage" 4 ["self", "cycle", "runs"] (sp_Passage_init cA)) (G_l_cycle : Got P w K mg base "_law_cycle" 2 ["_law_spring_here"] sp_l_cycle) (G_l_right : Got P w K mg base "_law_right" 6 ["_law_spring_here", "_law_cycle_here", "_law_many"] sp_l_right) (G_l_spring : Got P w K mg base "_law_spring" 1 ["_law_script", "_law_k"] sp_l_spring) (G_l_take : Got P w K mg base "_law_take" 1 ["_law_spring_here", "_law_many"] sp_l_take) (G_gaps : Got P w K mg base "gaps" 2 ["passage"] (sp_gaps cA)) (G_platoons : Got P w K mg base "platoons" 2 ["passage"] (sp_platoons cA)) : Got P w K mg base "law" 7 ["_law_script"] sp_law :=
  Got.mk T sc_law (len_law) (t_law cA) (fun f cdv A outer s H hr hg => ⟨_,
      (qss_cons (qs_for PassesOwn.never (qi_range1 B.range_ (q_callB call_maxU c_max B.max_ (by decide +kernel) (qa_cons q_int (qa_cons (q_callB call_minU c_min B.min_ (by decide +kernel) (qa_cons q_int (qa_cons (q_callB call_lenU c_len B.len_ PySem.boot_len (qa_cons (qv 0) qa_nil)) qa_nil))) qa_nil)))) (qg_name 1 sc_law.nd) (qss_cons (qs_set 2 sc_law.nd (qc G_l_spring (hr.mono (by decide)) hg (qa_cons (qv 0) (qa_cons (qv 1) qa_nil))))
      (qss_cons (qs_for PassesOwn.never (qi_range1 B.range_ (q_ifExp (q_cmpT (op_eqU hr.units) o_eqU (qv 1) q_int (nomark _)) q_int q_int)) (qg_name 3 sc_law.nd) (qss_one (qs_if (q_notT (q_val (qc G_l_right (hr.mono (by decide)) hg (qa_cons (qv 2) (qa_cons (qc G_l_cycle (hr.mono (by decide)) hg (qa_cons (qv 2) qa_nil)) (qa_cons q_int qa_nil)))))) (qss_one (qs_ret q_bl)) qss_nil)))
      (qss_one (qs_if (QW.t (q_andT (q_cmpT (op_eqU hr.units) o_eqU (qv 1) q_int (nomark _)) (q_and1 (q_notT (q_val (qc G_l_right (hr.mono (by decide)) hg (qa_cons (qv 2) (qa_cons (q_op op_sub o_sub (q_op op_powW o_pow q_int q_int) (qc G_l_take (hr.mono (by decide)) hg (qa_cons (qv 2) (qa_cons q_int qa_nil)))) (qa_cons q_int qa_nil))))))))) (qss_one (qs_ret q_bl)) qss_nil)))))
      (qss_cons (qs_set 4 sc_law.nd (qm_make G_Passage_init (hr.mono (by decide)) hg (qa_cons q_int (qa_cons (q_tup (qa_cons (q_tup (qa_cons q_int (qa_cons q_int (qa_cons q_int qa_nil)))) qa_nil)) qa_nil))))
      (qss_one (qs_ret (q_cmp (op_eqU hr.units) o_eqU (q_lst (qa_cons (qc G_platoons (hr.mono (by decide)) hg (qa_cons (qv 4) qa_nil)) (qa_cons (qc G_gaps (hr.mono (by decide)) hg (qa_cons (qv 4) qa_nil)) qa_nil))) (q_lst (qa_cons (q_lst (qa_cons (q_tup (qa_cons q_int (qa_cons q_int (qa_cons q_int qa_nil)))) qa_nil)) (qa_cons (q_lst (qa_cons (q_tup (qa_cons q_int (qa_cons q_int qa_nil))) qa_nil)) qa_nil))) (nomark _))))))⟩) (rd_law cA)
theorem all_G {P : Program} {w : World} {K : PySem.W.Frag} {mg : Str → Option Value} {base : Heap} {C_Passage : Addr} 
    (c_MOST_CYCLE : ∃ t, mg "MOST_CYCLE" = some (.int 1000000000000000000000000000000 t)) (B : Bt mg)
    (F_kc_Passage : ClsD K C_Passage)
    (F_mc_Passage : mg "Passage" = some (.ref C_Passage))
    (F_na_Passage_own_cycle : NoAttr K C_Passage "own_cycle")
    (F_na_Passage_own_runs : NoAttr K C_Passage "own_runs")
    (F_ot_Passage : ∀ C' ∈ ([] : List Addr), Oth K C_Passage C')
    (T_is_int : DefT K mg "is_int" s_is_int ["value"])
    (T_in_range : DefT K mg "in_range" s_in_range ["value", "low", "high"])
    (T_require_cycle : DefT K mg "require_cycle" s_require_cycle ["value"])
    (T_is_row : DefT K mg "is_row" s_is_row ["value"])
    (T_are_runs : DefT K mg "are_runs" s_are_runs ["cycle", "value"])
    (T_moved_row : DefT K mg "moved_row" s_moved_row ["row", "by"])
    (T_joined_rows : DefT K mg "joined_rows" s_joined_rows ["rows"])
    (T_normal_runs : DefT K mg "normal_runs" s_normal_runs ["cycle", "rows"])
    (T_require_passage : DefT K mg "require_passage" s_require_passage ["value"])
    (T_platoons : DefT K mg "platoons" s_platoons ["passage"])
    (T_gaps : DefT K mg "gaps" s_gaps ["passage"])
    (T_l_spring : DefT K mg "_law_spring" s_l_spring ["_law_script", "_law_k"])
    (T_l_take : DefT K mg "_law_take" s_l_take ["_law_spring_here", "_law_many"])
    (T_l_cycle : DefT K mg "_law_cycle" s_l_cycle ["_law_spring_here"])
    (T_l_shares : DefT K mg "_law_shares" s_l_shares ["_law_spring_here", "_law_total", "_law_many"])
    (T_l_rows : DefT K mg "_law_rows" s_l_rows ["_law_spring_here", "_law_cycle_here", "_law_many", "_law_begin", "_law_arrival"])
    (T_l_drawn : DefT K mg "_law_drawn" s_l_drawn ["_law_spring_here", "_law_cycle_here", "_law_many"])
    (T_l_to : DefT K mg "_law_to" s_l_to ["_law_cycle_here", "_law_rows_here", "_law_start"])
    (T_l_same : DefT K mg "_law_same" s_l_same ["_law_actual", "_law_expected"])
    (T_l_of : DefT K mg "_law_of" s_l_of ["_law_table", "_law_start"])
    (T_l_table_due : DefT K mg "_law_table_due" s_l_table_due ["_law_table"])
    (T_l_rows_due : DefT K mg "_law_rows_due" s_l_rows_due ["_law_cycle_here", "_law_rows_here"])
    (T_l_right : DefT K mg "_law_right" s_l_right ["_law_spring_here", "_law_cycle_here", "_law_many"])
    (T_law : DefT K mg "law" s_law ["_law_script"])
    (T_Passage_init : InitT K mg C_Passage "Passage" "Passage.__init__" s_Passage_init ["self", "cycle", "runs"])
    : Got P w K mg base "law" 7 ["_law_script"] sp_law := by
  obtain ⟨cA, rfl⟩ : ∃ cA : Str → Addr, cA "Passage" = C_Passage := ⟨DL.cAof [("Passage", C_Passage)], rfl⟩
  have BC : Bc K mg cA := ⟨F_kc_Passage, F_mc_Passage, F_na_Passage_own_cycle, F_na_Passage_own_runs, F_ot_Passage⟩
  have G_is_int := ok_is_int (P := P) (w := w) (base := base) T_is_int B 
  have G_in_range := ok_in_range (P := P) (w := w) (base := base) T_in_range B G_is_int
  have G_require_cycle := ok_require_cycle (P := P) (w := w) (base := base) T_require_cycle B c_MOST_CYCLE G_in_range
  have G_is_row := ok_is_row (P := P) (w := w) (base := base) T_is_row B G_is_int
  have G_are_runs := ok_are_runs (P := P) (w := w) (base := base) T_are_runs B G_is_row
  have G_moved_row := ok_moved_row (P := P) (w := w) (base := base) T_moved_row B 
  have G_joined_rows := ok_joined_rows (P := P) (w := w) (base := base) T_joined_rows B 
  have G_normal_runs := ok_normal_runs (P := P) (w := w) (base := base) T_normal_runs B G_joined_rows G_moved_row
  have G_require_passage := ok_require_passage (P := P) (w := w) (base := base) (cA := cA) T_require_passage B BC
  have G_platoons := ok_platoons (P := P) (w := w) (base := base) (cA := cA) T_platoons B BC G_moved_row G_require_passage
  have G_gaps := ok_gaps (P := P) (w := w) (base := base) (cA := cA) T_gaps B BC G_require_passage
  have G_l_spring := ok_l_spring (P := P) (w := w) (base := base) T_l_spring B 
  have G_l_take := ok_l_take (P := P) (w := w) (base := base) T_l_take B 
  have G_l_cycle := ok_l_cycle (P := P) (w := w) (base := base) T_l_cycle B G_l_take
  have G_l_shares := ok_l_shares (P := P) (w := w) (base := base) T_l_shares B G_l_take
  have G_l_rows := ok_l_rows (P := P) (w := w) (base := base) T_l_rows B G_l_shares G_l_take
  have G_l_drawn := ok_l_drawn (P := P) (w := w) (base := base) T_l_drawn B G_l_rows G_l_take
  have G_l_to := ok_l_to (P := P) (w := w) (base := base) T_l_to B 
  have G_l_same := ok_l_same (P := P) (w := w) (base := base) T_l_same B 
  have G_l_of := ok_l_of (P := P) (w := w) (base := base) T_l_of B 
  have G_l_table_due := ok_l_table_due (P := P) (w := w) (base := base) T_l_table_due B G_l_of
  have G_l_rows_due := ok_l_rows_due (P := P) (w := w) (base := base) T_l_rows_due B 
  have G_Passage_init := ok_Passage_init (P := P) (w := w) (base := base) (cA := cA) T_Passage_init B BC G_are_runs G_normal_runs G_require_cycle
  have G_l_right := ok_l_right (P := P) (w := w) (base := base) (cA := cA) T_l_right B G_Passage_init G_l_drawn G_l_rows_due G_l_same G_l_table_due G_l_to G_gaps G_platoons
  have G_law := ok_law (P := P) (w := w) (base := base) (cA := cA) T_law B G_Passage_init G_l_cycle G_l_right G_l_spring G_l_take G_gaps G_platoons
  exact G_law
theorem facts {P : Program} {w : World} {K : Hk.FrK} {h : Heap} {mg : Str → Option Value} (X : K.In h) (G : h.Ns mainGlobals mg) (c : Hk.SaysC hfa hck hfn K) (tk : TabsOk h K) (base : Heap) : Got P w K mg base "law" 7 ["_law_script"] sp_law := by
  obtain ⟨fd0, F0⟩ := c.def_ 0 (d := ⟨fun K => He.ga K "is_int", "is_int", "is_int", s_is_int⟩) rfl
  obtain ⟨fd1, F1⟩ := c.def_ 1 (d := ⟨fun K => He.ga K "in_range", "in_range", "in_range", s_in_range⟩) rfl
  obtain ⟨fd2, F2⟩ := c.def_ 2 (d := ⟨fun K => He.ga K "require_cycle", "require_cycle", "require_cycle", s_require_cycle⟩) rfl
  obtain ⟨fd3, F3⟩ := c.def_ 3 (d := ⟨fun K => He.ga K "is_row", "is_row", "is_row", s_is_row⟩) rfl
  obtain ⟨fd4, F4⟩ := c.def_ 4 (d := ⟨fun K => He.ga K "are_runs", "are_runs", "are_runs", s_are_runs⟩) rfl
  obtain ⟨fd5, F5⟩ := c.def_ 5 (d := ⟨fun K => He.ga K "moved_row", "moved_row", "moved_row", s_moved_row⟩) rfl
  obtain ⟨fd6, F6⟩ := c.def_ 6 (d := ⟨fun K => He.ga K "joined_rows", "joined_rows", "joined_rows", s_joined_rows⟩) rfl
  obtain ⟨fd7, F7⟩ := c.def_ 7 (d := ⟨fun K => He.ga K "normal_runs", "normal_runs", "normal_runs", s_normal_runs⟩) rfl
  obtain ⟨fd8, F8⟩ := c.def_ 8 (d := ⟨fun K => He.ga K "require_passage", "require_passage", "require_passage", s_require_passage⟩) rfl
  obtain ⟨fd9, F9⟩ := c.def_ 9 (d := ⟨fun K => He.ga K "platoons", "platoons", "platoons", s_platoons⟩) rfl
  obtain ⟨fd10, F10⟩ := c.def_ 10 (d := ⟨fun K => He.ga K "gaps", "gaps", "gaps", s_gaps⟩) rfl
  obtain ⟨fd11, F11⟩ := c.def_ 11 (d := ⟨fun K => He.ga K "_law_spring", "_law_spring", "_law_spring", s_l_spring⟩) rfl
  obtain ⟨fd12, F12⟩ := c.def_ 12 (d := ⟨fun K => He.ga K "_law_take", "_law_take", "_law_take", s_l_take⟩) rfl
  obtain ⟨fd13, F13⟩ := c.def_ 13 (d := ⟨fun K => He.ga K "_law_cycle", "_law_cycle", "_law_cycle", s_l_cycle⟩) rfl
  obtain ⟨fd14, F14⟩ := c.def_ 14 (d := ⟨fun K => He.ga K "_law_shares", "_law_shares", "_law_shares", s_l_shares⟩) rfl
  obtain ⟨fd15, F15⟩ := c.def_ 15 (d := ⟨fun K => He.ga K "_law_rows", "_law_rows", "_law_rows", s_l_rows⟩) rfl
  obtain ⟨fd16, F16⟩ := c.def_ 16 (d := ⟨fun K => He.ga K "_law_drawn", "_law_drawn", "_law_drawn", s_l_drawn⟩) rfl
  obtain ⟨fd17, F17⟩ := c.def_ 17 (d := ⟨fun K => He.ga K "_law_to", "_law_to", "_law_to", s_l_to⟩) rfl
  obtain ⟨fd18, F18⟩ := c.def_ 18 (d := ⟨fun K => He.ga K "_law_same", "_law_same", "_law_same", s_l_same⟩) rfl
  obtain ⟨fd19, F19⟩ := c.def_ 19 (d := ⟨fun K => He.ga K "_law_of", "_law_of", "_law_of", s_l_of⟩) rfl
  obtain ⟨fd20, F20⟩ := c.def_ 20 (d := ⟨fun K => He.ga K "_law_table_due", "_law_table_due", "_law_table_due", s_l_table_due⟩) rfl
  obtain ⟨fd21, F21⟩ := c.def_ 21 (d := ⟨fun K => He.ga K "_law_rows_due", "_law_rows_due", "_law_rows_due", s_l_rows_due⟩) rfl
  obtain ⟨fd22, F22⟩ := c.def_ 22 (d := ⟨fun K => He.ga K "_law_right", "_law_right", "_law_right", s_l_right⟩) rfl
  obtain ⟨fd23, F23⟩ := c.def_ 23 (d := ⟨fun K => He.ga K "law", "law", "law", s_law⟩) rfl
  obtain ⟨fd24, F24⟩ := c.def_ 24 (d := ⟨Hk.mA "Passage" "__init__", "__init__", "Passage.__init__", s_Passage_init⟩) rfl
  exact all_G (He.int_ok X G (c.fact 0 (f := .int "MOST_CYCLE" 1000000000000000000000000000000) rfl)) ⟨He.free_ok X G (c.fact 1 (f := .free "all") rfl), He.free_ok X G (c.fact 2 (f := .free "bool") rfl), He.free_ok X G (c.fact 3 (f := .free "enumerate") rfl), He.free_ok X G (c.fact 4 (f := .free "int") rfl), He.free_ok X G (c.fact 5 (f := .free "isinstance") rfl), He.free_ok X G (c.fact 6 (f := .free "len") rfl), He.free_ok X G (c.fact 7 (f := .free "list") rfl), He.free_ok X G (c.fact 8 (f := .free "max") rfl), He.free_ok X G (c.fact 9 (f := .free "min") rfl), He.free_ok X G (c.fact 10 (f := .free "range") rfl), He.free_ok X G (c.fact 11 (f := .free "repr") rfl), He.free_ok X G (c.fact 12 (f := .free "sorted") rfl), He.free_ok X G (c.fact 13 (f := .free "tuple") rfl), He.free_ok X G (c.fact 14 (f := .free "zip") rfl)⟩ (Hk.clsC_ok (c.chk 0 (f := Hk.clsC "Passage") rfl)) (He.glo_ok X G (c.fact 15 (f := .glo "Passage") rfl)) (He.noat_ok (c.fact 16 (f := .noat "Passage" "own_cycle") rfl)) (He.noat_ok (c.fact 17 (f := .noat "Passage" "own_runs") rfl)) (fun _ h => by simp at h) (Hk.defT X G (c.fact 18 (f := .glo "is_int") rfl) F0 (fun _ _ _ _ _ _ us hl => match us, hl with | [_], _ => rfl))
    (Hk.defT X G (c.fact 19 (f := .glo "in_range") rfl) F1 (fun _ _ _ _ _ _ us hl => match us, hl with | [_, _, _], _ => rfl))
    (Hk.defT X G (c.fact 20 (f := .glo "require_cycle") rfl) F2 (fun _ _ _ _ _ _ us hl => match us, hl with | [_], _ => rfl))
    (Hk.defT X G (c.fact 21 (f := .glo "is_row") rfl) F3 (fun _ _ _ _ _ _ us hl => match us, hl with | [_], _ => rfl))
    (Hk.defT X G (c.fact 22 (f := .glo "are_runs") rfl) F4 (fun _ _ _ _ _ _ us hl => match us, hl with | [_, _], _ => rfl))
    (Hk.defT X G (c.fact 23 (f := .glo "moved_row") rfl) F5 (fun _ _ _ _ _ _ us hl => match us, hl with | [_, _], _ => rfl))
    (Hk.defT X G (c.fact 24 (f := .glo "joined_rows") rfl) F6 (fun _ _ _ _ _ _ us hl => match us, hl with | [_], _ => rfl))
    (Hk.defT X G (c.fact 25 (f := .glo "normal_runs") rfl) F7 (fun _ _ _ _ _ _ us hl => match us, hl with | [_, _], _ => rfl))
    (Hk.defT X G (c.fact 26 (f := .glo "require_passage") rfl) F8 (fun _ _ _ _ _ _ us hl => match us, hl with | [_], _ => rfl))
    (Hk.defT X G (c.fact 27 (f := .glo "platoons") rfl) F9 (fun _ _ _ _ _ _ us hl => match us, hl with | [_], _ => rfl))
    (Hk.defT X G (c.fact 28 (f := .glo "gaps") rfl) F10 (fun _ _ _ _ _ _ us hl => match us, hl with | [_], _ => rfl))
    (Hk.defT X G (c.fact 29 (f := .glo "_law_spring") rfl) F11 (fun _ _ _ _ _ _ us hl => match us, hl with | [_, _], _ => rfl))
    (Hk.defT X G (c.fact 30 (f := .glo "_law_take") rfl) F12 (fun _ _ _ _ _ _ us hl => match us, hl with | [_, _], _ => rfl))
    (Hk.defT X G (c.fact 31 (f := .glo "_law_cycle") rfl) F13 (fun _ _ _ _ _ _ us hl => match us, hl with | [_], _ => rfl))
    (Hk.defT X G (c.fact 32 (f := .glo "_law_shares") rfl) F14 (fun _ _ _ _ _ _ us hl => match us, hl with | [_, _, _], _ => rfl))
    (Hk.defT X G (c.fact 33 (f := .glo "_law_rows") rfl) F15 (fun _ _ _ _ _ _ us hl => match us, hl with | [_, _, _, _, _], _ => rfl))
    (Hk.defT X G (c.fact 34 (f := .glo "_law_drawn") rfl) F16 (fun _ _ _ _ _ _ us hl => match us, hl with | [_, _, _], _ => rfl))
    (Hk.defT X G (c.fact 35 (f := .glo "_law_to") rfl) F17 (fun _ _ _ _ _ _ us hl => match us, hl with | [_, _, _], _ => rfl))
    (Hk.defT X G (c.fact 36 (f := .glo "_law_same") rfl) F18 (fun _ _ _ _ _ _ us hl => match us, hl with | [_, _], _ => rfl))
    (Hk.defT X G (c.fact 37 (f := .glo "_law_of") rfl) F19 (fun _ _ _ _ _ _ us hl => match us, hl with | [_, _], _ => rfl))
    (Hk.defT X G (c.fact 38 (f := .glo "_law_table_due") rfl) F20 (fun _ _ _ _ _ _ us hl => match us, hl with | [_], _ => rfl))
    (Hk.defT X G (c.fact 39 (f := .glo "_law_rows_due") rfl) F21 (fun _ _ _ _ _ _ us hl => match us, hl with | [_, _], _ => rfl))
    (Hk.defT X G (c.fact 40 (f := .glo "_law_right") rfl) F22 (fun _ _ _ _ _ _ us hl => match us, hl with | [_, _, _], _ => rfl))
    (Hk.defT X G (c.fact 41 (f := .glo "law") rfl) F23 (fun _ _ _ _ _ _ us hl => match us, hl with | [_], _ => rfl))
    (Hk.initT (x := "Passage") X G (c.fact 15 (f := .glo "Passage") rfl) (c.fact 42 (f := .mkr "Passage") rfl) F24 (fun _ _ _ _ _ _ us hl => match us, hl with | [_, _, _], _ => rfl))
end K10
open PySem PySem.W PySem.Calls PyProof.Rows
set_option maxHeartbeats 0 in
theorem PySem.Challenge.cw_greenroads_k10_platoons_and_gaps_holds : PySem.Challenge.rw_greenroads_k10_platoons_and_gaps.Holds := by
  w_on; o_law
  refine HandSHeadRun.head_any (r := OpenLaw.row PySem.Challenge.rw_greenroads_k10_platoons_and_gaps) (q := view (OpenLaw.row PySem.Challenge.rw_greenroads_k10_platoons_and_gaps).prog [48]) (H := K10.hk) (ob := K10.hob) (M := 20000) (loose := K10.hnames) (d := HandSHeadRun.topDef (OpenLaw.row PySem.Challenge.rw_greenroads_k10_platoons_and_gaps).prog 48) (kwd := []) K10.hob_eq
    (by kernel_rfl) (fun s => by kernel_rfl) K10.hrun (by kernel_rfl) (by kernel_rfl) (by kernel_rfl) (by rfl) (by first | assumption | decide +kernel) (by decide +kernel) ⟨rfl, rfl, rfl, rfl, rfl, by decide +kernel⟩ ?hw ?hc
  case hw => w_witness2
  case hc =>
    refine DL.walk_H (l := PySem.Challenge.rw_greenroads_k10_platoons_and_gaps) (n := 63) (k := 7) (x := "_law_script") (sp := K10.sp_law) rfl (by decide) (by kernel_rfl) ⟨rfl, by decide, by decide⟩ ?F K10.law_true
    intro w h Y
    obtain ⟨K, KX, c, tk⟩ := Y
    exact ⟨K, KX, tk, fun mg G base _ _ => K10.facts KX G c tk base⟩

