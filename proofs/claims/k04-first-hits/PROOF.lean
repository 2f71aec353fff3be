import PyProof.Rows.All
import Wide.All
import OpenK.AllK
import Wide.FinOn
import HandS.ForMost
import HandS.Wide
import HandS.WideBits
import HandS.TupAny
import HandS.TupMul
import HandS.IsInst
import HandS.Style
import HandS.Flow
import HandS.SortRule
import HandS.SortInts
import HandS.Property
import HandS.SlotsOwn
import HandS.Star
import PyProof.InstEq
import HandS.Strs
import HandS.SetFor
import HandS.Zip
import KE.GoesMore
import KE.DataMinMax
import KE.SortData
import HandS.More
import HandS.Conv
import PySem.Challenge.RW_greenroads_k04_first_hits
set_option Elab.async false
set_option linter.all false
set_option maxRecDepth 100000
set_option maxHeartbeats 2000000
/-! DL: readings over plain data. D: data; Z: data or a numbered cell (a list or dict of the def's own that changes). -/
namespace DL
open PySem L2

theorem nd {α : Sort _} {a b : α} (h : a = b) : a = b := h
/-- the greatest length -/
def LIM : Nat := 16000000
theorem lim_le {n : Nat} (h : n ≤ 16000000) : n ≤ LIM := h
theorem lim_lt {n : Nat} (h : n < 16000000) : n < LIM := h
theorem le_lim {n : Nat} (h : n ≤ 100000) : (n ≤ LIM) = True := eq_true (lim_le (by omega))
theorem lt_lim {n : Nat} (h : n < 100000) : (n < LIM) = True := eq_true (lim_lt (by omega))
inductive D where
  | non | bl (b : Bool) | int (i : Int) | str (x : Str)
  | tup (ds : List D) | lst (ds : List D) | dic (kvs : List (Key × D)) | scr (ns : List Int) | ty (n : String) | obj (a : Addr) | ob (C : Addr) (ns : List Str) (ds : List D)
inductive Z where
  | d (x : D) | c (n : Nat)
abbrev Cs := List D
abbrev En := List (Option Z)
abbrev DE := En → Cs → (Z → Cs → Prop) → Prop
abbrev DT := En → Cs → (Bool → Cs → Prop) → Prop
abbrev DA := En → Cs → (List Z → Cs → Prop) → Prop
structure DEnds where
  nx : En → Cs → Prop
  rt : Z → Cs → Prop
  bk : En → Cs → Prop := fun _ _ => False
  ct : En → Cs → Prop := fun _ _ => False
abbrev DS := DEnds → En → Cs → Prop
abbrev DG := Z → En → Cs → (En → Cs → Prop) → Prop
abbrev DGs := List D → En → Cs → (En → Cs → Prop) → Prop
abbrev DI := En → Cs → (List D → (Cs → Prop) → Cs → Prop) → Prop
abbrev DSpec := List Z → Cs → (Z → Cs → Prop) → Prop

mutual
/-- the value v stands for the data, by the objects of S, which never change -/
def Is (K : PySem.W.Frag) (S : Hp) : D → V → Prop
  | .non, v => v = .non
  | .bl b, v => v = .bl b
  | .int i, v => v = .int i
  | .str x, v => v = .str x
  | .tup ds, v => ∃ a vs, v = .ref a ∧ SqT K S a vs ∧ IsL K S ds vs
  | .lst ds, v => ∃ a vs, v = .ref a ∧ S a = some (.lst vs) ∧ IsL K S ds vs
  | .dic kvs, v => ∃ a kv, v = .ref a ∧ S a = some (.dK kv) ∧ IsK K S kvs kv
  | .scr ns, v => ∃ a, v = .ref a ∧ SqL K S a (ns.map V.int)
  | .ty n, v => v = .ty n
  | .obj a, v => v = .ref a
  | .ob C ns ds, v => ∃ x dx vs, v = .ref x ∧ S x = some (.ins C dx (ns.zip vs)) ∧ S dx = some (.own x) ∧ ns.length = ds.length ∧ IsL K S ds vs
def IsL (K : PySem.W.Frag) (S : Hp) : List D → List V → Prop
  | [], vs => vs = []
  | d :: ds, vs => ∃ v r, vs = v :: r ∧ Is K S d v ∧ IsL K S ds r
def IsK (K : PySem.W.Frag) (S : Hp) : List (Key × D) → List (Key × V) → Prop
  | [], l => l = []
  | kd :: r, l => ∃ v l', l = (kd.1, v) :: l' ∧ Is K S kd.2 v ∧ IsK K S r l'
end

/-- all of S stands in H -/
def Sub (S H : Hp) : Prop := ∀ a o, S a = some o → H a = some o
theorem Sub.refl (S : Hp) : Sub S S := fun _ _ h => h
theorem Sub.trans {S T U : Hp} (a : Sub S T) (b : Sub T U) : Sub S U := fun x o h => b x o (a x o h)
theorem Sub.new {S : Hp} {p : Addr} {o : HO} (h : S p = none) : Sub S (upd S p o) := fun a u e => by
  rw [upd_ne (ne_of_none e h)]
  exact e
theorem Sub.both {S H : Hp} {p : Addr} {o : HO} (h : Sub S H) : Sub (upd S p o) (upd H p o) := fun a u e => by
  by_cases ha : a = p
  · subst ha
    rw [upd_same] at e ⊢
    exact e
  · rw [upd_ne ha] at e ⊢
    exact h a u e
theorem Sub.free {S H : Hp} {p : Addr} (h : Sub S H) (n : H p = none) : S p = none := by
  cases q : S p with
  | none => rfl
  | some o => rw [h p o q] at n; cases n
theorem Sub.other {S H : Hp} {p : Addr} {o : HO} (h : Sub S H) (n : S p = none) : Sub S (upd H p o) := fun a u e => by
  rw [upd_ne (ne_of_none e n)]
  exact h a u e
theorem Sub.rd {S H : Hp} {a : Addr} {u : HO} (e : Sub S H) (h : Rd S a u) : Rd H a u := by
  rcases h with h | ⟨o, h⟩
  · exact Or.inl (e a _ h)
  · exact Or.inr ⟨o, e a _ h⟩
theorem Sub.l {K : PySem.W.Frag} {S H : Hp} {a : Addr} {xs : List V} (e : Sub S H) (h : SqL K S a xs) : SqL K H a xs := by
  rcases h with h | h
  · exact Or.inl (e.rd h)
  · exact Or.inr h
theorem Sub.t {K : PySem.W.Frag} {S H : Hp} {a : Addr} {xs : List V} (e : Sub S H) (h : SqT K S a xs) : SqT K H a xs := by
  rcases h with h | h
  · exact Or.inl (e.rd h)
  · exact Or.inr h

mutual
theorem Is.mono {K : PySem.W.Frag} {S T : Hp} (e : Sub S T) : ∀ (d : D) (v : V), Is K S d v → Is K T d v
  | .non, _, h => h
  | .bl _, _, h => h
  | .int _, _, h => h
  | .str _, _, h => h
  | .tup ds, v, h => by
    obtain ⟨a, vs, h1, h2, h3⟩ := h
    exact ⟨a, vs, h1, e.t h2, IsL.mono e ds vs h3⟩
  | .lst ds, v, h => by
    obtain ⟨a, vs, h1, h2, h3⟩ := h
    exact ⟨a, vs, h1, e _ _ h2, IsL.mono e ds vs h3⟩
  | .dic kvs, v, h => by
    obtain ⟨a, kv, h1, h2, h3⟩ := h
    exact ⟨a, kv, h1, e _ _ h2, IsK.mono e kvs kv h3⟩
  | .scr ns, v, h => by
    obtain ⟨a, h1, h2⟩ := h
    exact ⟨a, h1, e.l h2⟩
  | .ty _, _, h => h
  | .obj _, _, h => h
  | .ob C ns ds, v, h => by
    obtain ⟨x, dx, vs, h1, h2, h3, h4, h5⟩ := h
    exact ⟨x, dx, vs, h1, e _ _ h2, e _ _ h3, h4, IsL.mono e ds vs h5⟩
theorem IsL.mono {K : PySem.W.Frag} {S T : Hp} (e : Sub S T) : ∀ (ds : List D) (vs : List V), IsL K S ds vs → IsL K T ds vs
  | [], _, h => h
  | d :: ds, vs, h => by
    obtain ⟨v, r, h1, h2, h3⟩ := h
    exact ⟨v, r, h1, Is.mono e d v h2, IsL.mono e ds r h3⟩
theorem IsK.mono {K : PySem.W.Frag} {S T : Hp} (e : Sub S T) : ∀ (kvs : List (Key × D)) (l : List (Key × V)), IsK K S kvs l → IsK K T kvs l
  | [], _, h => h
  | kd :: r, l, h => by
    obtain ⟨v, l', h1, h2, h3⟩ := h
    exact ⟨v, l', h1, Is.mono e kd.2 v h2, IsK.mono e r l' h3⟩
end

/-- the object itself read in H, what lies within by S -/
def Sh (K : PySem.W.Frag) (S H : Hp) : D → V → Prop
  | .lst ds, v => ∃ a vs, v = .ref a ∧ H a = some (.lst vs) ∧ IsL K S ds vs
  | .dic kvs, v => ∃ a kv, v = .ref a ∧ H a = some (.dK kv) ∧ IsK K S kvs kv
  | .ob C ns ds, v => ∃ x dx vs, v = .ref x ∧ H x = some (.ins C dx (ns.zip vs)) ∧ S dx = some (.own x) ∧ ns.length = ds.length ∧ IsL K S ds vs
  | d, v => Is K S d v
theorem Is.sh {K : PySem.W.Frag} {S H : Hp} (e : Sub S H) : ∀ {d : D} {v : V}, Is K S d v → Sh K S H d v
  | .non, _, h => h
  | .bl _, _, h => h
  | .int _, _, h => h
  | .str _, _, h => h
  | .tup _, _, h => h
  | .scr _, _, h => h
  | .ty _, _, h => h
  | .obj _, _, h => h
  | .ob _ _ _, v, h => by
    obtain ⟨x, dx, vs, h1, h2, h3⟩ := h
    exact ⟨x, dx, vs, h1, e _ _ h2, h3⟩
  | .lst ds, v, h => by
    obtain ⟨a, vs, h1, h2, h3⟩ := h
    exact ⟨a, vs, h1, e _ _ h2, h3⟩
  | .dic kvs, v, h => by
    obtain ⟨a, kv, h1, h2, h3⟩ := h
    exact ⟨a, kv, h1, e _ _ h2, h3⟩

/-- a cell at a: a list or dict that this def (or a caller) may change -/
def CelAt (K : PySem.W.Frag) (S H : Hp) (a : Addr) : D → Prop
  | .lst ds => S a = none ∧ ∃ vs, H a = some (.lst vs) ∧ IsL K S ds vs
  | .dic kvs => S a = none ∧ ∃ kv, H a = some (.dK kv) ∧ IsK K S kvs kv
  | .ob C ns ds => S a = none ∧ ∃ dx vs, H a = some (.ins C dx (ns.zip vs)) ∧ S dx = some (.own a) ∧ ns.length = ds.length ∧ IsL K S ds vs
  | .obj b => b = a
  | _ => False
structure Rep (K : PySem.W.Frag) (S H : Hp) (as : List Addr) (cs : Cs) : Prop where
  sub : Sub S H
  len : as.length = cs.length
  nod : as.Nodup
  cel : ∀ (n : Nat) (a : Addr) (c : D), as[n]? = some a → cs[n]? = some c → CelAt K S H a c
  liv : ∀ a ∈ as, H a ≠ none
structure Ext (S : Hp) (as : List Addr) (S' : Hp) (as' : List Addr) : Prop where
  sub : Sub S S'
  pre : ∃ more, as' = as ++ more
theorem Ext.refl {S : Hp} {as : List Addr} : Ext S as S as := ⟨Sub.refl S, [], (List.append_nil as).symm⟩
theorem Ext.trans {S T U : Hp} {as bs cs : List Addr} (a : Ext S as T bs) (b : Ext T bs U cs) : Ext S as U cs := by
  obtain ⟨m1, e1⟩ := a.pre
  obtain ⟨m2, e2⟩ := b.pre
  exact ⟨a.sub.trans b.sub, m1 ++ m2, by rw [e2, e1, List.append_assoc]⟩
theorem Ext.of {S S' : Hp} {as : List Addr} (h : Sub S S') : Ext S as S' as := ⟨h, [], (List.append_nil as).symm⟩
theorem Ext.get {S S' : Hp} {as as' : List Addr} (h : Ext S as S' as') {n : Nat} {a : Addr} (e : as[n]? = some a) : as'[n]? = some a := by
  obtain ⟨m, rfl⟩ := h.pre
  rw [List.getElem?_append_left (List.getElem?_eq_some_iff.mp e).1]
  exact e

def VZ (K : PySem.W.Frag) (S : Hp) (as : List Addr) : Z → V → Prop
  | .d x, v => Is K S x v
  | .c n, v => ∃ a, as[n]? = some a ∧ v = .ref a
theorem VZ.mono {K : PySem.W.Frag} {S S' : Hp} {as as' : List Addr} (e : Ext S as S' as') : ∀ {z : Z} {v : V}, VZ K S as z v → VZ K S' as' z v
  | .d _, _, h => Is.mono e.sub _ _ h
  | .c _, _, ⟨a, h1, h2⟩ => ⟨a, e.get h1, h2⟩
def VZL (K : PySem.W.Frag) (S : Hp) (as : List Addr) : List Z → List V → Prop
  | [], vs => vs = []
  | z :: zs, vs => ∃ v r, vs = v :: r ∧ VZ K S as z v ∧ VZL K S as zs r
theorem VZL.mono {K : PySem.W.Frag} {S S' : Hp} {as as' : List Addr} (e : Ext S as S' as') : ∀ {zs : List Z} {vs : List V}, VZL K S as zs vs → VZL K S' as' zs vs
  | [], _, h => h
  | _ :: _, _, ⟨v, r, h1, h2, h3⟩ => ⟨v, r, h1, h2.mono e, VZL.mono e h3⟩
theorem VZL.len {K : PySem.W.Frag} {S : Hp} {as : List Addr} : ∀ {zs : List Z} {vs : List V}, VZL K S as zs vs → vs.length = zs.length
  | [], _, h => by rw [h]; rfl
  | _ :: zs, _, ⟨v, r, h1, h2, h3⟩ => by rw [h1, List.length_cons, List.length_cons, VZL.len h3]

/-- what a Z holds -/
def look (cs : Cs) : Z → Option D
  | .d x => some x
  | .c n => cs[n]?
theorem look_sh {K : PySem.W.Frag} {S H : Hp} {as : List Addr} {cs : Cs} (r : Rep K S H as cs) : ∀ {z : Z} {v : V} {d : D}, VZ K S as z v → look cs z = some d → Sh K S H d v
  | .d x, v, d, h, e => by
    have e' : x = d := Option.some.inj e
    subst e'
    exact h.sh r.sub
  | .c n, v, d, ⟨a, h1, h2⟩, e => by
    have q := r.cel n a d h1 e
    subst h2
    cases d with
    | lst ds =>
      obtain ⟨_, vs, h3, h4⟩ := q
      exact ⟨a, vs, rfl, h3, h4⟩
    | dic kvs =>
      obtain ⟨_, kv, h3, h4⟩ := q
      exact ⟨a, kv, rfl, h3, h4⟩
    | ob _ _ _ =>
      obtain ⟨_, dx, vs, h3, h4⟩ := q
      exact ⟨a, dx, vs, rfl, h3, h4⟩
    | scr _ => exact q.elim
    | ty _ => exact q.elim
    | obj b => exact congrArg V.ref (show a = b from Eq.symm q)
    | non => exact q.elim
    | bl _ => exact q.elim
    | int _ => exact q.elim
    | str _ => exact q.elim
    | tup _ => exact q.elim

/-- the slots -/
structure EnvOk (K : PySem.W.Frag) (S : Hp) (as : List Addr) (en : En) (σ : L2.St) : Prop where
  len : σ.length = en.length
  at_ : ∀ (i : Nat) (z : Z), en[i]? = some (some z) → ∃ v, σ[i]? = some (some v) ∧ VZ K S as z v
theorem EnvOk.mono {K : PySem.W.Frag} {S S' : Hp} {as as' : List Addr} {en : En} {σ : L2.St} (h : EnvOk K S as en σ) (e : Ext S as S' as') : EnvOk K S' as' en σ :=
  ⟨h.len, fun i z q => let ⟨v, h1, h2⟩ := h.at_ i z q; ⟨v, h1, h2.mono e⟩⟩
theorem EnvOk.set {K : PySem.W.Frag} {S : Hp} {as : List Addr} {en : En} {σ : L2.St} (h : EnvOk K S as en σ) {z : Z} {v : V} (q : VZ K S as z v) (i : Nat) : EnvOk K S as (en.set i (some z)) (σ.set i (some v)) := by
  refine ⟨by rw [List.length_set, List.length_set]; exact h.len, fun j y e => ?_⟩
  by_cases hj : i = j
  · subst hj
    by_cases hi : i < en.length
    · rw [List.getElem?_set_self hi] at e
      cases e
      exact ⟨v, List.getElem?_set_self (by rw [h.len]; exact hi), q⟩
    · rw [List.getElem?_eq_none (by rw [List.length_set]; omega)] at e
      cases e
  · rw [List.getElem?_set_ne hj] at e ⊢
    exact h.at_ j y e
theorem EnvOk.forget {K : PySem.W.Frag} {S : Hp} {as : List Addr} {en : En} {σ : L2.St} (h : EnvOk K S as en σ) (i : Nat) : EnvOk K S as (en.set i none) (σ.set i none) := by
  refine ⟨by rw [List.length_set, List.length_set]; exact h.len, fun j y e => ?_⟩
  by_cases hj : i = j
  · subst hj
    by_cases hi : i < en.length
    · rw [List.getElem?_set_self hi] at e
      cases e
    · rw [List.getElem?_eq_none (by rw [List.length_set]; omega)] at e
      cases e
  · rw [List.getElem?_set_ne hj] at e ⊢
    exact h.at_ j y e
/-- slots forgotten -/
def wipeD (en : En) : List Nat → En
  | [] => en
  | i :: is => (wipeD en is).set i none
theorem EnvOk.wipe {K : PySem.W.Frag} {S : Hp} {as : List Addr} {en : En} {σ : L2.St} (h : EnvOk K S as en σ) : ∀ is : List Nat, EnvOk K S as (wipeD en is) (L2.wipe σ is)
  | [] => h
  | i :: is => (EnvOk.wipe h is).forget i

/-! ### the heap's steps -/
section
variable {K : PySem.W.Frag} {S H : Hp} {as : List Addr} {cs : Cs}
theorem CelAt.mono {S' H' : Hp} {a : Addr} (e : Sub S S') (n : S a = none → S' a = none) (k : H' a = H a) : ∀ {c : D}, CelAt K S H a c → CelAt K S' H' a c
  | .lst ds, ⟨h1, vs, h2, h3⟩ => ⟨n h1, vs, k.trans h2, IsL.mono e _ _ h3⟩
  | .dic kvs, ⟨h1, kv, h2, h3⟩ => ⟨n h1, kv, k.trans h2, IsK.mono e _ _ h3⟩
  | .ob _ _ _, ⟨h1, dx, vs, h2, h3, h4, h5⟩ => ⟨n h1, dx, vs, k.trans h2, e _ _ h3, h4, IsL.mono e _ _ h5⟩
  | .scr _, h => h.elim
  | .ty _, h => h.elim
  | .obj _, h => h
  | .non, h => h.elim
  | .bl _, h => h.elim
  | .int _, h => h.elim
  | .str _, h => h.elim
  | .tup _, h => h.elim
/-- a new object that never changes -/
theorem Rep.lay (r : Rep K S H as cs) {p : Addr} (hp : H p = none) (o : HO) : Rep K (upd S p o) (upd H p o) as cs := by
  refine ⟨r.sub.both, r.len, r.nod, fun n a c e1 e2 => ?_, fun a ha => ?_⟩
  · have ne : a ≠ p := fun z => by
      subst z
      exact r.liv a (List.mem_of_getElem? e1) hp
    exact CelAt.mono (Sub.new (r.sub.free hp)) (fun q => by rw [upd_ne ne]; exact q) (upd_ne ne) (r.cel n a c e1 e2)
  · by_cases e : a = p
    · subst e; rw [upd_same]; exact fun z => nomatch z
    · rw [upd_ne e]; exact r.liv a ha
theorem Rep.ext (r : Rep K S H as cs) {p : Addr} (hp : H p = none) (o : HO) : Ext S as (upd S p o) as := Ext.of (Sub.new (r.sub.free hp))
/-- a new cell -/
theorem Rep.cell (r : Rep K S H as cs) {p : Addr} (hp : H p = none) {o : HO} {c : D} (h : CelAt K S (upd H p o) p c) : Rep K S (upd H p o) (as ++ [p]) (cs ++ [c]) := by
  have hS := r.sub.free hp
  have np : p ∉ as := fun z => r.liv p z hp
  refine ⟨r.sub.other hS, by rw [List.length_append, List.length_append, r.len]; rfl, ?_, fun n a d e1 e2 => ?_, fun a ha => ?_⟩
  · exact List.nodup_append.mpr ⟨r.nod, by simp, fun x hx y hy => by
      have hy' : y = p := by simpa using hy
      subst hy'
      exact fun z => np (z ▸ hx)⟩
  · by_cases hn : n < as.length
    · rw [List.getElem?_append_left hn] at e1
      rw [List.getElem?_append_left (by rw [← r.len]; exact hn)] at e2
      have ne : a ≠ p := fun z => np (z ▸ List.mem_of_getElem? e1)
      exact CelAt.mono (Sub.refl S) (fun q => q) (upd_ne ne) (r.cel n a d e1 e2)
    · rw [List.getElem?_append_right (by omega)] at e1
      rw [List.getElem?_append_right (by rw [← r.len]; omega)] at e2
      rw [← r.len] at e2
      have hz : n - as.length = 0 := by
        have := (List.getElem?_eq_some_iff.mp e1).1
        simp at this
        omega
      rw [hz] at e1 e2
      cases e1
      cases e2
      exact h
  · rcases List.mem_append.mp ha with ha | ha
    · by_cases e : a = p
      · subst e; rw [upd_same]; exact fun z => nomatch z
      · rw [upd_ne e]; exact r.liv a ha
    · have : a = p := by simpa using ha
      subst this
      rw [upd_same]
      exact fun z => nomatch z
/-- a cell is written -/
theorem Rep.put (r : Rep K S H as cs) {n : Nat} {a : Addr} (hn : as[n]? = some a) {o : HO} {c : D} (h : CelAt K S (upd H a o) a c) (hS : S a = none) : Rep K S (upd H a o) as (cs.set n c) := by
  refine ⟨r.sub.other hS, by rw [List.length_set]; exact r.len, r.nod, fun m b d e1 e2 => ?_, fun b hb => ?_⟩
  · by_cases hm : n = m
    · subst hm
      rw [hn] at e1; cases e1
      have hl : n < cs.length := by rw [← r.len]; exact (List.getElem?_eq_some_iff.mp hn).1
      rw [List.getElem?_set_self hl] at e2; cases e2
      exact h
    · rw [List.getElem?_set_ne hm] at e2
      have ne : b ≠ a := fun z => by
        subst z
        exact hm (nd_ix r.nod hn e1)
      exact CelAt.mono (Sub.refl S) (fun q => q) (upd_ne ne) (r.cel m b d e1 e2)
  · by_cases e : b = a
    · subst e; rw [upd_same]; exact fun z => nomatch z
    · rw [upd_ne e]; exact r.liv b hb
/-- the last cells forgotten -/
theorem Rep.take (r : Rep K S H as cs) (n : Nat) : Rep K S H (as.take n) (cs.take n) := by
  refine ⟨r.sub, by rw [List.length_take, List.length_take, r.len], r.nod.sublist (List.take_sublist _ _), fun m b d e1 e2 => ?_, fun b hb => r.liv b (List.mem_of_mem_take hb)⟩
  rw [List.getElem?_take] at e1 e2
  split at e1
  · rename_i hm
    rw [if_pos hm] at e2
    exact r.cel m b d e1 e2
  · cases e1
theorem Ext.take {S S' : Hp} {as as' : List Addr} (e : Ext S as S' as') : Ext S as S' (as'.take as.length) := by
  obtain ⟨m, rfl⟩ := e.pre
  exact ⟨e.sub, [], by rw [List.take_left, List.append_nil]⟩
end

/-! ### lists of data -/
section
variable {K : PySem.W.Frag} {S : Hp}
theorem IsL.len : ∀ {ds : List D} {vs : List V}, IsL K S ds vs → vs.length = ds.length
  | [], _, h => by rw [IsL] at h; rw [h]; rfl
  | _ :: _, _, h => by
    obtain ⟨v, r, h1, h2, h3⟩ := h
    rw [h1, List.length_cons, List.length_cons, IsL.len h3]
theorem IsL.get : ∀ {ds : List D} {vs : List V} {i : Nat} {d : D}, IsL K S ds vs → ds[i]? = some d → ∃ v, vs[i]? = some v ∧ Is K S d v
  | [], _, _, _, _, e => by simp at e
  | _ :: _, _, 0, _, h, e => by
    obtain ⟨v, r, h1, h2, h3⟩ := h
    have e' := Option.some.inj e
    subst e' h1
    exact ⟨v, rfl, h2⟩
  | _ :: _, _, i + 1, _, h, e => by
    obtain ⟨v, r, h1, h2, h3⟩ := h
    subst h1
    exact IsL.get (i := i) h3 e
theorem IsL.back : ∀ {ds : List D} {vs : List V} {i : Nat} {v : V}, IsL K S ds vs → vs[i]? = some v → ∃ d, ds[i]? = some d ∧ Is K S d v
  | [], _, _, _, h, e => by rw [IsL] at h; rw [h] at e; simp at e
  | d :: _, _, 0, _, h, e => by
    obtain ⟨v, r, h1, h2, h3⟩ := h
    subst h1
    have e' := Option.some.inj e
    subst e'
    exact ⟨d, rfl, h2⟩
  | _ :: _, _, i + 1, _, h, e => by
    obtain ⟨v, r, h1, h2, h3⟩ := h
    subst h1
    exact IsL.back (i := i) h3 e
theorem IsL.append : ∀ {ds es : List D} {vs us : List V}, IsL K S ds vs → IsL K S es us → IsL K S (ds ++ es) (vs ++ us)
  | [], _, _, _, h, g => by rw [IsL] at h; rw [h]; exact g
  | _ :: _, _, _, _, h, g => by
    obtain ⟨v, r, h1, h2, h3⟩ := h
    subst h1
    exact ⟨v, _, rfl, h2, IsL.append h3 g⟩
theorem IsL.set : ∀ {ds : List D} {vs : List V} {i : Nat} {d : D} {v : V}, IsL K S ds vs → Is K S d v → IsL K S (ds.set i d) (vs.set i v)
  | [], _, _, _, _, h, _ => by rw [IsL] at h; rw [h]; exact rfl
  | _ :: _, _, 0, _, _, h, g => by
    obtain ⟨v, r, h1, h2, h3⟩ := h
    subst h1
    exact ⟨_, r, rfl, g, h3⟩
  | _ :: _, _, i + 1, _, _, h, g => by
    obtain ⟨v, r, h1, h2, h3⟩ := h
    subst h1
    exact ⟨v, _, rfl, h2, IsL.set (i := i) h3 g⟩
theorem IsL.take : ∀ {ds : List D} {vs : List V} (n : Nat), IsL K S ds vs → IsL K S (ds.take n) (vs.take n)
  | _, _, 0, _ => rfl
  | [], _, n + 1, h => by rw [IsL] at h; rw [h]; exact rfl
  | _ :: _, _, n + 1, h => by
    obtain ⟨v, r, h1, h2, h3⟩ := h
    subst h1
    exact ⟨v, _, rfl, h2, IsL.take n h3⟩
theorem IsL.drop : ∀ {ds : List D} {vs : List V} (n : Nat), IsL K S ds vs → IsL K S (ds.drop n) (vs.drop n)
  | _, _, 0, h => h
  | [], _, n + 1, h => by rw [IsL] at h; rw [h]; exact rfl
  | _ :: _, _, n + 1, h => by
    obtain ⟨v, r, h1, h2, h3⟩ := h
    subst h1
    exact IsL.drop n h3
theorem IsL.rev : ∀ {ds : List D} {vs : List V}, IsL K S ds vs → IsL K S ds.reverse vs.reverse
  | [], _, h => by rw [IsL] at h; rw [h]; exact rfl
  | _ :: _, _, h => by
    obtain ⟨v, r, h1, h2, h3⟩ := h
    subst h1
    rw [List.reverse_cons, List.reverse_cons]
    exact (IsL.rev h3).append ⟨v, [], rfl, h2, rfl⟩
theorem IsL.ints : ∀ {ns : List Int} {vs : List V}, IsL K S (ns.map D.int) vs → vs = ns.map V.int
  | [], _, h => h
  | n :: ns, _, h => by
    obtain ⟨v, r, h1, h2, h3⟩ := h
    rw [h1, List.map_cons, IsL.ints h3]
    rw [Is] at h2
    rw [h2]
theorem isL_ints : ∀ (ns : List Int), IsL K S (ns.map D.int) (ns.map V.int)
  | [] => rfl
  | n :: ns => ⟨.int n, _, rfl, rfl, isL_ints ns⟩
theorem IsL.bls : ∀ {ns : List Bool} {vs : List V}, IsL K S (ns.map D.bl) vs → vs = ns.map V.bl
  | [], _, h => h
  | n :: ns, _, h => by
    obtain ⟨v, r, h1, h2, h3⟩ := h
    rw [h1, List.map_cons, IsL.bls h3]
    rw [Is] at h2
    rw [h2]
theorem IsL.rep : ∀ {ds : List D} {vs : List V} (n : Nat), IsL K S ds vs → IsL K S (List.replicate n ds).flatten (List.replicate n vs).flatten
  | _, _, 0, _ => rfl
  | ds, vs, n + 1, h => by
    rw [List.replicate_succ, List.replicate_succ, List.flatten_cons, List.flatten_cons]
    exact h.append (IsL.rep n h)
end
/-! ### dicts -/
def getK (kvs : List (Key × D)) (k : Key) : Option D := (kvs.find? fun kv => decide (kv.1 = k)).map (·.2)
def setK (kvs : List (Key × D)) (k : Key) (d : D) : List (Key × D) := if (kvs.any fun kv => decide (kv.1 = k)) = true then kvs.map fun kv => if kv.1 = k then (kv.1, d) else kv else kvs ++ [(k, d)]
end DL
set_option Elab.async false
set_option linter.all false
set_option maxRecDepth 100000
set_option maxHeartbeats 2000000
namespace DL
open PySem L2

/-! ### what a reading over data says of a reading over values -/
def PQ (K : PySem.W.Frag) (S : Hp) (as : List Addr) (k : Z → Cs → Prop) (Q : VK) : Prop :=
  ∀ (z : Z) (v : V) (S' H' : Hp) (as' : List Addr) (cs' : Cs), Ext S as S' as' → Rep K S' H' as' cs' → VZ K S' as' z v → k z cs' → Q v H'
def PB (K : PySem.W.Frag) (S : Hp) (as : List Addr) (k : Bool → Cs → Prop) (Q : Bool → Hp → Prop) : Prop :=
  ∀ (b : Bool) (S' H' : Hp) (as' : List Addr) (cs' : Cs), Ext S as S' as' → Rep K S' H' as' cs' → k b cs' → Q b H'
def PL (K : PySem.W.Frag) (S : Hp) (as : List Addr) (k : List Z → Cs → Prop) (Q : List V → Hp → Prop) : Prop :=
  ∀ (zs : List Z) (vs : List V) (S' H' : Hp) (as' : List Addr) (cs' : Cs), Ext S as S' as' → Rep K S' H' as' cs' → VZL K S' as' zs vs → k zs cs' → Q vs H'
def SemE (K : PySem.W.Frag) (te : TE) (t : DE) : Prop :=
  ∀ (σ : L2.St) (H S : Hp) (as : List Addr) (en : En) (cs : Cs) (k : Z → Cs → Prop) (Q : VK), Rep K S H as cs → EnvOk K S as en σ → t en cs k → PQ K S as k Q → te σ H Q
def SemT (K : PySem.W.Frag) (tt : TT) (t : DT) : Prop :=
  ∀ (σ : L2.St) (H S : Hp) (as : List Addr) (en : En) (cs : Cs) (k : Bool → Cs → Prop) (Q : Bool → Hp → Prop), Rep K S H as cs → EnvOk K S as en σ → t en cs k → PB K S as k Q → tt σ H Q
def SemA (K : PySem.W.Frag) (ta : TA) (t : DA) : Prop :=
  ∀ (σ : L2.St) (H S : Hp) (as : List Addr) (en : En) (cs : Cs) (k : List Z → Cs → Prop) (Q : List V → Hp → Prop), Rep K S H as cs → EnvOk K S as en σ → t en cs k → PL K S as k Q → ta σ H Q
structure QE (X : Cx) (e : Expr) (te : TE) (t : DE) : Prop where
  pe : PE X e te
  sem : SemE X.K te t
structure QT (X : Cx) (e : Expr) (tt : TT) (t : DT) : Prop where
  pt : PT X e tt
  sem : SemT X.K tt t
structure QA (X : Cx) (es : List Expr) (ta : TA) (t : DA) : Prop where
  pa : PA X es ta
  sem : SemA X.K ta t

section
variable {K : PySem.W.Frag} {S T H : Hp} {as bs : List Addr} {cs : Cs}
theorem PQ.mono {k : Z → Cs → Prop} {Q : VK} (e : Ext S as T bs) (h : PQ K S as k Q) : PQ K T bs k Q := fun z v S' H' as' cs' e' => h z v S' H' as' cs' (e.trans e')
theorem PB.mono {k : Bool → Cs → Prop} {Q : Bool → Hp → Prop} (e : Ext S as T bs) (h : PB K S as k Q) : PB K T bs k Q := fun b S' H' as' cs' e' => h b S' H' as' cs' (e.trans e')
theorem PL.mono {k : List Z → Cs → Prop} {Q : List V → Hp → Prop} (e : Ext S as T bs) (h : PL K S as k Q) : PL K T bs k Q := fun z v S' H' as' cs' e' => h z v S' H' as' cs' (e.trans e')
theorem SemE.use {te : TE} {t : DE} (h : SemE K te t) {σ : L2.St} {en : En} {k : Z → Cs → Prop} {Q : VK} (r : Rep K S H as cs) (e : EnvOk K S as en σ) (q : t en cs k) (p : PQ K S as k Q) : te σ H Q := h σ H S as en cs k Q r e q p
end

/-! ### what a Z holds, for an operation -/
def withD (cs : Cs) (z : Z) (k : D → Prop) : Prop :=
  match z with
  | .d x => k x
  | .c n => match cs[n]? with
    | some x => k x
    | none => False
theorem withD_look {cs : Cs} {z : Z} {k : D → Prop} (h : withD cs z k) : ∃ d, look cs z = some d ∧ k d := by
  cases z with
  | d x => exact ⟨x, rfl, h⟩
  | c n =>
    have h' : (match cs[n]? with
      | some x => k x
      | none => False) := h
    show ∃ d, cs[n]? = some d ∧ k d
    cases e : cs[n]? with
    | none => rw [e] at h'; exact h'.elim
    | some x => rw [e] at h'; exact ⟨x, rfl, h'⟩
def withL (cs : Cs) : List Z → (List D → Prop) → Prop
  | [], k => k []
  | z :: zs, k => withD cs z fun x => withL cs zs fun xs => k (x :: xs)
/-- plain data, no cell -/
def datL : List Z → (List D → Prop) → Prop
  | [], k => k []
  | .d x :: zs, k => datL zs fun xs => k (x :: xs)
  | .c _ :: _, _ => False
def ShL (K : PySem.W.Frag) (S H : Hp) : List D → List V → Prop
  | [], vs => vs = []
  | d :: ds, vs => ∃ v r, vs = v :: r ∧ Sh K S H d v ∧ ShL K S H ds r
section
variable {K : PySem.W.Frag} {S H : Hp} {as : List Addr} {cs : Cs}
theorem withL_sh (r : Rep K S H as cs) : ∀ {zs : List Z} {vs : List V} {k : List D → Prop}, VZL K S as zs vs → withL cs zs k → ∃ ds, ShL K S H ds vs ∧ k ds
  | [], _, _, h, q => by rw [h]; exact ⟨[], rfl, q⟩
  | z :: zs, _, _, ⟨v, vr, h1, h2, h3⟩, q => by
    obtain ⟨d, e, q⟩ := withD_look q
    obtain ⟨ds, s, q⟩ := withL_sh r h3 q
    exact ⟨d :: ds, ⟨v, vr, h1, look_sh r h2 e, s⟩, q⟩
theorem datL_is : ∀ {zs : List Z} {vs : List V} {k : List D → Prop}, VZL K S as zs vs → datL zs k → ∃ ds, IsL K S ds vs ∧ k ds
  | [], _, _, h, q => by rw [h]; exact ⟨[], rfl, q⟩
  | .d x :: zs, _, _, ⟨v, vr, h1, h2, h3⟩, q => by
    obtain ⟨ds, s, q⟩ := datL_is h3 q
    exact ⟨x :: ds, ⟨v, vr, h1, h2, s⟩, q⟩
  | .c _ :: _, _, _, _, q => q.elim
end

/-! ### names, constants -/
def dVar (i : Nat) : DE := fun en cs k =>
  match en[i]? with
  | some (some z) => k z cs
  | _ => False
def dC (x : D) : DE := fun _ cs k => k (.d x) cs
section
variable {X : Cx} {pos : Pos}
theorem sem_var {K : PySem.W.Frag} (i : Nat) : SemE K (tVar i) (dVar i) := by
  intro σ H S as en cs k Q r e h p
  unfold dVar at h
  split at h
  · rename_i z hz
    obtain ⟨v, h1, h2⟩ := e.at_ i z hz
    exact ⟨v, h1, p z v S H as cs Ext.refl r h2 h⟩
  · exact h.elim
theorem sem_c {K : PySem.W.Frag} {x : D} {v : V} (h : ∀ S, Is K S x v) : SemE K (tC v) (dC x) := fun σ H S as en cs k Q r e q p => p (.d x) v S H as cs Ext.refl r (h S) q
theorem qv (i : Nat) {x : Str} (hN : X.N[i]? = some x := by rfl) (hv : Vis X.env.scope x := by first | exact Or.inl rfl | exact Or.inr (Or.inl rfl) | exact Or.inr (Or.inr rfl)) (hd : (x == ("__debug__" : Str)) = false := by decide)
    (hcd : (x == ("__classdict__" : Str)) = false := by decide) : QE X (.Name x pos) (tVar i) (dVar i) := ⟨pe_var hN hv hd hcd, sem_var i⟩
theorem q_int {i : Int} {j} : QE X (.Constant (.int i) j pos) (tC (.int i)) (dC (.int i)) := ⟨pe_int, sem_c fun _ => rfl⟩
theorem q_bl {b : Bool} {j} : QE X (.Constant (.bool b) j pos) (tC (.bl b)) (dC (.bl b)) := ⟨pe_bl, sem_c fun _ => rfl⟩
theorem q_non {j} : QE X (.Constant .none j pos) (tC .non) (dC .non) := ⟨pe_non, sem_c fun _ => rfl⟩
theorem q_str {x : Str} {j} : QE X (.Constant (.str x) j pos) (tC (.str x)) (dC (.str x)) := ⟨pe_str, sem_c fun _ => rfl⟩
/-- a module's int -/
theorem q_gint {x : Str} {n : Int} (hm : ∃ t, X.mg x = some (.int n t)) (hg : Gl X x := by rfl) (hd : (x == ("__debug__" : Str)) = false := by decide) : QE X (.Name x pos) (tC (.int n)) (dC (.int n)) := by
  obtain ⟨t, h⟩ := hm
  exact ⟨pe_glob hg h ⟨t, rfl⟩ hd, sem_c fun _ => rfl⟩

/-! ### two-place operations -/
def Op2 (K : PySem.W.Frag) (r : R2) (f : D → D → (D → Prop) → Prop) : Prop :=
  ∀ (S H : Hp) (as : List Addr) (cs : Cs) (dx dy : D) (x y : V) (k : D → Prop) (Q : VK), Rep K S H as cs → Sh K S H dx x → Sh K S H dy y → f dx dy k →
    (∀ (z : D) (v : V) (S' H' : Hp), Sub S S' → Rep K S' H' as cs → Is K S' z v → k z → Q v H') → r x y H Q
def dOp (f : D → D → (D → Prop) → Prop) (a b : DE) : DE := fun en cs k => a en cs fun x cs1 => b en cs1 fun y cs2 => withD cs2 x fun dx => withD cs2 y fun dy => f dx dy fun z => k (.d z) cs2
theorem sem_op {K : PySem.W.Frag} {r : R2} {f : D → D → (D → Prop) → Prop} {ta tb : TE} {da db : DE} (h : Op2 K r f) (ha : SemE K ta da) (hb : SemE K tb db) : SemE K (tOp r ta tb) (dOp f da db) := by
  intro σ H S as en cs k Q rp e q p
  refine ha.use rp e q fun z v S1 H1 as1 cs1 e1 r1 v1 q1 => ?_
  refine hb.use r1 (e.mono e1) q1 fun z2 v2 S2 H2 as2 cs2 e2 r2 w2 q2 => ?_
  obtain ⟨dx, l1, q2⟩ := withD_look q2
  obtain ⟨dy, l2, q2⟩ := withD_look q2
  refine h S2 H2 as2 cs2 dx dy v v2 _ Q r2 (look_sh r2 (v1.mono e2) l1) (look_sh r2 w2 l2) q2 fun z w S' H' s' r' i' k' => ?_
  exact p (.d z) w S' H' as2 cs2 ((e1.trans e2).trans (Ext.of s')) r' i' k'
theorem q_op {op : Operator} {r : R2} {f : D → D → (D → Prop) → Prop} {a b : Expr} {ta tb : TE} {da db : DE} (ho : OpR X (binaryOp op) r) (h : Op2 X.K r f) (ha : QE X a ta da) (hb : QE X b tb db) : QE X (.BinOp a op b pos) (tOp r ta tb) (dOp f da db) :=
  ⟨pe_op ho ha.pe hb.pe, sem_op h ha.sem hb.sem⟩
theorem q_cmp {op : CmpOp} {r : R2} {f : D → D → (D → Prop) → Prop} {a b : Expr} {ta tb : TE} {da db : DE} (ho : OpR X (compareOp op) r) (h : Op2 X.K r f) (ha : QE X a ta da) (hb : QE X b tb db) (hm : behindInMarks op b = false) : QE X (.Compare a [op] [b] pos) (tOp r ta tb) (dOp f da db) :=
  ⟨pe_cmpR ho ha.pe hb.pe hm, sem_op h ha.sem hb.sem⟩
theorem q_ix {r : R2} {f : D → D → (D → Prop) → Prop} {a b : Expr} {ta tb : TE} {da db : DE} (ho : IxR X r) (h : Op2 X.K r f) (ha : QE X a ta da) (hb : QE X b tb db) (hs : PlainIx b) : QE X (.Subscript a b pos) (tOp r ta tb) (dOp f da db) :=
  ⟨pe_ix ho ha.pe hb.pe hs, sem_op h ha.sem hb.sem⟩
/-- a op b op' c -/
def dChain (f g : D → D → (D → Prop) → Prop) (a b c : DE) : DE := fun en cs k => a en cs fun x cs1 => b en cs1 fun y cs2 => withD cs2 x fun dx => withD cs2 y fun dy => f dx dy fun z => ∃ q, z = .bl q ∧
  if q = true then c en cs2 fun w cs3 => withD cs3 y fun dy => withD cs3 w fun dw => g dy dw fun z => k (.d z) cs3 else k (.d (.bl false)) cs2
theorem q_chain {op op' : CmpOp} {r r' : R2} {f g : D → D → (D → Prop) → Prop} {a b c : Expr} {ta tb tc : TE} {da db dc : DE} (ho : OpR X (compareOp op) r) (ho' : OpR X (compareOp op') r') (h : Op2 X.K r f) (h' : Op2 X.K r' g) (ha : QE X a ta da) (hb : QE X b tb db) (hc : QE X c tc dc) (hm : lastMarks [op, op'] [b, c] = false := by with_unfolding_all rfl) :
    QE X (.Compare a [op, op'] [b, c] pos) (tChain r r' ta tb tc) (dChain f g da db dc) := by
  refine ⟨pe_chain ho ho' ha.pe hb.pe hc.pe (hm := hm), ?_⟩
  intro σ H S as en cs k Q rp e q p
  refine ha.sem.use rp e q fun z v S1 H1 as1 cs1 e1 r1 v1 q1 => ?_
  refine hb.sem.use r1 (e.mono e1) q1 fun z2 v2 S2 H2 as2 cs2 e2 r2 w2 q2 => ?_
  obtain ⟨dx, l1, q2⟩ := withD_look q2
  obtain ⟨dy, l2, q2⟩ := withD_look q2
  refine h S2 H2 as2 cs2 dx dy v v2 _ _ r2 (look_sh r2 (v1.mono e2) l1) (look_sh r2 w2 l2) q2 fun z w S3 H3 s3 r3 i3 k3 => ?_
  obtain ⟨b, eb, k3⟩ := k3
  subst eb
  refine ⟨b, i3, ?_⟩
  cases b with
  | true =>
    rw [if_pos rfl] at k3 ⊢
    have e3 : Ext S2 as2 S3 as2 := Ext.of s3
    refine hc.sem.use r3 ((e.mono (e1.trans e2)).mono e3) k3 fun z4 v4 S4 H4 as4 cs4 e4 r4 w4 q4 => ?_
    obtain ⟨dy', l3, q4⟩ := withD_look q4
    obtain ⟨dw, l4, q4⟩ := withD_look q4
    refine h' S4 H4 as4 cs4 dy' dw v2 v4 _ Q r4 (look_sh r4 (w2.mono (e3.trans e4)) l3) (look_sh r4 w4 l4) q4 fun z w S' H' s' r' i' k' => ?_
    exact p (.d z) w S' H' as4 cs4 ((((e1.trans e2).trans e3).trans e4).trans (Ext.of s')) r' i' k'
  | false =>
    rw [if_neg Bool.false_ne_true] at k3 ⊢
    exact p (.d (.bl false)) (.bl false) S3 H3 as2 cs2 ((e1.trans e2).trans (Ext.of s3)) r3 rfl k3
/-- -a -/
def Op1 (K : PySem.W.Frag) (r : V → Hp → VK → Prop) (f : D → (D → Prop) → Prop) : Prop :=
  ∀ (S H : Hp) (as : List Addr) (cs : Cs) (dx : D) (x : V) (k : D → Prop) (Q : VK), Rep K S H as cs → Sh K S H dx x → f dx k →
    (∀ (z : D) (v : V) (S' H' : Hp), Sub S S' → Rep K S' H' as cs → Is K S' z v → k z → Q v H') → r x H Q
def dUn (f : D → (D → Prop) → Prop) (a : DE) : DE := fun en cs k => a en cs fun x cs1 => withD cs1 x fun dx => f dx fun z => k (.d z) cs1
theorem sem_un {K : PySem.W.Frag} {r : V → Hp → VK → Prop} {f : D → (D → Prop) → Prop} {ta : TE} {da : DE} (h : Op1 K r f) (ha : SemE K ta da) : SemE K (tUn r ta) (dUn f da) := by
  intro σ H S as en cs k Q rp e q p
  refine ha.use rp e q fun z v S1 H1 as1 cs1 e1 r1 v1 q1 => ?_
  obtain ⟨dx, l1, q1⟩ := withD_look q1
  refine h S1 H1 as1 cs1 dx v _ Q r1 (look_sh r1 v1 l1) q1 fun z w S' H' s' r' i' k' => ?_
  exact p (.d z) w S' H' as1 cs1 (e1.trans (Ext.of s')) r' i' k'
theorem q_un {op : UnaryOp} {r : V → Hp → VK → Prop} {f : D → (D → Prop) → Prop} {a : Expr} {ta : TE} {da : DE} (ho : UnR X (unaryOp op) r) (h : Op1 X.K r f) (ha : QE X a ta da) : QE X (.UnaryOp op a pos) (tUn r ta) (dUn f da) := ⟨pe_un ho ha.pe, sem_un h ha.sem⟩

/-! ### tests -/
/-- an expression whose value is a bool, as a test -/
def dB (a : DE) : DT := fun en cs k => a en cs fun x cs1 => ∃ b, x = .d (.bl b) ∧ k b cs1
theorem q_val {a : Expr} {ta : TE} {da : DE} (ha : QE X a ta da) (he : ∀ whole, isTrue a X.env whole = (do let v ← whole; standAt a.pos; holding [v] (truthy v)) := by intro _; rfl) : QT X a (tB ta) (dB da) := by
  refine ⟨pt_val ha.pe he, ?_⟩
  intro σ H S as en cs k Q rp e q p
  refine ha.sem.use rp e q fun z v S1 H1 as1 cs1 e1 r1 v1 q1 => ?_
  obtain ⟨b, rfl, q1⟩ := q1
  exact ⟨b, v1, p b S1 H1 as1 cs1 e1 r1 q1⟩
theorem q_cmpT {op : CmpOp} {r : R2} {f : D → D → (D → Prop) → Prop} {a b : Expr} {ta tb : TE} {da db : DE} (ho : OpR X (compareOp op) r) (h : Op2 X.K r f) (ha : QE X a ta da) (hb : QE X b tb db) (hm : behindInMarks op b = false) : QT X (.Compare a [op] [b] pos) (tTest (tOp r ta tb)) (dB (dOp f da db)) := by
  refine ⟨pt_cmpR ho ha.pe hb.pe hm, ?_⟩
  intro σ H S as en cs k Q rp e q p
  refine (sem_op h ha.sem hb.sem).use rp e q fun z v S1 H1 as1 cs1 e1 r1 v1 q1 => ?_
  obtain ⟨b, rfl, q1⟩ := q1
  exact ⟨b, v1, p b S1 H1 as1 cs1 e1 r1 q1⟩
theorem q_chainT {op op' : CmpOp} {r r' : R2} {f g : D → D → (D → Prop) → Prop} {a b c : Expr} {ta tb tc : TE} {da db dc : DE} (ho : OpR X (compareOp op) r) (ho' : OpR X (compareOp op') r') (h : Op2 X.K r f) (h' : Op2 X.K r' g) (ha : QE X a ta da) (hb : QE X b tb db) (hc : QE X c tc dc) (hm : lastMarks [op, op'] [b, c] = false := by with_unfolding_all rfl) :
    QT X (.Compare a [op, op'] [b, c] pos) (tTest (tChain r r' ta tb tc)) (dB (dChain f g da db dc)) := by
  refine ⟨pt_chain ho ho' ha.pe hb.pe hc.pe (hm := hm), ?_⟩
  intro σ H S as en cs k Q rp e q p
  refine (q_chain (pos := pos) ho ho' h h' ha hb hc hm).sem.use rp e q fun z v S1 H1 as1 cs1 e1 r1 v1 q1 => ?_
  obtain ⟨b, rfl, q1⟩ := q1
  exact ⟨b, v1, p b S1 H1 as1 cs1 e1 r1 q1⟩
def dNot (t : DT) : DT := fun en cs k => t en cs fun b cs1 => k (!b) cs1
theorem q_notT {a : Expr} {ta : TT} {da : DT} (ha : QT X a ta da) : QT X (.UnaryOp .Not a pos) (tNot ta) (dNot da) := by
  refine ⟨pt_not ha.pt, ?_⟩
  intro σ H S as en cs k Q rp e q p
  exact ha.sem σ H S as en cs _ _ rp e q fun b S1 H1 as1 cs1 e1 r1 q1 => p (!b) S1 H1 as1 cs1 e1 r1 q1
/-- and, or within a test -/
structure QW (X : Cx) (e : Expr) (tt : TT) (t : DT) : Prop where
  pw : PW X e tt
  sem : SemT X.K tt t
theorem QW.t {e : Expr} {tt : TT} {t : DT} (h : QW X e tt t) : QT X e tt t := ⟨h.pw.pt, h.sem⟩
def dAnd (t u : DT) : DT := fun en cs k => t en cs fun b cs1 => if b = true then u en cs1 k else k false cs1
def dOr (t u : DT) : DT := fun en cs k => t en cs fun b cs1 => if b = true then k true cs1 else u en cs1 k
theorem q_and1 {a : Expr} {ta : TT} {da : DT} (ha : QT X a ta da) : QW X (.BoolOp .And [a] pos) ta da := ⟨pw_and1 ha.pt, ha.sem⟩
theorem q_or1 {a : Expr} {ta : TT} {da : DT} (ha : QT X a ta da) : QW X (.BoolOp .Or [a] pos) ta da := ⟨pw_or1 ha.pt, ha.sem⟩
theorem q_andT {a b : Expr} {rest : List Expr} {ta tb : TT} {da db : DT} (ha : QT X a ta da) (hb : QW X (.BoolOp .And (b :: rest) pos) tb db) : QW X (.BoolOp .And (a :: b :: rest) pos) (tAnd ta tb) (dAnd da db) := by
  refine ⟨pw_and ha.pt hb.pw, ?_⟩
  intro σ H S as en cs k Q rp e q p
  refine ha.sem σ H S as en cs _ _ rp e q fun b S1 H1 as1 cs1 e1 r1 q1 => ?_
  cases b with
  | true =>
    rw [if_pos rfl] at q1 ⊢
    exact hb.sem σ H1 S1 as1 en cs1 k Q r1 (e.mono e1) q1 (p.mono e1)
  | false =>
    rw [if_neg Bool.false_ne_true] at q1 ⊢
    exact p false S1 H1 as1 cs1 e1 r1 q1
theorem q_orT {a b : Expr} {rest : List Expr} {ta tb : TT} {da db : DT} (ha : QT X a ta da) (hb : QW X (.BoolOp .Or (b :: rest) pos) tb db) : QW X (.BoolOp .Or (a :: b :: rest) pos) (tOr ta tb) (dOr da db) := by
  refine ⟨pw_or ha.pt hb.pw, ?_⟩
  intro σ H S as en cs k Q rp e q p
  refine ha.sem σ H S as en cs _ _ rp e q fun b S1 H1 as1 cs1 e1 r1 q1 => ?_
  cases b with
  | true =>
    rw [if_pos rfl] at q1 ⊢
    exact p true S1 H1 as1 cs1 e1 r1 q1
  | false =>
    rw [if_neg Bool.false_ne_true] at q1 ⊢
    exact hb.sem σ H1 S1 as1 en cs1 k Q r1 (e.mono e1) q1 (p.mono e1)
/-- and, or, not as values: all but the last a bool -/
def dAndV (a b : DE) : DE := fun en cs k => a en cs fun x cs1 => ∃ c, x = .d (.bl c) ∧ if c = true then b en cs1 k else k (.d (.bl false)) cs1
def dOrV (a b : DE) : DE := fun en cs k => a en cs fun x cs1 => ∃ c, x = .d (.bl c) ∧ if c = true then k (.d (.bl true)) cs1 else b en cs1 k
def dNotV (a : DE) : DE := fun en cs k => a en cs fun x cs1 => ∃ c, x = .d (.bl c) ∧ k (.d (.bl (!c))) cs1
theorem q_one {op : BoolOp} {a : Expr} {ta : TE} {da : DE} (ha : QE X a ta da) : QE X (.BoolOp op [a] pos) ta da := ⟨pe_one ha.pe, ha.sem⟩
theorem q_and {a b : Expr} {rest : List Expr} {ta tb : TE} {da db : DE} (ha : QE X a ta da) (hb : QE X (.BoolOp .And (b :: rest) pos) tb db) : QE X (.BoolOp .And (a :: b :: rest) pos) (tAndV ta tb) (dAndV da db) := by
  refine ⟨pe_and ha.pe hb.pe, ?_⟩
  intro σ H S as en cs k Q rp e q p
  refine ha.sem.use rp e q fun z v S1 H1 as1 cs1 e1 r1 v1 q1 => ?_
  obtain ⟨c, rfl, q1⟩ := q1
  refine ⟨c, v1, ?_⟩
  cases c with
  | true =>
    rw [if_pos rfl] at q1 ⊢
    exact hb.sem.use r1 (e.mono e1) q1 (p.mono e1)
  | false =>
    rw [if_neg Bool.false_ne_true] at q1 ⊢
    exact p (.d (.bl false)) (.bl false) S1 H1 as1 cs1 e1 r1 rfl q1
theorem q_or {a b : Expr} {rest : List Expr} {ta tb : TE} {da db : DE} (ha : QE X a ta da) (hb : QE X (.BoolOp .Or (b :: rest) pos) tb db) : QE X (.BoolOp .Or (a :: b :: rest) pos) (tOrV ta tb) (dOrV da db) := by
  refine ⟨pe_or ha.pe hb.pe, ?_⟩
  intro σ H S as en cs k Q rp e q p
  refine ha.sem.use rp e q fun z v S1 H1 as1 cs1 e1 r1 v1 q1 => ?_
  obtain ⟨c, rfl, q1⟩ := q1
  refine ⟨c, v1, ?_⟩
  cases c with
  | true =>
    rw [if_pos rfl] at q1 ⊢
    exact p (.d (.bl true)) (.bl true) S1 H1 as1 cs1 e1 r1 rfl q1
  | false =>
    rw [if_neg Bool.false_ne_true] at q1 ⊢
    exact hb.sem.use r1 (e.mono e1) q1 (p.mono e1)
theorem q_not {a : Expr} {ta : TE} {da : DE} (ha : QE X a ta da) : QE X (.UnaryOp .Not a pos) (tNotV ta) (dNotV da) := by
  refine ⟨pe_not ha.pe, ?_⟩
  intro σ H S as en cs k Q rp e q p
  refine ha.sem.use rp e q fun z v S1 H1 as1 cs1 e1 r1 v1 q1 => ?_
  obtain ⟨c, rfl, q1⟩ := q1
  exact ⟨c, v1, p (.d (.bl (!c))) (.bl (!c)) S1 H1 as1 cs1 e1 r1 rfl q1⟩
/-- a if t else b -/
def dIf (t : DT) (a b : DE) : DE := fun en cs k => t en cs fun c cs1 => if c = true then a en cs1 k else b en cs1 k
theorem q_ifExp {c a b : Expr} {tc : TT} {ta tb : TE} {dc : DT} {da db : DE} (hc : QT X c tc dc) (ha : QE X a ta da) (hb : QE X b tb db) : QE X (.IfExp c a b pos) (tIf tc ta tb) (dIf dc da db) := by
  refine ⟨pe_ifExp hc.pt ha.pe hb.pe, ?_⟩
  intro σ H S as en cs k Q rp e q p
  refine hc.sem σ H S as en cs _ _ rp e q fun b S1 H1 as1 cs1 e1 r1 q1 => ?_
  cases b with
  | true =>
    rw [if_pos rfl] at q1 ⊢
    exact ha.sem.use r1 (e.mono e1) q1 (p.mono e1)
  | false =>
    rw [if_neg Bool.false_ne_true] at q1 ⊢
    exact hb.sem.use r1 (e.mono e1) q1 (p.mono e1)

/-! ### arguments, displays -/
def dNil : DA := fun _ cs k => k [] cs
def dCons (a : DE) (r : DA) : DA := fun en cs k => a en cs fun x cs1 => r en cs1 fun xs cs2 => k (x :: xs) cs2
theorem qa_nil : QA X [] tNil dNil := ⟨pa_nil, fun σ H S as en cs k Q r e q p => p [] [] S H as cs Ext.refl r rfl q⟩
theorem qa_cons {a : Expr} {es : List Expr} {ta : TE} {tr : TA} {da : DE} {dr : DA} (ha : QE X a ta da) (hr : QA X es tr dr) (hs : starEach (a :: es) X.env = (false, eval a X.env) :: starEach es X.env := by rfl) : QA X (a :: es) (tCons ta tr) (dCons da dr) := by
  refine ⟨pa_cons ha.pe hr.pa hs, ?_⟩
  intro σ H S as en cs k Q rp e q p
  refine ha.sem.use rp e q fun z v S1 H1 as1 cs1 e1 r1 v1 q1 => ?_
  refine hr.sem σ H1 S1 as1 en cs1 _ _ r1 (e.mono e1) q1 fun zs vs S2 H2 as2 cs2 e2 r2 w2 q2 => ?_
  exact p (z :: zs) (v :: vs) S2 H2 as2 cs2 (e1.trans e2) r2 ⟨v, vs, rfl, v1.mono e2, w2⟩ q2
def dTup (a : DA) : DE := fun en cs k => a en cs fun zs cs1 => datL zs fun ds => ds.length ≤ LIM ∧ k (.d (.tup ds)) cs1
/-- a list display that will not change; one that will -/
def dLst (a : DA) : DE := fun en cs k => a en cs fun zs cs1 => datL zs fun ds => ds.length ≤ LIM ∧ k (.d (.lst ds)) cs1
def dLstC (a : DA) : DE := fun en cs k => a en cs fun zs cs1 => datL zs fun ds => ds.length ≤ LIM ∧ k (.c cs1.length) (cs1 ++ [.lst ds])
theorem size_of {n : Nat} (h : n ≤ LIM) : n ≤ sizeLine := Nat.le_trans h (by decide)
theorem size_lt {n : Nat} (h : n < LIM) : n < sizeLine := Nat.lt_of_lt_of_le h (by decide)
theorem Rep.get_new {K : PySem.W.Frag} {S H : Hp} {as : List Addr} {cs : Cs} (r : Rep K S H as cs) (p : Addr) : (as ++ [p])[cs.length]? = some p := by
  rw [← r.len, List.getElem?_append_right (Nat.le_refl _), Nat.sub_self]
  rfl
theorem q_tup {es : List Expr} {x1} {ta : TA} {da : DA} (ha : QA X es ta da) : QE X (.Tuple es x1 pos) (tTup ta) (dTup da) := by
  refine ⟨pe_tup ha.pa, ?_⟩
  intro σ H S as en cs k Q rp e q p
  refine ha.sem σ H S as en cs _ _ rp e q fun zs vs S1 H1 as1 cs1 e1 r1 v1 q1 => ?_
  obtain ⟨ds, i, hz, q1⟩ := datL_is v1 q1
  refine ⟨by rw [i.len]; exact size_of hz, fun a na => ?_⟩
  refine p (.d (.tup ds)) (.ref a) _ _ as1 cs1 (e1.trans (r1.ext na (.tup vs))) (r1.lay na _) ⟨a, vs, rfl, SqT.of upd_same, IsL.mono (Sub.new (r1.sub.free na)) _ _ i⟩ q1
theorem q_lst {es : List Expr} {ta : TA} {da : DA} (ha : QA X es ta da) : QE X (.List es pos) (tLst ta) (dLst da) := by
  refine ⟨pe_lst ha.pa, ?_⟩
  intro σ H S as en cs k Q rp e q p
  refine ha.sem σ H S as en cs _ _ rp e q fun zs vs S1 H1 as1 cs1 e1 r1 v1 q1 => ?_
  obtain ⟨ds, i, hz, q1⟩ := datL_is v1 q1
  refine ⟨by rw [i.len]; exact size_of hz, fun a na => ?_⟩
  refine p (.d (.lst ds)) (.ref a) _ _ as1 cs1 (e1.trans (r1.ext na (.lst vs))) (r1.lay na _) ⟨a, vs, rfl, upd_same, IsL.mono (Sub.new (r1.sub.free na)) _ _ i⟩ q1
theorem q_lstC {es : List Expr} {ta : TA} {da : DA} (ha : QA X es ta da) : QE X (.List es pos) (tLst ta) (dLstC da) := by
  refine ⟨pe_lst ha.pa, ?_⟩
  intro σ H S as en cs k Q rp e q p
  refine ha.sem σ H S as en cs _ _ rp e q fun zs vs S1 H1 as1 cs1 e1 r1 v1 q1 => ?_
  obtain ⟨ds, i, hz, q1⟩ := datL_is v1 q1
  refine ⟨by rw [i.len]; exact size_of hz, fun a na => ?_⟩
  refine p (.c cs1.length) (.ref a) S1 _ (as1 ++ [a]) _ (e1.trans ⟨Sub.refl _, [a], rfl⟩) (r1.cell na (c := .lst ds) ⟨r1.sub.free na, vs, upd_same, i⟩) ⟨a, r1.get_new a, rfl⟩ q1

/-! ### calls of built-ins by values -/
def Cl (K : PySem.W.Frag) (r : List V → Hp → VK → Prop) (f : List D → (D → Prop) → Prop) : Prop :=
  ∀ (S H : Hp) (as : List Addr) (cs : Cs) (ds : List D) (vs : List V) (k : D → Prop) (Q : VK), Rep K S H as cs → ShL K S H ds vs → f ds k →
    (∀ (z : D) (v : V) (S' H' : Hp), Sub S S' → Rep K S' H' as cs → Is K S' z v → k z → Q v H') → r vs H Q
def dCB (f : List D → (D → Prop) → Prop) (a : DA) : DE := fun en cs k => a en cs fun zs cs1 => withL cs1 zs fun ds => f ds fun z => k (.d z) cs1
theorem sem_cb {K : PySem.W.Frag} {r : List V → Hp → VK → Prop} {f : List D → (D → Prop) → Prop} {ta : TA} {da : DA} (h : Cl K r f) (ha : SemA K ta da) : SemE K (tCB r ta) (dCB f da) := by
  intro σ H S as en cs k Q rp e q p
  refine ha σ H S as en cs _ _ rp e q fun zs vs S1 H1 as1 cs1 e1 r1 v1 q1 => ?_
  obtain ⟨ds, s, q1⟩ := withL_sh r1 v1 q1
  exact h S1 H1 as1 cs1 ds vs _ Q r1 s q1 fun z v S' H' s' r' i' k' => p (.d z) v S' H' as1 cs1 (e1.trans (Ext.of s')) r' i' k'
theorem q_callB {id : String} {x : Str} {p : Pos} {a : Expr} {es : List Expr} {r : List V → Hp → VK → Prop} {f : List D → (D → Prop) → Prop} {ta : TA} {da : DA} (hc : CallR X (.builtin id) r) (h : Cl X.K r f) (hm : X.mg x = none) (hv : bootBuiltins x = some (.builtin id)) (ha : QA X (a :: es) ta da) (hg : Gl X x := by rfl) (hn : x ≠ "__name__" := by decide) (hdb : (x == ("__debug__" : Str)) = false := by decide)
    (he : starEach (a :: es) X.env = (false, eval a X.env) :: starEach es X.env := by rfl) (hpl : (backTo pos (starEach es X.env)).any (·.1) = false := by rfl) : QE X (.Call (.Name x p) (a :: es) [] pos) (tCB r ta) (dCB f da) :=
  ⟨pe_callB hc hg hm hv ha.pa hn hdb he hpl, sem_cb h ha.sem⟩
theorem q_callTy {id : String} {x : Str} {p : Pos} {a : Expr} {es : List Expr} {r : List V → Hp → VK → Prop} {f : List D → (D → Prop) → Prop} {ta : TA} {da : DA} (hc : CallR X (.type id) r) (h : Cl X.K r f) (hm : X.mg x = none) (hv : bootBuiltins x = some (.type id)) (ha : QA X (a :: es) ta da) (hg : Gl X x := by rfl) (hn : x ≠ "__name__" := by decide) (hdb : (x == ("__debug__" : Str)) = false := by decide)
    (he : starEach (a :: es) X.env = (false, eval a X.env) :: starEach es X.env := by rfl) (hpl : (backTo pos (starEach es X.env)).any (·.1) = false := by rfl) : QE X (.Call (.Name x p) (a :: es) [] pos) (tCB r ta) (dCB f da) :=
  ⟨pe_callTy hc hg hm hv ha.pa hn hdb he hpl, sem_cb h ha.sem⟩
end
end DL
set_option Elab.async false
set_option linter.all false
set_option maxRecDepth 100000
set_option maxHeartbeats 2000000
namespace DL
open PySem L2

/-! ### data as the library's data -/
mutual
def py : D → PyData
  | .non => .none
  | .bl b => .bool b
  | .int i => .int i
  | .str x => .str x
  | .tup ds => .tuple (pyL ds)
  | .lst ds => .list (pyL ds)
  | .scr ns => .list (ns.map .int)
  | .dic _ => .none
  | .ty _ => .none
  | .obj _ => .none
  | .ob _ _ _ => .none
def pyL : List D → List PyData
  | [] => []
  | d :: ds => py d :: pyL ds
end
mutual
/-- no dict, no class within -/
def pyOk : D → Bool
  | .non => true
  | .bl _ => true
  | .int _ => true
  | .str _ => true
  | .tup ds => pyOkL ds
  | .lst ds => pyOkL ds
  | .scr _ => true
  | .dic _ => false
  | .ty _ => false
  | .obj _ => false
  | .ob _ _ _ => false
def pyOkL : List D → Bool
  | [] => true
  | d :: ds => pyOk d && pyOkL ds
end
theorem dp_ints (K : PySem.W.Frag) (H : Hp) : ∀ ns : List Int, DpAll K H (ns.map V.int) (ns.map PyData.int)
  | [] => .nil
  | n :: ns => .cons (.int n) (dp_ints K H ns)
mutual
theorem Is.dp {K : PySem.W.Frag} {S H : Hp} (e : Sub S H) : ∀ (d : D) (v : V), Is K S d v → pyOk d = true → Dp K H v (py d)
  | .non, v, h, _ => by rw [Is] at h; subst h; exact .non
  | .bl b, v, h, _ => by rw [Is] at h; subst h; exact .bl b
  | .int i, v, h, _ => by rw [Is] at h; subst h; exact .int i
  | .str x, v, h, _ => by rw [Is] at h; subst h; exact .str x
  | .tup ds, v, h, o => by
    obtain ⟨a, vs, rfl, h2, h3⟩ := h
    exact .tup (e.t h2) (IsL.dp e ds vs h3 o)
  | .lst ds, v, h, o => by
    obtain ⟨a, vs, rfl, h2, h3⟩ := h
    exact .lst (SqL.of (e _ _ h2)) (IsL.dp e ds vs h3 o)
  | .scr ns, v, h, _ => by
    obtain ⟨a, rfl, h2⟩ := h
    exact .lst (e.l h2) (dp_ints K H ns)
  | .dic _, _, _, o => Bool.noConfusion o
  | .ty _, _, _, o => Bool.noConfusion o
  | .obj _, _, _, o => Bool.noConfusion o
  | .ob _ _ _, _, _, o => Bool.noConfusion o
theorem IsL.dp {K : PySem.W.Frag} {S H : Hp} (e : Sub S H) : ∀ (ds : List D) (vs : List V), IsL K S ds vs → pyOkL ds = true → DpAll K H vs (pyL ds)
  | [], _, h, _ => by rw [IsL] at h; subst h; exact .nil
  | d :: ds, _, h, o => by
    obtain ⟨v, r, rfl, h2, h3⟩ := h
    have o' : (pyOk d && pyOkL ds) = true := o
    rw [Bool.and_eq_true] at o'
    exact .cons (Is.dp e d v h2 o'.1) (IsL.dp e ds r h3 o'.2)
end
theorem Sh.dp {K : PySem.W.Frag} {S H : Hp} (e : Sub S H) : ∀ (d : D) (v : V), Sh K S H d v → pyOk d = true → Dp K H v (py d)
  | .lst ds, v, h, o => by
    obtain ⟨a, vs, rfl, h2, h3⟩ := h
    exact .lst (SqL.of h2) (IsL.dp e ds vs h3 o)
  | .tup ds, v, h, o => Is.dp e (.tup ds) v h o
  | .scr ns, v, h, o => Is.dp e (.scr ns) v h o
  | .non, v, h, o => Is.dp e .non v h o
  | .bl b, v, h, o => Is.dp e (.bl b) v h o
  | .int i, v, h, o => Is.dp e (.int i) v h o
  | .str x, v, h, o => Is.dp e (.str x) v h o
  | .dic _, _, _, o => Bool.noConfusion o
  | .ty _, _, _, o => Bool.noConfusion o
  | .obj _, _, _, o => Bool.noConfusion o
  | .ob _ _ _, _, _, o => Bool.noConfusion o

/-! ### sizes -/
/-- an int of few bits -/
def Sm (i : Int) : Prop := i.natAbs < 2 ^ 100000
def Dv (j : Int) : Prop := 0 < j ∧ j.natAbs < 2 ^ 8000
/-- an int of at most n bits, either way -/
def Sz (n : Nat) (i : Int) : Prop := i.natAbs < 2 ^ n
theorem Sz.sm {n : Nat} {i : Int} (h : Sz n i) (l : n ≤ 100000) : Sm i := Nat.lt_of_lt_of_le h (Nat.pow_le_pow_right (by decide) l)
theorem Sz.dv {n : Nat} {i : Int} (h : Sz n i) (l : n ≤ 8000) (p : 0 < i) : Dv i := ⟨p, Nat.lt_of_lt_of_le h (Nat.pow_le_pow_right (by decide) l)⟩
theorem Sz.mul {m n : Nat} {i j : Int} (h : Sz m i) (g : Sz n j) : Sz (m + n) (i * j) := wide_lt h g
theorem Sz.le {m n : Nat} {i : Int} (h : Sz m i) (l : m ≤ n) : Sz n i := Nat.lt_of_lt_of_le h (Nat.pow_le_pow_right (by decide) l)
theorem Sz.add {m n : Nat} {i j : Int} (h : Sz m i) (g : Sz n j) : Sz (m + n + 1) (i + j) := by
  have h' := h.le (Nat.le_add_right m n)
  have g' := g.le (Nat.le_add_left n m)
  unfold Sz at *
  rw [Nat.pow_succ]
  omega
theorem Sz.sub {m n : Nat} {i j : Int} (h : Sz m i) (g : Sz n j) : Sz (m + n + 1) (i - j) := by
  have h' := h.le (Nat.le_add_right m n)
  have g' := g.le (Nat.le_add_left n m)
  unfold Sz at *
  rw [Nat.pow_succ]
  omega
theorem Sz.of {n : Nat} {i : Int} (h1 : -((2 ^ n : Nat) : Int) < i) (h2 : i < ((2 ^ n : Nat) : Int)) : Sz n i := by
  unfold Sz
  omega
/-- within 10 ^ 200 -/
theorem Sm.of {i : Int} (h1 : -(10 ^ 200) < i) (h2 : i < 10 ^ 200) : Sm i := by
  have e : (10 : Int) ^ 200 ≤ ((2 ^ 700 : Nat) : Int) := by decide +kernel
  exact (Sz.of (n := 700) (by omega) (by omega)).sm (by decide)
theorem Dv.of {i : Int} (h1 : 0 < i) (h2 : i < 10 ^ 200) : Dv i := by
  have e : (10 : Int) ^ 200 ≤ ((2 ^ 700 : Nat) : Int) := by decide +kernel
  exact (Sz.of (n := 700) (by omega) (by omega)).dv (by decide) h1
theorem Sm.mulW {i j : Int} (h : Sm i) (g : Sm j) : CMulW i j := wide_mul h g (by decide) (by decide) (by decide)
theorem Dv.divW {i j : Int} (h : Dv j) : CDivW i j := wide_div h.1 h.2 (by decide) (by decide)

/-! ### operators over data -/
abbrev rOr (r r' : R2) : R2 := fun x y H Q => r x y H Q ∨ r' x y H Q
def rAddS : R2 := fun x y H Q => ∃ i j, x = .str i ∧ y = .str j ∧ i.length + j.length ≤ sizeLine ∧ Q (.str (i ++ j)) H
def rAddU (K : PySem.W.Frag) : R2 := rOr (rI0 fun i j => .int (i + j)) (rOr rAddS (rOr (rCatA K) rCat))
def rMulU (K : PySem.W.Frag) : R2 := rOr (rI CMulW fun i j => .int (i * j)) (rOr (rRepT K) rRep)
def CPowW (i j : Int) : Prop := 0 ≤ j ∧ (Builtin.Int.intBits i : Int) * j ≤ 2 ^ 27
section
variable {X : Cx}
theorem op_addU : OpR X (binaryOp .Add) (rAddU X.K) := OpR.or op_add (OpR.or op_add_str (OpR.or op_catA op_cat))
theorem op_mulU : OpR X (binaryOp .Mult) (rMulU X.K) := OpR.or op_mulW (OpR.or op_repT op_rep)
theorem op_powW : OpR X (binaryOp .Pow) (rI CPowW fun i j => .int (i ^ j.toNat)) := opI fun _ _ _ _ _ _ _ hc q => PyProof.Rows.pow_int hc.1 hc.2 q
end
def addD : D → D → (D → Prop) → Prop
  | .int i, .int j, k => k (.int (i + j))
  | .str a, .str b, k => a.length + b.length ≤ sizeLine ∧ k (.str (a ++ b))
  | .tup a, .tup b, k => a.length + b.length ≤ LIM ∧ k (.tup (a ++ b))
  | .lst a, .lst b, k => a.length + b.length ≤ LIM ∧ k (.lst (a ++ b))
  | _, _, _ => False
def subD : D → D → (D → Prop) → Prop
  | .int i, .int j, k => k (.int (i - j))
  | _, _, _ => False
def mulD : D → D → (D → Prop) → Prop
  | .int i, .int j, k => (Sm i ∧ Sm j) ∧ k (.int (i * j))
  | .tup a, .int n, k => (a ≠ [] ∧ 2 ≤ n ∧ n ≤ 1000 ∧ a.length ≤ 1000) ∧ k (.tup (List.replicate n.toNat a).flatten)
  | .lst a, .int n, k => (0 ≤ n ∧ n ≤ 100000 ∧ a.length ≤ 1000 ∧ a.length * n.toNat ≤ LIM) ∧ k (.lst (List.replicate n.toNat a).flatten)
  | _, _, _ => False
def fdivD : D → D → (D → Prop) → Prop
  | .int i, .int j, k => Dv j ∧ k (.int (i / j))
  | _, _, _ => False
def modD : D → D → (D → Prop) → Prop
  | .int i, .int j, k => 0 < j ∧ k (.int (i % j))
  | _, _, _ => False
def powD : D → D → (D → Prop) → Prop
  | .int i, .int j, k => (0 ≤ j ∧ j ≤ 1000 ∧ Sm i) ∧ k (.int (i ^ j.toNat))
  | _, _, _ => False
def negD : D → (D → Prop) → Prop
  | .int i, k => k (.int (-i))
  | _, _ => False
def cmpI (p : Int → Int → Bool) : D → D → (D → Prop) → Prop
  | .int i, .int j, k => k (.bl (p i j))
  | _, _, _ => False
abbrev ltD := cmpI fun i j => decide (i < j)
abbrev leD := cmpI fun i j => decide (i ≤ j)
abbrev gtD := cmpI fun i j => decide (j < i)
abbrev geD := cmpI fun i j => decide (j ≤ i)
def EqOk (d : D) : Prop := pyOk d = true ∧ SeqAt.shaped (py d) = true
def eqvD (x y : D) : Bool := PyData.eqv (py x) (py y)
def eqD : D → D → (D → Prop) → Prop := fun x y k => (EqOk x ∧ EqOk y) ∧ k (.bl (eqvD x y))
def neD : D → D → (D → Prop) → Prop := fun x y k => (EqOk x ∧ EqOk y) ∧ k (.bl (!eqvD x y))
def isNonD : D → Bool
  | .non => true
  | _ => false
def isD : D → D → (D → Prop) → Prop
  | x, .non, k => k (.bl (isNonD x))
  | .bl a, .bl b, k => k (.bl (decide (a = b)))
  | _, _, _ => False
def isNotD : D → D → (D → Prop) → Prop
  | x, .non, k => k (.bl (!isNonD x))
  | .bl a, .bl b, k => k (.bl (!decide (a = b)))
  | _, _, _ => False
def atD (ds : List D) (i : Int) (k : D → Prop) : Prop :=
  match atI ds i with
  | some d => k d
  | none => False
def ixD : D → D → (D → Prop) → Prop
  | .tup ds, .int i, k => atD ds i k
  | .lst ds, .int i, k => atD ds i k
  | .scr ns, .int i, k => ∃ n, atI ns i = some n ∧ k (.int n)
  | _, _, _ => False

section
variable {K : PySem.W.Frag}
theorem sh_int {S H : Hp} {i : Int} {v : V} (h : Sh K S H (.int i) v) : v = .int i := h
theorem sh_str {S H : Hp} {i : Str} {v : V} (h : Sh K S H (.str i) v) : v = .str i := h
theorem sh_bl {S H : Hp} {i : Bool} {v : V} (h : Sh K S H (.bl i) v) : v = .bl i := h
theorem sh_non {S H : Hp} {v : V} (h : Sh K S H .non v) : v = .non := h
/-- ints to an int -/
theorem o_int {C : Int → Int → Prop} {g : Int → Int → Int} {f : D → D → (D → Prop) → Prop} (hf : ∀ x y k, f x y k → ∃ i j, x = .int i ∧ y = .int j ∧ C i j ∧ k (.int (g i j))) : Op2 K (rI C fun i j => .int (g i j)) f := by
  intro S H as cs dx dy x y k Q r hx hy h q
  obtain ⟨i, j, rfl, rfl, hc, hk⟩ := hf _ _ _ h
  exact ⟨i, j, hx, hy, hc, q (.int (g i j)) _ S H (Sub.refl S) r rfl hk⟩
theorem o_sub : Op2 K (rI0 fun i j => .int (i - j)) subD := by
  intro S H as cs dx dy x y k Q r hx hy h q
  unfold subD at h
  split at h
  · exact ⟨_, _, hx, hy, q (.int _) _ S H (Sub.refl S) r rfl h⟩
  · exact h.elim
theorem o_cmp {p : Int → Int → Bool} : Op2 K (rI0 fun i j => .bl (p i j)) (cmpI p) := by
  intro S H as cs dx dy x y k Q r hx hy h q
  unfold cmpI at h
  split at h
  · exact ⟨_, _, hx, hy, q (.bl _) _ S H (Sub.refl S) r rfl h⟩
  · exact h.elim
theorem o_mod : Op2 K (rI (fun _ j => 0 < j) fun i j => .int (i % j)) modD := o_int fun x y k h => by
  unfold modD at h
  split at h
  · exact ⟨_, _, rfl, rfl, h.1, h.2⟩
  · exact h.elim
theorem o_fdiv : Op2 K (rI CDivW fun i j => .int (i / j)) fdivD := o_int fun x y k h => by
  unfold fdivD at h
  split at h
  · exact ⟨_, _, rfl, rfl, h.1.divW, h.2⟩
  · exact h.elim
theorem o_pow : Op2 K (rI CPowW fun i j => .int (i ^ j.toNat)) powD := o_int fun x y k h => by
  unfold powD at h
  split at h
  · rename_i i j
    obtain ⟨⟨h0, h1, h2⟩, h3⟩ := h
    refine ⟨_, _, rfl, rfl, ⟨h0, ?_⟩, h3⟩
    have b : Builtin.Int.intBits i ≤ i.natAbs.log2 + 1 := by
      unfold Builtin.Int.intBits
      split <;> omega
    have l : i.natAbs.log2 < 100000 := PySem.Flt.log2_lt_of (by decide) h2
    have hb : (Builtin.Int.intBits i : Int) ≤ 100000 := by omega
    have h4 : (Builtin.Int.intBits i : Int) * j ≤ 100000 * j := Int.mul_le_mul_of_nonneg_right hb h0
    have h5 : 100000 * j ≤ 100000 * 1000 := Int.mul_le_mul_of_nonneg_left h1 (by decide)
    have h6 : (100000 * 1000 : Int) ≤ 2 ^ 27 := by decide
    exact Int.le_trans h4 (Int.le_trans h5 h6)
  · exact h.elim
theorem o_neg : Op1 K (rU fun i => .int (-i)) negD := by
  intro S H as cs dx x k Q r hx h q
  unfold negD at h
  split at h
  · exact ⟨_, hx, q (.int _) _ S H (Sub.refl S) r rfl h⟩
  · exact h.elim
theorem o_add : Op2 K (rAddU K) addD := by
  intro S H as cs dx dy x y k Q r hx hy h q
  unfold addD at h
  split at h
  · exact .inl ⟨_, _, hx, hy, q (.int _) _ S H (Sub.refl S) r rfl h⟩
  · exact .inr (.inl ⟨_, _, hx, hy, h.1, q (.str _) _ S H (Sub.refl S) r rfl h.2⟩)
  · obtain ⟨a, vs, rfl, hs, is⟩ := hx
    obtain ⟨b, us, rfl, ht, it⟩ := hy
    obtain ⟨hz, hk⟩ := h
    refine .inr (.inr (.inl ⟨a, b, vs, us, rfl, rfl, r.sub.t hs, r.sub.t ht, by rw [is.len, it.len]; exact size_of hz, fun e => ?_, fun _ e => ?_, fun _ _ p hp => ?_⟩))
    · have i2 := is.append it
      rw [e, List.nil_append] at i2
      exact q (.tup _) _ S H (Sub.refl S) r ⟨b, us, rfl, ht, i2⟩ hk
    · have i2 := is.append it
      rw [e, List.append_nil] at i2
      exact q (.tup _) _ S H (Sub.refl S) r ⟨a, vs, rfl, hs, i2⟩ hk
    · have hn := Sub.new (o := .tup (vs ++ us)) (r.sub.free hp)
      exact q (.tup _) _ _ _ hn (r.lay hp _) ⟨p, vs ++ us, rfl, SqT.of upd_same, IsL.mono hn _ _ (is.append it)⟩ hk
  · obtain ⟨a, vs, rfl, hs, is⟩ := hx
    obtain ⟨b, us, rfl, ht, it⟩ := hy
    obtain ⟨hz, hk⟩ := h
    refine .inr (.inr (.inr ⟨a, b, vs, us, rfl, rfl, hs, ht, by rw [is.len, it.len]; exact size_of hz, fun p hp => ?_⟩))
    have hn := Sub.new (o := .lst (vs ++ us)) (r.sub.free hp)
    exact q (.lst _) _ _ _ hn (r.lay hp _) ⟨p, vs ++ us, rfl, upd_same, IsL.mono hn _ _ (is.append it)⟩ hk
  · exact h.elim
theorem o_mul : Op2 K (rMulU K) mulD := by
  intro S H as cs dx dy x y k Q r hx hy h q
  unfold mulD at h
  split at h
  · exact .inl ⟨_, _, hx, hy, h.1.1.mulW h.1.2, q (.int _) _ S H (Sub.refl S) r rfl h.2⟩
  · rename_i l n
    obtain ⟨a, vs, rfl, hs, is⟩ := hx
    obtain ⟨⟨h1, h2, h3, h4⟩, hk⟩ := h
    refine .inr (.inl ⟨a, _, vs, rfl, hy, r.sub.t hs, fun e => ?_, h2, h3, by rw [is.len]; exact h4, fun p hp => ?_⟩)
    · have := is.len
      rw [e] at this
      exact h1 (List.eq_nil_of_length_eq_zero this.symm)
    · have hn := Sub.new (o := .tup (List.replicate n.toNat vs).flatten) (r.sub.free hp)
      exact q (.tup _) _ _ _ hn (r.lay hp _) ⟨p, _, rfl, SqT.of upd_same, IsL.mono hn _ _ (is.rep _)⟩ hk
  · rename_i l n
    obtain ⟨a, vs, rfl, hs, is⟩ := hx
    obtain ⟨⟨h1, h2, h3, h4⟩, hk⟩ := h
    refine .inr (.inr ⟨a, _, vs, rfl, hy, hs, by omega, by omega, by rw [is.len]; exact size_of h4, fun p hp => ?_⟩)
    have hn := Sub.new (o := .lst (List.replicate n.toNat vs).flatten) (r.sub.free hp)
    exact q (.lst _) _ _ _ hn (r.lay hp _) ⟨p, _, rfl, upd_same, IsL.mono hn _ _ (is.rep _)⟩ hk
  · exact h.elim
theorem o_eq : Op2 K (rEqD K) eqD := by
  intro S H as cs dx dy x y k Q r hx hy h q
  obtain ⟨⟨⟨a1, a2⟩, b1, b2⟩, hk⟩ := h
  exact ⟨py dx, py dy, hx.dp r.sub _ _ a1, hy.dp r.sub _ _ b1, a2, b2, q (.bl _) _ S H (Sub.refl S) r rfl hk⟩
theorem o_ne : Op2 K (rNeD K) neD := by
  intro S H as cs dx dy x y k Q r hx hy h q
  obtain ⟨⟨⟨a1, a2⟩, b1, b2⟩, hk⟩ := h
  exact ⟨py dx, py dy, hx.dp r.sub _ _ a1, hy.dp r.sub _ _ b1, a2, b2, q (.bl _) _ S H (Sub.refl S) r rfl hk⟩
theorem sh_isNon {S H : Hp} {d : D} {v : V} (h : Sh K S H d v) : decide (v = .non) = isNonD d := by
  cases d with
  | non => rw [sh_non h]; rfl
  | bl b => rw [sh_bl h]; rfl
  | int i => rw [sh_int h]; rfl
  | str x => rw [sh_str h]; rfl
  | tup ds => obtain ⟨a, vs, rfl, _⟩ := h; rfl
  | lst ds => obtain ⟨a, vs, rfl, _⟩ := h; rfl
  | dic ds => obtain ⟨a, vs, rfl, _⟩ := h; rfl
  | scr ds => obtain ⟨a, rfl, _⟩ := h; rfl
  | ty n => rw [show v = .ty n from h]; rfl
  | obj a => rw [show v = .ref a from h]; rfl
  | ob a b c => obtain ⟨x, _, _, rfl, _⟩ := h; rfl
def rIsU : R2 := rOr (fun x y H Q => y = .non ∧ Q (.bl (decide (x = .non))) H) rIsB
def rIsNotU : R2 := rOr (fun x y H Q => y = .non ∧ Q (.bl (!decide (x = .non))) H) rNotB
theorem op_isU {X : Cx} : OpR X (compareOp .Is) rIsU := OpR.or op_isN op_isBl
theorem op_isNotU {X : Cx} : OpR X (compareOp .IsNot) rIsNotU := OpR.or op_notN op_notBl
theorem o_is : Op2 K rIsU isD := by
  intro S H as cs dx dy x y k Q r hx hy h q
  unfold isD at h
  split at h
  · exact .inl ⟨hy, q (.bl _) _ S H (Sub.refl S) r (by rw [sh_isNon hx]; rfl) h⟩
  · exact .inr ⟨_, _, hx, hy, q (.bl _) _ S H (Sub.refl S) r rfl h⟩
  · exact h.elim
theorem o_isNot : Op2 K rIsNotU isNotD := by
  intro S H as cs dx dy x y k Q r hx hy h q
  unfold isNotD at h
  split at h
  · exact .inl ⟨hy, q (.bl _) _ S H (Sub.refl S) r (by rw [sh_isNon hx]; rfl) h⟩
  · exact .inr ⟨_, _, hx, hy, q (.bl _) _ S H (Sub.refl S) r rfl h⟩
  · exact h.elim
theorem IsL.atI {S : Hp} {ds : List D} {vs : List V} {i : Int} {d : D} (h : IsL K S ds vs) (e : L2.atI ds i = some d) : ∃ v, L2.atI vs i = some v ∧ Is K S d v := by
  unfold L2.atI at e ⊢
  rw [h.len]
  cases q : ixN ds.length i with
  | none => rw [q] at e; exact nomatch e
  | some j =>
    rw [q] at e
    exact h.get e
theorem atI_map {α β : Type} (f : α → β) (xs : List α) (i : Int) : atI (xs.map f) i = (atI xs i).map f := by
  unfold atI
  rw [List.length_map]
  cases ixN xs.length i with
  | none => rfl
  | some j => show (xs.map f)[j]? = (xs[j]?).map f; rw [List.getElem?_map]
theorem o_ix : Op2 K (rIx K) ixD := by
  intro S H as cs dx dy x y k Q r hx hy h q
  unfold ixD at h
  split at h
  · obtain ⟨a, vs, rfl, hs, is⟩ := hx
    unfold atD at h
    split at h
    · rename_i d e
      obtain ⟨v, e2, iv⟩ := is.atI e
      exact .inr (.inl ⟨a, vs, _, v, rfl, hy, r.sub.t hs, e2, q d v S H (Sub.refl S) r iv h⟩)
    · exact h.elim
  · obtain ⟨a, vs, rfl, hs, is⟩ := hx
    unfold atD at h
    split at h
    · rename_i d e
      obtain ⟨v, e2, iv⟩ := is.atI e
      exact .inl ⟨a, vs, _, v, rfl, hy, SqL.of hs, e2, q d v S H (Sub.refl S) r iv h⟩
    · exact h.elim
  · obtain ⟨a, rfl, hs⟩ := hx
    obtain ⟨n, e, hk⟩ := h
    refine .inl ⟨a, _, _, .int n, rfl, hy, r.sub.l hs, by rw [atI_map, e]; rfl, q (.int n) _ S H (Sub.refl S) r rfl hk⟩
  · exact h.elim
end
end DL
set_option Elab.async false
set_option linter.all false
set_option maxRecDepth 100000
set_option maxHeartbeats 2000000
namespace DL
open PySem L2

/-! ### == of texts too -/
def rEqU (K : PySem.W.Frag) : R2 := rOr rEq (rEqD K)
def rNeU (K : PySem.W.Frag) : R2 := rOr rNe (rNeD K)
theorem op_eqU {X : Cx} (hu : X.A.units + 64 < cLine) : OpR X (compareOp .Eq) (rEqU X.K) := OpR.or op_eq (op_eqD hu)
theorem op_neU {X : Cx} (hu : X.A.units + 64 < cLine) : OpR X (compareOp .NotEq) (rNeU X.K) := OpR.or op_ne (op_neD hu)
def eqUD : D → D → (D → Prop) → Prop
  | .str a, .str b, k => k (.bl (decide (a = b)))
  | .int a, .int b, k => k (.bl (decide (a = b)))
  | x, y, k => eqD x y k
def neUD : D → D → (D → Prop) → Prop
  | .str a, .str b, k => k (.bl (!decide (a = b)))
  | .int a, .int b, k => k (.bl (!decide (a = b)))
  | x, y, k => neD x y k
section
variable {K : PySem.W.Frag}
theorem dec_str (a b : Str) : decide (V.str a = V.str b) = decide (a = b) := by
  by_cases e : a = b
  · rw [e, decide_eq_true rfl, decide_eq_true rfl]
  · rw [decide_eq_false e, decide_eq_false fun q => e (V.str.inj q)]
theorem dec_int (a b : Int) : decide (V.int a = V.int b) = decide (a = b) := by
  by_cases e : a = b
  · rw [e, decide_eq_true rfl, decide_eq_true rfl]
  · rw [decide_eq_false e, decide_eq_false fun q => e (V.int.inj q)]
theorem o_eqU : Op2 K (rEqU K) eqUD := by
  intro S H as cs dx dy x y k Q r hx hy h q
  unfold eqUD at h
  split at h
  · rw [sh_str hx, sh_str hy]
    exact .inl ⟨rfl, q (.bl _) _ S H (Sub.refl S) r (by rw [dec_str]; rfl) h⟩
  · rw [sh_int hx, sh_int hy]
    exact .inl ⟨rfl, q (.bl _) _ S H (Sub.refl S) r (by rw [dec_int]; rfl) h⟩
  · exact .inr (o_eq S H as cs _ _ x y k Q r hx hy h q)
theorem o_neU : Op2 K (rNeU K) neUD := by
  intro S H as cs dx dy x y k Q r hx hy h q
  unfold neUD at h
  split at h
  · rw [sh_str hx, sh_str hy]
    exact .inl ⟨rfl, q (.bl _) _ S H (Sub.refl S) r (by rw [dec_str]; rfl) h⟩
  · rw [sh_int hx, sh_int hy]
    exact .inl ⟨rfl, q (.bl _) _ S H (Sub.refl S) r (by rw [dec_int]; rfl) h⟩
  · exact .inr (o_ne S H as cs _ _ x y k Q r hx hy h q)
end

/-! ### built-ins -/
abbrev RC := List V → Hp → VK → Prop
def rLenU (K : PySem.W.Frag) : RC := fun xs H Q => (∃ x n, xs = [x] ∧ LenV K x H n ∧ Q (.int n) H) ∨ ∃ a kvs, xs = [V.ref a] ∧ H a = some (.dK kvs) ∧ Q (.int kvs.length) H
theorem call_lenU {X : Cx} : CallR X (.builtin "len") (rLenU X.K) := CallR.or call_len call_lenD
def lenD : List D → (D → Prop) → Prop
  | [.lst ds], k => k (.int ds.length)
  | [.tup ds], k => k (.int ds.length)
  | [.scr ns], k => k (.int ns.length)
  | [.dic kvs], k => k (.int kvs.length)
  | _, _ => False
section
variable {K : PySem.W.Frag} {S H : Hp}
theorem shL_nil {vs : List V} (h : ShL K S H [] vs) : vs = [] := h
theorem shL_one {d : D} {vs : List V} (h : ShL K S H [d] vs) : ∃ v, vs = [v] ∧ Sh K S H d v := by
  obtain ⟨v, r, h1, h2, h3⟩ := h
  rw [shL_nil h3] at h1
  exact ⟨v, h1, h2⟩
theorem shL_two {d e : D} {vs : List V} (h : ShL K S H [d, e] vs) : ∃ v u, vs = [v, u] ∧ Sh K S H d v ∧ Sh K S H e u := by
  obtain ⟨v, r, h1, h2, h3⟩ := h
  obtain ⟨u, h4, h5⟩ := shL_one h3
  rw [h4] at h1
  exact ⟨v, u, h1, h2, h5⟩
theorem IsK.len : ∀ {kvs : List (Key × D)} {l : List (Key × V)}, IsK K S kvs l → l.length = kvs.length
  | [], _, h => by rw [IsK] at h; rw [h]; rfl
  | _ :: _, _, h => by
    obtain ⟨v, r, h1, h2, h3⟩ := h
    rw [h1, List.length_cons, List.length_cons, IsK.len h3]
theorem c_len : Cl K (rLenU K) lenD := by
  intro S H as cs ds vs k Q r hv h q
  unfold lenD at h
  split at h
  · obtain ⟨v, rfl, a, us, rfl, hs, is⟩ := shL_one hv
    exact .inl ⟨_, _, rfl, .inl ⟨us, SqL.of hs, is.len.symm⟩, q (.int _) _ S H (Sub.refl S) r rfl h⟩
  · obtain ⟨v, rfl, a, us, rfl, hs, is⟩ := shL_one hv
    exact .inl ⟨_, _, rfl, .inr ⟨us, r.sub.t hs, is.len.symm⟩, q (.int _) _ S H (Sub.refl S) r rfl h⟩
  · obtain ⟨v, rfl, a, rfl, hs⟩ := shL_one hv
    exact .inl ⟨_, _, rfl, .inl ⟨_, r.sub.l hs, by rw [List.length_map]⟩, q (.int _) _ S H (Sub.refl S) r rfl h⟩
  · obtain ⟨v, rfl, a, us, rfl, hs, is⟩ := shL_one hv
    exact .inr ⟨a, us, rfl, hs, q (.int _) _ S H (Sub.refl S) r (by rw [is.len]; rfl) h⟩
  · exact h.elim
/-! isinstance(x, T), T a built-in type -/
def tyD : D → String
  | .non => "NoneType"
  | .bl _ => "bool"
  | .int _ => "int"
  | .str _ => "str"
  | .tup _ => "tuple"
  | .lst _ => "list"
  | .scr _ => "list"
  | .dic _ => "dict"
  | _ => ""
def isiD : List D → (D → Prop) → Prop
  | [x, .ty n], k => ∃ b, kitB (tyD x) n = some b ∧ k (.bl b)
  | _, _ => False
theorem sh_ty {d : D} {v : V} (e : Sub S H) (h : Sh K S H d v) {n : String} {b : Bool} (hk : kitB (tyD d) n = some b) (hb : kitB "" n = none) : TyX K H v (.type (tyD d)) := by
  cases d with
  | non => rw [sh_non h]; exact .base .non
  | bl b => rw [sh_bl h]; exact .base (.bl b)
  | int i => rw [sh_int h]; exact .base (.int i)
  | str x => rw [sh_str h]; exact .base (.str x)
  | tup ds =>
    obtain ⟨a, vs, rfl, hs, _⟩ := h
    rcases e.t hs with (h1 | ⟨o, h1⟩) | ⟨o, its, n, h1, h2, _⟩
    · exact .base (.tup h1)
    · exact .fTuple h1
    · exact .kTuple h1 h2
  | lst ds =>
    obtain ⟨a, vs, rfl, hs, _⟩ := h
    exact .base (.lst hs)
  | scr ns =>
    obtain ⟨a, rfl, hs⟩ := h
    rcases e.l hs with (h1 | ⟨o, h1⟩) | ⟨o, its, n, h1, h2, _⟩
    · exact .base (.lst h1)
    · exact .base (.frz h1)
    · exact .kList h1 h2
  | dic ds =>
    obtain ⟨a, vs, rfl, hs, _⟩ := h
    exact .base (.dK hs)
  | ty m => rw [show tyD (.ty m) = "" from rfl, hb] at hk; cases hk
  | obj a => rw [show tyD (.obj a) = "" from rfl, hb] at hk; cases hk
  | ob a b c => rw [show tyD (.ob a b c) = "" from rfl, hb] at hk; cases hk
def isiN (n : String) : List D → (D → Prop) → Prop
  | [x, .ty m], k => m = n ∧ ∃ b, kitB (tyD x) n = some b ∧ k (.bl b)
  | _, _ => False
theorem c_isi (n : String) (hb : kitB "" n = none) : Cl K (rIsi K) (isiN n) := by
  intro S H as cs ds vs k Q r hv h q
  unfold isiN at h
  split at h
  · obtain ⟨v, u, rfl, h1, h2⟩ := shL_two hv
    obtain ⟨rfl, b, e, h⟩ := h
    rw [show u = .ty _ from h2]
    exact ⟨v, _, _, _, b, rfl, .ty _, sh_ty r.sub h1 e hb, kit_ty e, q (.bl b) _ S H (Sub.refl S) r rfl h⟩
  · exact h.elim

/-! repr -/
def RpOk (d : D) : Prop := pyOk d = true ∧ (py d).showable = true ∧ (py d).hasDict = false ∧ (py d).depth ≤ 60 ∧ (py d).shown.length ≤ sizeLine
def rReprD (K : PySem.W.Frag) : RC := fun xs H Q => ∃ v d, xs = [v] ∧ Dp K H v d ∧ d.showable = true ∧ d.hasDict = false ∧ d.depth ≤ 60 ∧ d.shown.length ≤ sizeLine ∧ Q (.str d.shown) H
theorem call_reprD {X : Cx} (hg : X.A.guards = some []) (hu : X.A.units + 64 < cLine) : CallR X (.builtin "repr") (rReprD X.K) := by
  intro pins s σ H xs us Q I r h
  obtain ⟨v, d, rfl, hd, hs, hn, hdp, hz, q⟩ := h
  obtain ⟨u, rfl, rv⟩ := vals1 r
  obtain ⟨as, rd⟩ := Dp.reads I d v u hd rv
  have ans : ∀ tk t, EP X pins σ Q (.str d.shown t) { s with toks := tk } := fun tk t => ⟨.str _, H, I.tok tk, ⟨t, rfl⟩, q⟩
  cases hd with
  | non => rw [show u = Value.none from rv]; exact PySem.P.repr_of_none (ans _ _)
  | bl b => rw [show u = Value.bool b from rv]; exact PySem.P.repr_of_bool (by have := ans (s.toks + 1) s.toks; simpa only [PyData.shown] using this)
  | int i =>
    obtain ⟨t, rfl⟩ := rv
    exact PySem.P.repr_of_int (by simpa [PyData.showable] using hs) (ans _ _)
  | str x =>
    obtain ⟨t, rfl⟩ := rv
    exact PySem.P.repr_of_str (ans _ _) hz
  | lst h1 h2 =>
    rw [show u = Value.ref _ from rv] at rd ⊢
    exact repr_of_reads' rd hs (PyData.noDict_hsm hn) hg (by omega) (fun _ _ e => e) (fun h' t tk hk => ⟨.str _, H, I.kept hk, ⟨t, rfl⟩, q⟩) hz
  | tup h1 h2 =>
    rw [show u = Value.ref _ from rv] at rd ⊢
    exact repr_of_reads' rd hs (PyData.noDict_hsm hn) hg (by omega) (fun _ _ e => e) (fun h' t tk hk => ⟨.str _, H, I.kept hk, ⟨t, rfl⟩, q⟩) hz
def reprD : List D → (D → Prop) → Prop
  | [x], k => RpOk x ∧ k (.str (py x).shown)
  | _, _ => False
theorem c_repr : Cl K (rReprD K) reprD := by
  intro S H as cs ds vs k Q r hv h q
  unfold reprD at h
  split at h
  · obtain ⟨v, rfl, h1⟩ := shL_one hv
    obtain ⟨⟨a1, a2, a3, a4, a5⟩, hk⟩ := h
    exact ⟨v, _, rfl, h1.dp r.sub _ _ a1, a2, a3, a4, a5, q (.str _) _ S H (Sub.refl S) r rfl hk⟩
  · exact h.elim

/-! max, min, abs, sum, all, any, int, tuple, list -/
def rMaxU (K : PySem.W.Frag) : RC := fun xs H Q => (∃ i j, xs = [.int i, .int j] ∧ Q (.int (if j > i then j else i)) H) ∨ rMax K xs H Q
def rMinU (K : PySem.W.Frag) : RC := fun xs H Q => (∃ i j, xs = [.int i, .int j] ∧ Q (.int (if j < i then j else i)) H) ∨ rMin K xs H Q
theorem call_maxU {X : Cx} (hc : X.calm = true := by rfl) : CallR X (.builtin "max") (rMaxU X.K) := CallR.or (call_max2 hc) (cr_max hc)
theorem call_minU {X : Cx} (hc : X.calm = true := by rfl) : CallR X (.builtin "min") (rMinU X.K) := CallR.or (call_min2 hc) (cr_min hc)
def maxD : List D → (D → Prop) → Prop
  | [.int i, .int j], k => k (.int (max i j))
  | [.lst ds], k => ∃ ns : List Int, ds = ns.map D.int ∧ 0 < ns.length ∧ ∀ m, m ∈ ns → (∀ y, y ∈ ns → y ≤ m) → k (.int m)
  | _, _ => False
def minD : List D → (D → Prop) → Prop
  | [.int i, .int j], k => k (.int (min i j))
  | [.lst ds], k => ∃ ns : List Int, ds = ns.map D.int ∧ 0 < ns.length ∧ ∀ m, m ∈ ns → (∀ y, y ∈ ns → m ≤ y) → k (.int m)
  | _, _ => False
theorem c_max : Cl K (rMaxU K) maxD := by
  intro S H as cs ds vs k Q r hv h q
  unfold maxD at h
  split at h
  · rename_i i j
    obtain ⟨v, u, rfl, h1, h2⟩ := shL_two hv
    rw [sh_int h1, sh_int h2]
    refine .inl ⟨_, _, rfl, q (.int (max i j)) _ S H (Sub.refl S) r ?_ h⟩
    show V.int _ = V.int _
    congr 1
    split <;> omega
  · obtain ⟨v, rfl, a, us, rfl, hs, is⟩ := shL_one hv
    obtain ⟨ns, rfl, hl, hk⟩ := h
    have e := is.ints
    subst e
    exact .inr ⟨a, ns, rfl, SqL.of hs, hl, fun m h1 h2 => q (.int m) _ S H (Sub.refl S) r rfl (hk m h1 h2)⟩
  · exact h.elim
theorem c_min : Cl K (rMinU K) minD := by
  intro S H as cs ds vs k Q r hv h q
  unfold minD at h
  split at h
  · rename_i i j
    obtain ⟨v, u, rfl, h1, h2⟩ := shL_two hv
    rw [sh_int h1, sh_int h2]
    refine .inl ⟨_, _, rfl, q (.int (min i j)) _ S H (Sub.refl S) r ?_ h⟩
    show V.int _ = V.int _
    congr 1
    split <;> omega
  · obtain ⟨v, rfl, a, us, rfl, hs, is⟩ := shL_one hv
    obtain ⟨ns, rfl, hl, hk⟩ := h
    have e := is.ints
    subst e
    exact .inr ⟨a, ns, rfl, SqL.of hs, hl, fun m h1 h2 => q (.int m) _ S H (Sub.refl S) r rfl (hk m h1 h2)⟩
  · exact h.elim
def sumD : List D → (D → Prop) → Prop
  | [.lst ds], k => ∃ ns : List Int, ds = ns.map D.int ∧ k (.int ns.sum)
  | _, _ => False
theorem c_sum : Cl K (rSum K) sumD := by
  intro S H as cs ds vs k Q r hv h q
  unfold sumD at h
  split at h
  · obtain ⟨v, rfl, a, us, rfl, hs, is⟩ := shL_one hv
    obtain ⟨ns, rfl, hk⟩ := h
    have e := is.ints
    subst e
    exact ⟨a, ns, rfl, SqL.of hs, q (.int _) _ S H (Sub.refl S) r rfl hk⟩
  · exact h.elim
def allD : List D → (D → Prop) → Prop
  | [.lst ds], k => ∃ bs : List Bool, ds = bs.map D.bl ∧ k (.bl (bs.all id))
  | _, _ => False
def anyD : List D → (D → Prop) → Prop
  | [.lst ds], k => ∃ bs : List Bool, ds = bs.map D.bl ∧ k (.bl (bs.any id))
  | _, _ => False
theorem c_all : Cl K (rAll K) allD := by
  intro S H as cs ds vs k Q r hv h q
  unfold allD at h
  split at h
  · obtain ⟨v, rfl, a, us, rfl, hs, is⟩ := shL_one hv
    obtain ⟨bs, rfl, hk⟩ := h
    have e := is.bls
    subst e
    exact ⟨a, bs, rfl, SqL.of hs, q (.bl _) _ S H (Sub.refl S) r rfl hk⟩
  · exact h.elim
theorem c_any : Cl K (rAny K) anyD := by
  intro S H as cs ds vs k Q r hv h q
  unfold anyD at h
  split at h
  · obtain ⟨v, rfl, a, us, rfl, hs, is⟩ := shL_one hv
    obtain ⟨bs, rfl, hk⟩ := h
    have e := is.bls
    subst e
    exact ⟨a, bs, rfl, SqL.of hs, q (.bl _) _ S H (Sub.refl S) r rfl hk⟩
  · exact h.elim
def rInt1 : RC := fun xs H Q => (∃ i, xs = [.int i] ∧ Q (.int i) H) ∨ ∃ k, xs = [.bl k] ∧ Q (.int (if k then 1 else 0)) H
def intD : List D → (D → Prop) → Prop
  | [.int i], k => k (.int i)
  | [.bl b], k => k (.int (if b then 1 else 0))
  | _, _ => False
theorem c_int : Cl K rInt1 intD := by
  intro S H as cs ds vs k Q r hv h q
  unfold intD at h
  split at h
  · obtain ⟨v, rfl, h1⟩ := shL_one hv
    rw [sh_int h1]
    exact .inl ⟨_, rfl, q (.int _) _ S H (Sub.refl S) r rfl h⟩
  · obtain ⟨v, rfl, h1⟩ := shL_one hv
    rw [sh_bl h1]
    exact .inr ⟨_, rfl, q (.int _) _ S H (Sub.refl S) r rfl h⟩
  · exact h.elim
def rAbs1 : RC := fun xs H Q => ∃ i, xs = [.int i] ∧ Q (.int (if i < 0 then -i else i)) H
def absD : List D → (D → Prop) → Prop
  | [.int i], k => k (.int (if i < 0 then -i else i))
  | _, _ => False
theorem c_abs : Cl K rAbs1 absD := by
  intro S H as cs ds vs k Q r hv h q
  unfold absD at h
  split at h
  · obtain ⟨v, rfl, h1⟩ := shL_one hv
    rw [sh_int h1]
    exact ⟨_, rfl, q (.int _) _ S H (Sub.refl S) r rfl h⟩
  · exact h.elim
def rTupOf (K : PySem.W.Frag) : RC := fun xs H Q => ∃ p ys, xs = [.ref p] ∧ ((SqL K H p ys ∧ ∀ l, H l = none → Q (.ref l) (upd H l (.tup ys))) ∨ (SqT K H p ys ∧ Q (.ref p) H))
def tupOfD : List D → (D → Prop) → Prop
  | [.lst ds], k => k (.tup ds)
  | [.tup ds], k => k (.tup ds)
  | [.scr ns], k => k (.tup (ns.map D.int))
  | _, _ => False
theorem c_tupOf : Cl K (rTupOf K) tupOfD := by
  intro S H as cs ds vs k Q r hv h q
  unfold tupOfD at h
  split at h
  · obtain ⟨v, rfl, a, us, rfl, hs, is⟩ := shL_one hv
    refine ⟨a, us, rfl, .inl ⟨SqL.of hs, fun p hp => ?_⟩⟩
    have hn := Sub.new (o := .tup us) (r.sub.free hp)
    exact q (.tup _) _ _ _ hn (r.lay hp _) ⟨p, us, rfl, SqT.of upd_same, IsL.mono hn _ _ is⟩ h
  · obtain ⟨v, rfl, h1⟩ := shL_one hv
    obtain ⟨a, us, rfl, hs, is⟩ := h1
    exact ⟨a, us, rfl, .inr ⟨r.sub.t hs, q (.tup _) _ S H (Sub.refl S) r ⟨a, us, rfl, hs, is⟩ h⟩⟩
  · rename_i ns
    obtain ⟨v, rfl, a, rfl, hs⟩ := shL_one hv
    refine ⟨a, _, rfl, .inl ⟨r.sub.l hs, fun p hp => ?_⟩⟩
    have hn := Sub.new (o := .tup (ns.map V.int)) (r.sub.free hp)
    exact q (.tup _) _ _ _ hn (r.lay hp _) ⟨p, _, rfl, SqT.of upd_same, isL_ints _⟩ h
  · exact h.elim
def rLstOf (K : PySem.W.Frag) : RC := fun xs H Q => ∃ p ys, xs = [.ref p] ∧ (SqL K H p ys ∨ SqT K H p ys) ∧ ∀ l, H l = none → Q (.ref l) (upd H l (.lst ys))
/-- list(x), not changed later -/
def lstOfD : List D → (D → Prop) → Prop
  | [.lst ds], k => k (.lst ds)
  | [.tup ds], k => k (.lst ds)
  | [.scr ns], k => k (.lst (ns.map D.int))
  | _, _ => False
theorem c_lstOf : Cl K (rLstOf K) lstOfD := by
  intro S H as cs ds vs k Q r hv h q
  unfold lstOfD at h
  split at h
  · obtain ⟨v, rfl, a, us, rfl, hs, is⟩ := shL_one hv
    refine ⟨a, us, rfl, .inl (SqL.of hs), fun p hp => ?_⟩
    have hn := Sub.new (o := .lst us) (r.sub.free hp)
    exact q (.lst _) _ _ _ hn (r.lay hp _) ⟨p, us, rfl, upd_same, IsL.mono hn _ _ is⟩ h
  · obtain ⟨v, rfl, a, us, rfl, hs, is⟩ := shL_one hv
    refine ⟨a, us, rfl, .inr (r.sub.t hs), fun p hp => ?_⟩
    have hn := Sub.new (o := .lst us) (r.sub.free hp)
    exact q (.lst _) _ _ _ hn (r.lay hp _) ⟨p, us, rfl, upd_same, IsL.mono hn _ _ is⟩ h
  · rename_i ns
    obtain ⟨v, rfl, a, rfl, hs⟩ := shL_one hv
    refine ⟨a, _, rfl, .inl (r.sub.l hs), fun p hp => ?_⟩
    have hn := Sub.new (o := .lst (ns.map V.int)) (r.sub.free hp)
    exact q (.lst _) _ _ _ hn (r.lay hp _) ⟨p, _, rfl, upd_same, isL_ints _⟩ h
  · exact h.elim
end
end DL
set_option Elab.async false
set_option linter.all false
set_option maxRecDepth 100000
set_option maxHeartbeats 2000000
namespace DL
open PySem L2

/-! ### dicts -/
section
variable {K : PySem.W.Frag} {S : Hp}
theorem getK_nil (k : Key) : getK [] k = none := rfl
theorem getK_cons (p : Key × D) (r : List (Key × D)) (k : Key) : getK (p :: r) k = if p.1 = k then some p.2 else getK r k := by
  unfold getK
  rw [List.find?_cons]
  by_cases e : p.1 = k
  · rw [decide_eq_true e, if_pos e]; rfl
  · rw [decide_eq_false e, if_neg e]
theorem getK_set (k j : Key) (d : D) (kvs : List (Key × D)) : getK (setK kvs k d) j = if j = k then some d else getK kvs j := by
  have h1 : ∀ l : List (Key × D), (l.any fun kv => decide (kv.1 = k)) = false → getK (l ++ [(k, d)]) j = if j = k then some d else getK l j := fun l => by
    induction l with
    | nil =>
      intro _
      rw [List.nil_append, getK_cons, getK_nil]
      by_cases e : k = j
      · rw [if_pos e, if_pos e.symm]
      · rw [if_neg e, if_neg fun z => e z.symm]
    | cons p r ih =>
      intro h
      rw [List.any_cons, Bool.or_eq_false_iff] at h
      have np : ¬ p.1 = k := of_decide_eq_false h.1
      rw [List.cons_append, getK_cons, getK_cons, ih h.2]
      by_cases e : p.1 = j
      · rw [if_pos e, if_pos e, if_neg fun z => np (e.trans z)]
      · rw [if_neg e, if_neg e]
  have h2 : ∀ l : List (Key × D), (l.any fun kv => decide (kv.1 = k)) = true → getK (l.map fun kv => if kv.1 = k then (kv.1, d) else kv) j = if j = k then some d else getK l j := fun l => by
    induction l with
    | nil => intro h; cases h
    | cons p r ih =>
      intro h
      rw [List.map_cons, getK_cons, getK_cons]
      by_cases ep : p.1 = k
      · rw [if_pos ep]
        show (if p.1 = j then some d else _) = _
        by_cases e : p.1 = j
        · rw [if_pos e, if_pos (e.symm.trans ep)]
        · rw [if_neg e, if_neg e]
          by_cases hr : (r.any fun kv => decide (kv.1 = k)) = true
          · exact ih hr
          · have nj : ¬ j = k := fun z => e (ep.trans z.symm)
            rw [if_neg nj]
            have : (r.map fun kv => if kv.1 = k then (kv.1, d) else kv) = r := by
              refine (List.map_congr_left fun x hx => ?_).trans (List.map_id r)
              have hf : ¬ x.1 = k := fun z => hr (List.any_eq_true.mpr ⟨x, hx, decide_eq_true z⟩)
              rw [if_neg hf]; rfl
            rw [this]
      · rw [if_neg ep]
        rw [List.any_cons, decide_eq_false ep, Bool.false_or] at h
        by_cases e : p.1 = j
        · rw [if_pos e, if_pos e, if_neg fun z => ep (e.trans z)]
        · rw [if_neg e, if_neg e]
          exact ih h
  unfold setK
  by_cases h : (kvs.any fun kv => decide (kv.1 = k)) = true
  · rw [if_pos h]; exact h2 kvs h
  · rw [if_neg h]; exact h1 kvs (Bool.eq_false_iff.mpr h)
theorem IsK.get : ∀ {kvs : List (Key × D)} {l : List (Key × V)} (k : Key), IsK K S kvs l → (getK kvs k = none ∧ valV l k = none) ∨ ∃ d v, getK kvs k = some d ∧ valV l k = some v ∧ Is K S d v
  | [], _, k, h => by rw [IsK] at h; rw [h]; exact .inl ⟨rfl, rfl⟩
  | kd :: r, _, k, h => by
    obtain ⟨v, l', rfl, h2, h3⟩ := h
    rw [getK_cons]
    by_cases e : kd.1 = k
    · rw [if_pos e]
      exact .inr ⟨kd.2, v, rfl, valV_pos (p := (kd.1, v)) e, h2⟩
    · rw [if_neg e, valV_neg (p := (kd.1, v)) e]
      exact IsK.get k h3
theorem IsK.snoc {d : D} {v : V} {k : Key} (hd : Is K S d v) : ∀ {kvs : List (Key × D)} {l : List (Key × V)}, IsK K S kvs l → IsK K S (kvs ++ [(k, d)]) (l ++ [(k, v)])
  | [], _, h => by rw [IsK] at h; rw [h]; exact ⟨v, [], rfl, hd, rfl⟩
  | kd :: r, _, h => by
    obtain ⟨v', l', rfl, h2, h3⟩ := h
    exact ⟨v', _, rfl, h2, IsK.snoc hd h3⟩
theorem IsK.mapK {d : D} {v : V} {k : Key} (hd : Is K S d v) : ∀ {kvs : List (Key × D)} {l : List (Key × V)}, IsK K S kvs l → IsK K S (kvs.map fun kv => if kv.1 = k then (kv.1, d) else kv) (l.map fun kv => if kv.1 = k then (kv.1, v) else kv)
  | [], _, h => by rw [IsK] at h; rw [h]; exact rfl
  | kd :: r, _, h => by
    obtain ⟨v', l', rfl, h2, h3⟩ := h
    rw [List.map_cons, List.map_cons]
    by_cases e : kd.1 = k
    · rw [if_pos e, if_pos (show (kd.1, v').1 = k from e)]
      exact ⟨v, _, rfl, hd, IsK.mapK hd h3⟩
    · rw [if_neg e, if_neg (show ¬ (kd.1, v').1 = k from e)]
      exact ⟨v', _, rfl, h2, IsK.mapK hd h3⟩
theorem IsK.any {k : Key} : ∀ {kvs : List (Key × D)} {l : List (Key × V)}, IsK K S kvs l → (l.any fun kv => decide (kv.1 = k)) = (kvs.any fun kv => decide (kv.1 = k))
  | [], _, h => by rw [IsK] at h; rw [h]; rfl
  | kd :: r, _, h => by
    obtain ⟨v', l', rfl, h2, h3⟩ := h
    rw [List.any_cons, List.any_cons, IsK.any h3]
theorem IsK.put {d : D} {v : V} {k : Key} {kvs : List (Key × D)} {l : List (Key × V)} (h : IsK K S kvs l) (hd : Is K S d v) : IsK K S (setK kvs k d) (putK l k v) := by
  unfold setK putK
  rw [h.any]
  split
  · exact h.mapK hd
  · exact h.snoc hd
end
def keyD : D → (Key → Prop) → Prop
  | .int i, k => k (.inl i)
  | .str x, k => k (.inr x)
  | _, _ => False
theorem keyD_sh {K : PySem.W.Frag} {S H : Hp} {d : D} {v : V} {k : Key → Prop} (h : Sh K S H d v) (q : keyD d k) : ∃ key, v = kV key ∧ k key := by
  unfold keyD at q
  split at q
  · exact ⟨.inl _, sh_int h, q⟩
  · exact ⟨.inr _, sh_str h, q⟩
  · exact q.elim
/-- key in dict -/
def dInK (neg : Bool) (a b : DE) : DE := fun en cs k => a en cs fun x cs1 => b en cs1 fun y cs2 => withD cs2 x fun dx => withD cs2 y fun dy =>
  match dy with
  | .dic kvs => keyD dx fun key => k (.d (.bl (if neg = true then !(getK kvs key).isSome else (getK kvs key).isSome))) cs2
  | _ => False
section
variable {X : Cx} {pos : Pos}
theorem dget_of {K : PySem.W.Frag} {S H : Hp} {as : List Addr} {cs : Cs} (r : Rep K S H as cs) {kvs : List (Key × D)} {y : V} (hy : Sh K S H (.dic kvs) y) (key : Key) :
    ∃ a o, y = .ref a ∧ DGet H a (kV key) o ∧ ((getK kvs key = none ∧ o = none) ∨ ∃ d v, getK kvs key = some d ∧ o = some v ∧ Is K S d v) := by
  obtain ⟨a, kv, rfl, hs, is⟩ := hy
  exact ⟨a, _, rfl, DGet.k hs, is.get key⟩
theorem q_inK {a b : Expr} {ta tb : TE} {da db : DE} (hu : X.A.units + 1 < cLine) (ha : QE X a ta da) (hb : QE X b tb db) (hm : behindInMarks .In b = false := by rfl) : QE X (.Compare a [.In] [b] pos) (tDIn ta tb) (dInK false da db) := by
  refine ⟨pe_cmp (pc_din hu ha.pe hb.pe) hm, ?_⟩
  intro σ H S as en cs k Q rp e q p
  refine ha.sem.use rp e q fun z v S1 H1 as1 cs1 e1 r1 v1 q1 => ?_
  refine hb.sem.use r1 (e.mono e1) q1 fun z2 v2 S2 H2 as2 cs2 e2 r2 w2 q2 => ?_
  obtain ⟨dx, l1, q2⟩ := withD_look q2
  obtain ⟨dy, l2, q2⟩ := withD_look q2
  split at q2
  · obtain ⟨key, rfl, q2⟩ := keyD_sh (look_sh r2 (v1.mono e2) l1) q2
    obtain ⟨ad, o, rfl, g, c⟩ := dget_of r2 (look_sh r2 w2 l2) key
    refine ⟨ad, o, rfl, g, p _ _ S2 H2 as2 cs2 (e1.trans e2) r2 ?_ q2⟩
    rw [if_neg (by decide)]
    rcases c with ⟨h1, h2⟩ | ⟨d, u, h1, h2, _⟩ <;> (rw [h1, h2]; exact rfl)
  · exact q2.elim
theorem q_notinK {a b : Expr} {ta tb : TE} {da db : DE} (hu : X.A.units + 1 < cLine) (ha : QE X a ta da) (hb : QE X b tb db) (hm : behindInMarks .NotIn b = false := by rfl) : QE X (.Compare a [.NotIn] [b] pos) (tDNotIn ta tb) (dInK true da db) := by
  refine ⟨pe_cmp (pc_dnotin hu ha.pe hb.pe) hm, ?_⟩
  intro σ H S as en cs k Q rp e q p
  refine ha.sem.use rp e q fun z v S1 H1 as1 cs1 e1 r1 v1 q1 => ?_
  refine hb.sem.use r1 (e.mono e1) q1 fun z2 v2 S2 H2 as2 cs2 e2 r2 w2 q2 => ?_
  obtain ⟨dx, l1, q2⟩ := withD_look q2
  obtain ⟨dy, l2, q2⟩ := withD_look q2
  split at q2
  · obtain ⟨key, rfl, q2⟩ := keyD_sh (look_sh r2 (v1.mono e2) l1) q2
    obtain ⟨ad, o, rfl, g, c⟩ := dget_of r2 (look_sh r2 w2 l2) key
    refine ⟨ad, o, rfl, g, p _ _ S2 H2 as2 cs2 (e1.trans e2) r2 ?_ q2⟩
    rw [if_pos rfl]
    rcases c with ⟨h1, h2⟩ | ⟨d, u, h1, h2, _⟩ <;> (rw [h1, h2]; exact rfl)
  · exact q2.elim
/-- d[k] -/
def dGetK (a b : DE) : DE := fun en cs k => a en cs fun x cs1 => b en cs1 fun y cs2 => withD cs2 x fun dx => withD cs2 y fun dy =>
  match dx with
  | .dic kvs => keyD dy fun key => match getK kvs key with
    | some d => k (.d d) cs2
    | none => False
  | _ => False
theorem q_getK {a b : Expr} {ta tb : TE} {da db : DE} (hu : X.A.units + 1 < cLine) (ha : QE X a ta da) (hb : QE X b tb db) (hs : NoSl b) : QE X (.Subscript a b pos) (tDGet ta tb) (dGetK da db) := by
  refine ⟨pe_dget hu ha.pe hb.pe hs, ?_⟩
  intro σ H S as en cs k Q rp e q p
  refine ha.sem.use rp e q fun z v S1 H1 as1 cs1 e1 r1 v1 q1 => ?_
  refine hb.sem.use r1 (e.mono e1) q1 fun z2 v2 S2 H2 as2 cs2 e2 r2 w2 q2 => ?_
  obtain ⟨dx, l1, q2⟩ := withD_look q2
  obtain ⟨dy, l2, q2⟩ := withD_look q2
  split at q2
  · obtain ⟨key, rfl, q2⟩ := keyD_sh (look_sh r2 w2 l2) q2
    obtain ⟨ad, o, rfl, g, c⟩ := dget_of r2 (look_sh r2 (v1.mono e2) l1) key
    split at q2
    · rename_i d hd
      rcases c with ⟨h1, h2⟩ | ⟨d', u, h1, h2, h3⟩
      · rw [h1] at hd; cases hd
      · rw [h1] at hd; cases hd
        rw [h2] at g
        exact ⟨ad, u, rfl, g, p (.d _) u S2 H2 as2 cs2 (e1.trans e2) r2 h3 q2⟩
    · exact q2.elim
  · exact q2.elim
/-- {} that will be filled -/
def dDicC : DE := fun _ cs k => k (.c cs.length) (cs ++ [.dic []])
theorem q_dicC : QE X (.Dict [] [] pos) tDNewK dDicC := by
  refine ⟨pe_dnewK, ?_⟩
  intro σ H S as en cs k Q r e q p
  intro a na
  exact p (.c cs.length) (.ref a) S _ (as ++ [a]) _ ⟨Sub.refl _, [a], rfl⟩ (r.cell na (c := .dic []) ⟨r.sub.free na, [], upd_same, rfl⟩) ⟨a, r.get_new a, rfl⟩ q

/-! ### slices -/
def DO := En → Cs → (Option Int → Cs → Prop) → Prop
structure QO (X : Cx) (e : Option Expr) (to : TO) (t : DO) : Prop where
  po : PO X e to
  sem : ∀ (σ : L2.St) (H S : Hp) (as : List Addr) (en : En) (cs : Cs) (k : Option Int → Cs → Prop) (Q : Option Int → Hp → Prop), Rep X.K S H as cs → EnvOk X.K S as en σ → t en cs k →
    (∀ (o : Option Int) (S' H' : Hp) (as' : List Addr) (cs' : Cs), Ext S as S' as' → Rep X.K S' H' as' cs' → k o cs' → Q o H') → to σ H Q
def dNoPart : DO := fun _ cs k => k none cs
def dPart (a : DE) : DO := fun en cs k => a en cs fun z cs1 => ∃ i, z = .d (.int i) ∧ k (some i) cs1
theorem qo_none : QO X none tNoPart dNoPart := ⟨po_none, fun σ H S as en cs k Q r e q p => p none S H as cs Ext.refl r q⟩
theorem qo_some {a : Expr} {ta : TE} {da : DE} (ha : QE X a ta da) : QO X (some a) (tPart ta) (dPart da) := by
  refine ⟨po_some ha.pe, fun σ H S as en cs k Q r e q p => ?_⟩
  refine ha.sem.use r e q fun z v S1 H1 as1 cs1 e1 r1 v1 q1 => ?_
  obtain ⟨i, rfl, q1⟩ := q1
  exact ⟨i, v1, p (some i) S1 H1 as1 cs1 e1 r1 q1⟩
def cutG {α : Type} (xs : List α) (lo hi : Option Int) : List α := (xs.drop (HT.sIx xs.length 0 lo)).take (HT.sIx xs.length xs.length hi - HT.sIx xs.length 0 lo)
def sliceD : D → Option Int → Option Int → (D → Prop) → Prop
  | .lst ds, lo, hi, k => k (.lst (cutG ds lo hi))
  | .tup ds, lo, hi, k => k (.tup (cutG ds lo hi))
  | _, _, _, _ => False
def rSlU (K : PySem.W.Frag) : V → Option Int → Option Int → Hp → VK → Prop := fun x lo hi H Q => rSlL K x lo hi H Q ∨ rSlA K x lo hi H Q
theorem sl_U : SlR X (rSlU X.K) := SlR.or sl_list sl_tupA
def dSl (a : DE) (lo hi : DO) : DE := fun en cs k => a en cs fun x cs1 => lo en cs1 fun l cs2 => hi en cs2 fun h cs3 => withD cs3 x fun dx => sliceD dx l h fun z => k (.d z) cs3
theorem IsL.cut {K : PySem.W.Frag} {S : Hp} {ds : List D} {vs : List V} (h : IsL K S ds vs) (lo hi : Option Int) : IsL K S (cutG ds lo hi) (cutV vs lo hi) := by
  unfold cutG cutV
  rw [h.len]
  exact (h.drop _).take _
theorem q_slice {a : Expr} {lo hi : Option Expr} {ta : TE} {da : DE} {tl th : TO} {dl dh : DO} {p2 : Pos} (ha : QE X a ta da) (hl : QO X lo tl dl) (hh : QO X hi th dh) : QE X (.Subscript a (.Slice lo hi none p2) pos) (tSl (rSlU X.K) ta tl th) (dSl da dl dh) := by
  refine ⟨pe_slice sl_U ha.pe hl.po hh.po, ?_⟩
  intro σ H S as en cs k Q rp e q p
  refine ha.sem.use rp e q fun z v S1 H1 as1 cs1 e1 r1 v1 q1 => ?_
  refine hl.sem σ H1 S1 as1 en cs1 _ _ r1 (e.mono e1) q1 fun l S2 H2 as2 cs2 e2 r2 q2 => ?_
  refine hh.sem σ H2 S2 as2 en cs2 _ _ r2 (e.mono (e1.trans e2)) q2 fun h S3 H3 as3 cs3 e3 r3 q3 => ?_
  obtain ⟨dx, l1, q3⟩ := withD_look q3
  have hx := look_sh r3 (v1.mono (e2.trans e3)) l1
  have E := (e1.trans e2).trans e3
  cases dx with
  | lst ds =>
    obtain ⟨ad, vs, rfl, hs, is⟩ := hx
    refine .inl ⟨ad, vs, rfl, SqL.of hs, fun b hb => ?_⟩
    have hn := Sub.new (o := .lst (cutV vs l h)) (r3.sub.free hb)
    exact p (.d (.lst _)) _ _ _ as3 cs3 (E.trans (Ext.of hn)) (r3.lay hb _) ⟨b, _, rfl, upd_same, IsL.mono hn _ _ (is.cut l h)⟩ q3
  | tup ds =>
    obtain ⟨ad, vs, rfl, hs, is⟩ := hx
    refine .inr ⟨ad, vs, rfl, r3.sub.t hs, fun w => ?_, fun _ b hb => ?_⟩
    · refine p (.d (.tup _)) _ S3 H3 as3 cs3 E r3 ⟨ad, vs, rfl, hs, ?_⟩ q3
      unfold cutG
      rw [← is.len, w.1, w.2, List.drop_zero, Nat.sub_zero, is.len, List.take_length]
      exact is
    · have hn := Sub.new (o := .tup (cutV vs l h)) (r3.sub.free hb)
      exact p (.d (.tup _)) _ _ _ as3 cs3 (E.trans (Ext.of hn)) (r3.lay hb _) ⟨b, _, rfl, SqT.of upd_same, IsL.mono hn _ _ (is.cut l h)⟩ q3
  | _ => exact q3.elim
/-- n.bit_length() -/
def dBits (a : DE) : DE := fun en cs k => a en cs fun z cs1 => ∃ i, z = .d (.int i) ∧ k (.d (.int (Builtin.Int.intBits i : Nat))) cs1
theorem q_bits {o : Expr} {to : TE} {d : DE} {apos : Pos} (ho : QE X o to d) (hbase : attributeBase o "bit_length" X.env (eval o X.env) = eval o X.env := by rfl) (hline : (apos.endLine == pos.line) = true := by rfl) : QE X (.Call (.Attribute o "bit_length" apos) [] [] pos) (tBits to) (dBits d) := by
  refine ⟨pe_bits ho.pe hbase hline, ?_⟩
  intro σ H S as en cs k Q rp e q p
  refine ho.sem.use rp e q fun z v S1 H1 as1 cs1 e1 r1 v1 q1 => ?_
  obtain ⟨i, rfl, q1⟩ := q1
  exact ⟨i, v1, p (.d (.int _)) _ S1 H1 as1 cs1 e1 r1 rfl q1⟩
end
end DL
set_option Elab.async false
set_option linter.all false
set_option maxRecDepth 100000
set_option maxHeartbeats 2000000
namespace DL
open PySem L2

/-! ### targets -/
theorem wipe_set {σ : L2.St} {i : Nat} {o : Option V} : ∀ {own : List Nat}, i ∈ own → L2.wipe (σ.set i o) own = L2.wipe σ own
  | [], h => by simp at h
  | j :: js, h => by
    show (L2.wipe (σ.set i o) js).set j none = (L2.wipe σ js).set j none
    by_cases hj : i ∈ js
    · rw [wipe_set hj]
    · have e : i = j := by
        rcases List.mem_cons.mp h with e | e
        · exact e
        · exact absurd e hj
      subst e
      have far : ∀ (τ : L2.St) (ks : List Nat), i ∉ ks → L2.wipe (τ.set i o) ks = (L2.wipe τ ks).set i o := fun τ ks => by
        induction ks with
        | nil => intro _; rfl
        | cons k ks ih =>
          intro hk
          show (L2.wipe (τ.set i o) ks).set k none = ((L2.wipe τ ks).set k none).set i o
          rw [ih fun z => hk (List.mem_cons_of_mem _ z), List.set_comm _ _ (show i ≠ k from fun z => hk (z ▸ List.mem_cons_self))]
      rw [far σ js hj, List.set_set]
theorem wipe_wipe {σ : L2.St} : ∀ (own js : List Nat), (∀ j ∈ js, j ∈ own) → L2.wipe (L2.wipe σ js) own = L2.wipe σ own
  | _, [], _ => rfl
  | own, j :: js, h => by
    show L2.wipe ((L2.wipe σ js).set j none) own = _
    rw [wipe_set (h j List.mem_cons_self)]
    exact wipe_wipe own js fun k hk => h k (List.mem_cons_of_mem _ hk)
def GQ (K : PySem.W.Frag) (S : Hp) (as : List Addr) (σ : L2.St) (is : List Nat) (k : En → Cs → Prop) (Q : L2.St → Hp → Prop) : Prop :=
  ∀ (σ' : L2.St) (S' H' : Hp) (as' : List Addr) (en' : En) (cs' : Cs), Ext S as S' as' → Rep K S' H' as' cs' → EnvOk K S' as' en' σ' → (∀ own : List Nat, (∀ i ∈ is, i ∈ own) → L2.wipe σ' own = L2.wipe σ own) → k en' cs' → Q σ' H'
def SemG (K : PySem.W.Frag) (g : TG) (dg : DG) (is : List Nat) : Prop :=
  ∀ (z : Z) (v : V) (σ : L2.St) (H S : Hp) (as : List Addr) (en : En) (cs : Cs) (k : En → Cs → Prop) (Q : L2.St → Hp → Prop), Rep K S H as cs → EnvOk K S as en σ → VZ K S as z v → dg z en cs k → GQ K S as σ is k Q → g v σ H Q
def SemGs (K : PySem.W.Frag) (g : TGs) (dg : DGs) (is : List Nat) : Prop :=
  ∀ (ds : List D) (vs : List V) (σ : L2.St) (H S : Hp) (as : List Addr) (en : En) (cs : Cs) (k : En → Cs → Prop) (Q : L2.St → Hp → Prop), Rep K S H as cs → EnvOk K S as en σ → IsL K S ds vs → dg ds en cs k → GQ K S as σ is k Q → g vs σ H Q
structure QG (X : Cx) (tg : Expr) (g : TG) (dg : DG) (is : List Nat) : Prop where
  pg : PG X tg g
  sem : SemG X.K g dg is
structure QGs (X : Cx) (ts : List Expr) (g : TGs) (dg : DGs) (is : List Nat) : Prop where
  pgs : PGs X ts g
  sem : SemGs X.K g dg is
section
variable {X : Cx} {pos : Pos}
def dgName (i : Nat) : DG := fun z en cs k => k (en.set i (some z)) cs
theorem sem_gname {K : PySem.W.Frag} (i : Nat) : SemG K (gName i) (dgName i) [i] := by
  intro z v σ H S as en cs k Q r e vz h p
  exact p (σ.set i (some v)) S H as _ cs Ext.refl r (e.set vz i) (fun own ho => wipe_set (ho i List.mem_cons_self)) h
theorem qg_name (i : Nat) {x : Str} (hN : X.N.Nodup) (hi : X.N[i]? = some x := by rfl) (hx : Loc X.env.scope x := by first | exact Or.inl rfl | exact Or.inr rfl) (hf : X.fn x = true ∨ X.env.scope.names.lookup x = some .local := by first | exact .inl rfl | exact .inr rfl | assumption) : QG X (.Name x pos) (gName i) (dgName i) [i] := ⟨pg_name hN hi hx hf, sem_gname i⟩
def dgsNil : DGs := fun ds en cs k => ds = [] ∧ k en cs
def dgsCons (g : DG) (r : DGs) : DGs := fun ds en cs k => match ds with
  | d :: ds => g (.d d) en cs fun en1 cs1 => r ds en1 cs1 k
  | [] => False
theorem qgs_nil : QGs X [] gNil dgsNil [] := by
  refine ⟨pgs_nil, ?_⟩
  intro ds vs σ H S as en cs k Q r e hv h p
  obtain ⟨rfl, h⟩ := h
  rw [IsL] at hv
  exact ⟨hv, p σ S H as en cs Ext.refl r e (fun _ _ => rfl) h⟩
theorem qgs_cons {e : Expr} {es : List Expr} {g : TG} {gs : TGs} {dg : DG} {dgs : DGs} {is js : List Nat} (h1 : QG X e g dg is) (h2 : QGs X es gs dgs js) (hs : (assignEach (e :: es) X.env).map (·.2) = assign e X.env :: (assignEach es X.env).map (·.2) := by rfl) : QGs X (e :: es) (gCons g gs) (dgsCons dg dgs) (is ++ js) := by
  refine ⟨pgs_cons h1.pg h2.pgs hs, ?_⟩
  intro ds vs σ H S as en cs k Q r e hv h p
  cases ds with
  | nil => exact h.elim
  | cons d ds =>
    obtain ⟨v, vr, rfl, i1, i2⟩ := hv
    refine ⟨v, vr, rfl, h1.sem (.d d) v σ H S as en cs _ _ r e i1 h fun σ1 S1 H1 as1 en1 cs1 e1 r1 ev1 w1 q1 => ?_⟩
    refine h2.sem ds vr σ1 H1 S1 as1 en1 cs1 k Q r1 ev1 (IsL.mono e1.sub _ _ i2) q1 fun σ2 S2 H2 as2 en2 cs2 e2 r2 ev2 w2 q2 => ?_
    exact p σ2 S2 H2 as2 en2 cs2 (e1.trans e2) r2 ev2 (fun own ho => (w2 own fun i hi => ho i (List.mem_append_right _ hi)).trans (w1 own fun i hi => ho i (List.mem_append_left _ hi))) q2
def dgTup (n : Nat) (g : DGs) : DG := fun z en cs k => match z with
  | .d (.tup ds) => ds.length = n ∧ g ds en cs k
  | _ => False
theorem qg_tup {es : List Expr} {kk n : Nat} {g : TGs} {dg : DGs} {is : List Nat} (h : QGs X es g dg is) (hc : X.calm = true := by rfl) (hn : (assignEach es X.env).length = n := by rfl) (hst : (assignEach es X.env).findIdx? (·.1) = none := by rfl) :
    QG X (.Tuple es kk pos) (gTup X.K n g) (dgTup n dg) is := by
  refine ⟨pg_tup hc h.pgs hn hst, ?_⟩
  intro z v σ H S as en cs k Q r e vz hh p
  unfold dgTup at hh
  split at hh
  · obtain ⟨a, vs, rfl, hs, i⟩ := vz
    exact ⟨a, vs, rfl, r.sub.t hs, by rw [i.len]; exact hh.1, h.sem _ vs σ H S as en cs k Q r e i hh.2 p⟩
  · exact hh.elim
/-- xs[i] = v, xs a cell -/
def dgSet (o i : DE) : DG := fun z en cs k => o en cs fun x cs1 => i en cs1 fun y cs2 => match x, y, z with
  | .c n, .d (.int j), .d d => match cs2[n]? with
    | some (.lst ds) => ∃ m, ixN ds.length j = some m ∧ k en (cs2.set n (.lst (ds.set m d)))
    | _ => False
  | _, _, _ => False
theorem Rep.cell_lst {K : PySem.W.Frag} {S H : Hp} {as : List Addr} {cs : Cs} (r : Rep K S H as cs) {n : Nat} {a : Addr} {ds : List D} (h1 : as[n]? = some a) (h2 : cs[n]? = some (.lst ds)) : S a = none ∧ ∃ vs, H a = some (.lst vs) ∧ IsL K S ds vs := r.cel n a _ h1 h2
theorem qg_set {o i : Expr} {to ti : TE} {od id : DE} (ho : QE X o to od) (hi : QE X i ti id)
    (ha : ∀ v, assign (.Subscript o i pos) X.env v = (do
      let ov ← holding [v] (eval o X.env)
      let iv ← holding [v, ov] (eval i X.env)
      standAt pos
      holding [v, ov, iv] (setItem ov iv v)
      release [v, ov, iv] []) := by intro _; rfl) : QG X (.Subscript o i pos) (gSub to ti rSetL) (dgSet od id) [] := by
  refine ⟨pg_sub ho.pe hi.pe set_list ha, ?_⟩
  intro z v σ H S as en cs k Q r e vz hh p
  refine ho.sem.use r e hh fun z1 v1 S1 H1 as1 cs1 e1 r1 w1 q1 => ?_
  refine hi.sem.use r1 (e.mono e1) q1 fun z2 v2 S2 H2 as2 cs2 e2 r2 w2 q2 => ?_
  split at q2
  · rename_i n j d
    split at q2
    · rename_i ds hc
      obtain ⟨m, hm, q2⟩ := q2
      obtain ⟨a, ha1, rfl⟩ := w1.mono e2
      obtain ⟨hS, vs, hl, is⟩ := r2.cell_lst ha1 hc
      have vd : Is X.K S2 d v := Is.mono (e1.trans e2).sub _ _ vz
      refine ⟨a, vs, j, m, rfl, w2, hl, by rw [is.len]; exact hm, ?_⟩
      exact p σ S2 _ as2 en _ (e1.trans e2) (r2.put ha1 (c := .lst (ds.set m d)) ⟨hS, _, upd_same, is.set vd⟩ hS) (e.mono (e1.trans e2)) (fun _ _ => rfl) q2
    · exact q2.elim
  · exact q2.elim

/-! ### what is walked -/
structure Wk (K : PySem.W.Frag) (J : It) (S : Hp) (as : List Addr) (ds : List D) (keep : Cs → Prop) : Prop where
  stop : ∀ (S' H : Hp) (as' : List Addr) (cs : Cs) (i : Nat), Ext S as S' as' → Rep K S' H as' cs → keep cs → ds.length ≤ i → J.stop i H
  go : ∀ (S' H : Hp) (as' : List Addr) (cs : Cs) (i : Nat) (d : D), Ext S as S' as' → Rep K S' H as' cs → keep cs → ds[i]? = some d →
    J.go i H ∧ ∀ x H', J.yld i H x H' → ∃ S'', Sub S' S'' ∧ Rep K S'' H' as' cs ∧ Is K S'' d x
structure QI (X : Cx) (tg iter : Expr) (wi : TI) (it : DI) : Prop where
  pi : PI X tg iter wi
  sem : ∀ (σ : L2.St) (H S : Hp) (as : List Addr) (en : En) (cs : Cs) (k : List D → (Cs → Prop) → Cs → Prop) (R : It → Hp → Prop), Rep X.K S H as cs → EnvOk X.K S as en σ → it en cs k →
    (∀ (J : It) (S' H' : Hp) (as' : List Addr) (ds : List D) (keep : Cs → Prop) (cs' : Cs), Ext S as S' as' → Rep X.K S' H' as' cs' → Wk X.K J S' as' ds keep → k ds keep cs' → R J H') → wi σ H R
def yes : Cs → Prop := fun _ => True
/-- a list or tuple, and which cells must stay -/
def seqD (cs : Cs) (z : Z) (k : List D → (Cs → Prop) → Prop) : Prop :=
  match z with
  | .d (.lst ds) => k ds yes
  | .d (.tup ds) => k ds yes
  | .d (.scr ns) => k (ns.map D.int) yes
  | .c n => match cs[n]? with
    | some (.lst ds) => k ds fun c => c[n]? = some (.lst ds)
    | _ => False
  | _ => False
def diSeq (a : DE) : DI := fun en cs k => a en cs fun z cs1 => seqD cs1 z fun ds keep => k ds keep cs1
def iSeq (K : PySem.W.Frag) (tl : TE) : TI := fun σ H R => tl σ H fun x H1 => ∃ a, x = .ref a ∧ ((∃ xs, SqL K H1 a xs ∧ R (Itl K a) H1) ∨ ∃ xs, SqT K H1 a xs ∧ R (Itt K a) H1)
theorem pi_seq {tg l : Expr} {tl : TE} (hl : PE X l tl) : PI X tg l (iSeq X.K tl) := by
  refine ⟨fun pins s σ H R I h => thn (hl.run pins s σ H _ I h) fun v s1 ⟨x, H1, I1, r1, a, e, q⟩ => ?_⟩
  subst e
  cases r1
  have fp : ∀ {c : String} (b : Addr), b ∈ [s1.heap.objs.size] → FpOk X pins H1 b := fun b hb => by
    have e : b = s1.heap.objs.size := by simpa using hb
    subst e
    exact I1.fpOk (Nat.le_refl _) (I1.hok.fresh (Nat.le_refl _))
  rcases q with ⟨xs, hq, q⟩ | ⟨xs, hq, q⟩
  · obtain ⟨its, rv, pl, hz⟩ := I1.list hq
    exact wpAny_pyIter_list pl.isList ⟨_, [s1.heap.objs.size], _, _, H1, rfl, I1.kept (t' := s1.toks) fun b o e => Heap.get?_push_of_some _ e, turn_list a _, ⟨_, Heap.get?_push_size _ rfl, rfl, rfl⟩, fp (c := ""), q⟩
  · obtain ⟨its, rv, pl, hz⟩ := I1.tuple hq
    exact wpAny_pyIter_tuple pl ⟨_, [s1.heap.objs.size], _, _, H1, rfl, I1.kept (t' := s1.toks) fun b o e => Heap.get?_push_of_some _ e, turn_tuple a _, ⟨_, Heap.get?_push_size _ rfl, rfl, rfl⟩, fp (c := ""), q⟩
theorem wk_l {K : PySem.W.Frag} {S : Hp} {as : List Addr} {ds : List D} {keep : Cs → Prop} {a : Addr}
    (h : ∀ (S' H : Hp) (as' : List Addr) (cs : Cs), Ext S as S' as' → Rep K S' H as' cs → keep cs → ∃ vs, SqL K H a vs ∧ IsL K S' ds vs) : Wk K (Itl K a) S as ds keep := by
  refine ⟨fun S' H as' cs i e r kp hi => ?_, fun S' H as' cs i d e r kp hi => ?_⟩
  · obtain ⟨vs, h1, h2⟩ := h S' H as' cs e r kp
    exact ⟨vs, h1, by rw [h2.len]; exact hi⟩
  · obtain ⟨vs, h1, h2⟩ := h S' H as' cs e r kp
    obtain ⟨v, hv, iv⟩ := h2.get hi
    refine ⟨⟨vs, v, h1, hv⟩, fun x H' y => ?_⟩
    obtain ⟨rfl, f⟩ := y
    have ex : v = x := Option.some.inj (hv.symm.trans (f vs h1))
    subst ex
    exact ⟨S', Sub.refl S', r, iv⟩
theorem wk_t {K : PySem.W.Frag} {S : Hp} {as : List Addr} {ds : List D} {a : Addr} {vs : List V} (h1 : SqT K S a vs) (h2 : IsL K S ds vs) : Wk K (Itt K a) S as ds yes := by
  refine ⟨fun S' H as' cs i e r kp hi => ⟨vs, r.sub.t (e.sub.t h1), by rw [h2.len]; exact hi⟩, fun S' H as' cs i d e r kp hi => ?_⟩
  obtain ⟨v, hv, iv⟩ := h2.get hi
  have ht := r.sub.t (e.sub.t h1)
  refine ⟨⟨vs, v, ht, hv⟩, fun x H' y => ?_⟩
  obtain ⟨rfl, f⟩ := y
  have ex : v = x := Option.some.inj (hv.symm.trans (f vs ht))
  subst ex
  exact ⟨S', Sub.refl S', r, Is.mono e.sub _ _ iv⟩
theorem qi_seq {tg l : Expr} {tl : TE} {dl : DE} (hl : QE X l tl dl) : QI X tg l (iSeq X.K tl) (diSeq dl) := by
  refine ⟨pi_seq hl.pe, fun σ H S as en cs k R r e h p => ?_⟩
  refine hl.sem.use r e h fun z v S1 H1 as1 cs1 e1 r1 v1 q1 => ?_
  unfold seqD at q1
  split at q1
  · obtain ⟨a, vs, rfl, hs, is⟩ := v1
    exact ⟨a, rfl, .inl ⟨vs, SqL.of (r1.sub _ _ hs), p _ S1 H1 as1 _ yes cs1 e1 r1 (wk_l fun S' H as' cs e r _ => ⟨vs, SqL.of (r.sub _ _ (e.sub _ _ hs)), IsL.mono e.sub _ _ is⟩) q1⟩⟩
  · obtain ⟨a, vs, rfl, hs, is⟩ := v1
    exact ⟨a, rfl, .inr ⟨vs, r1.sub.t hs, p _ S1 H1 as1 _ yes cs1 e1 r1 (wk_t hs is) q1⟩⟩
  · obtain ⟨a, rfl, hs⟩ := v1
    exact ⟨a, rfl, .inl ⟨_, r1.sub.l hs, p _ S1 H1 as1 _ yes cs1 e1 r1 (wk_l fun S' H as' cs e r _ => ⟨_, r.sub.l (e.sub.l hs), isL_ints _⟩) q1⟩⟩
  · rename_i n
    obtain ⟨a, ha, rfl⟩ := v1
    split at q1
    · rename_i ds hc
      obtain ⟨hS, vs, hl, is⟩ := r1.cell_lst ha hc
      refine ⟨a, rfl, .inl ⟨vs, SqL.of hl, p _ S1 H1 as1 _ _ cs1 e1 r1 (wk_l fun S' H as' cs e r kp => ?_) q1⟩⟩
      obtain ⟨_, vs', hl', is'⟩ := r.cell_lst (e.get ha) kp
      exact ⟨vs', SqL.of hl', is'⟩
    · exact q1.elim
  · exact q1.elim
/-- range(n), range(a, b) -/
def rgD (lo : Int) (n : Nat) : List D := (List.range n).map fun (i : Nat) => D.int (lo + (i : Int))
theorem rgD_len (lo : Int) (n : Nat) : (rgD lo n).length = n := by unfold rgD; rw [List.length_map, List.length_range]
theorem rgD_get {lo : Int} {n i : Nat} {d : D} (h : (rgD lo n)[i]? = some d) : i < n ∧ d = .int (lo + (i : Int)) := by
  unfold rgD at h
  rw [List.getElem?_map] at h
  cases q : (List.range n)[i]? with
  | none => rw [q] at h; cases h
  | some j =>
    rw [q] at h
    have hl := (List.getElem?_eq_some_iff.mp q)
    obtain ⟨h1, h2⟩ := hl
    rw [List.getElem_range] at h2
    subst h2
    rw [List.length_range] at h1
    exact ⟨h1, (Option.some.inj h).symm⟩
def Rg (i : Int) : Prop := -(2 ^ 62) ≤ i ∧ i < 2 ^ 62
theorem wk_r {K : PySem.W.Frag} {S : Hp} {as : List Addr} {lo : Int} {n : Nat} : Wk K (Itr lo n) S as (rgD lo n) yes := by
  refine ⟨fun S' H as' cs i e r kp hi => by rw [rgD_len] at hi; exact hi, fun S' H as' cs i d e r kp hi => ?_⟩
  obtain ⟨h1, rfl⟩ := rgD_get hi
  exact ⟨h1, fun x H' y => ⟨S', Sub.refl S', by rw [y.1]; exact r, y.2⟩⟩
def diR1 (a : DE) : DI := fun en cs k => a en cs fun z cs1 => ∃ j, z = .d (.int j) ∧ Rg j ∧ k (rgD 0 j.toNat) yes cs1
def diR2 (a b : DE) : DI := fun en cs k => a en cs fun z cs1 => b en cs1 fun w cs2 => ∃ i j, z = .d (.int i) ∧ w = .d (.int j) ∧ (Rg i ∧ Rg j) ∧ k (rgD i (j - i).toNat) yes cs2
theorem qi_range1 {tg a : Expr} {ta : TE} {da : DE} {p : Pos} (hm : X.mg "range" = none) (ha : QE X a ta da) (hg : Gl X "range" := by rfl) (hs : starEach [a] X.env = [(false, eval a X.env)] := by rfl) : QI X tg (.Call (.Name "range" p) [a] [] pos) (iRng1 (tCons ta tNil)) (diR1 da) := by
  refine ⟨pi_range1 hg hm (pa_cons ha.pe pa_nil hs) hs, fun σ H S as en cs k R r e h p => ?_⟩
  refine ha.sem.use r e h fun z v S1 H1 as1 cs1 e1 r1 v1 q1 => ?_
  obtain ⟨j, rfl, ⟨b1, b2⟩, q1⟩ := q1
  rw [show v = .int j from v1]
  exact ⟨j, rfl, b1, b2, p _ S1 H1 as1 _ yes cs1 e1 r1 wk_r q1⟩
theorem qi_range2 {tg a b : Expr} {ta tb : TE} {da db : DE} {p : Pos} (hm : X.mg "range" = none) (ha : QE X a ta da) (hb : QE X b tb db) (hg : Gl X "range" := by rfl) (hs : starEach [a, b] X.env = [(false, eval a X.env), (false, eval b X.env)] := by rfl) (hs2 : starEach [b] X.env = [(false, eval b X.env)] := by rfl) :
    QI X tg (.Call (.Name "range" p) [a, b] [] pos) (iRng2 (tCons ta (tCons tb tNil))) (diR2 da db) := by
  refine ⟨pi_range2 hg hm (pa_cons ha.pe (pa_cons hb.pe pa_nil hs2) (by rw [hs, hs2])) hs hs2, fun σ H S as en cs k R r e h p => ?_⟩
  refine ha.sem.use r e h fun z v S1 H1 as1 cs1 e1 r1 v1 q1 => ?_
  refine hb.sem.use r1 (e.mono e1) q1 fun z2 v2 S2 H2 as2 cs2 e2 r2 w2 q2 => ?_
  obtain ⟨i, j, rfl, rfl, ⟨⟨b1, b2⟩, b3, b4⟩, q2⟩ := q2
  rw [show v = .int i from v1, show v2 = .int j from w2]
  exact ⟨i, j, rfl, ⟨b1, b2, b3, b4⟩, p _ S2 H2 as2 _ yes cs2 (e1.trans e2) r2 wk_r q2⟩
/-- enumerate(xs) -/
def enumD (ds : List D) : List D := ds.zipIdx.map fun p => D.tup [.int (p.2 : Int), p.1]
theorem enumD_get {ds : List D} {i : Nat} {x : D} (h : (enumD ds)[i]? = some x) : ∃ d, ds[i]? = some d ∧ x = .tup [.int (i : Int), d] := by
  unfold enumD at h
  rw [List.getElem?_map, List.getElem?_zipIdx] at h
  cases q : ds[i]? with
  | none => rw [q] at h; cases h
  | some d =>
    rw [q] at h
    have e := Option.some.inj h
    refine ⟨d, rfl, ?_⟩
    rw [← e]
    simp
theorem enumD_len (ds : List D) : (enumD ds).length = ds.length := by unfold enumD; rw [List.length_map, List.length_zipIdx]
def diEnum (a : DE) : DI := fun en cs k => a en cs fun z cs1 => match z with
  | .d (.tup _) => False
  | z => seqD cs1 z fun ds keep => k (enumD ds) keep cs1
theorem wk_e {K : PySem.W.Frag} {S : Hp} {as : List Addr} {ds : List D} {keep : Cs → Prop} {a : Addr}
    (h : ∀ (S' H : Hp) (as' : List Addr) (cs : Cs), Ext S as S' as' → Rep K S' H as' cs → keep cs → ∃ vs, SqL K H a vs ∧ IsL K S' ds vs) : Wk K (Ite K a) S as (enumD ds) keep := by
  refine ⟨fun S' H as' cs i e r kp hi => ?_, fun S' H as' cs i d e r kp hi => ?_⟩
  · obtain ⟨vs, h1, h2⟩ := h S' H as' cs e r kp
    rw [enumD_len] at hi
    exact ⟨vs, h1, by rw [h2.len]; exact hi⟩
  · obtain ⟨d', hd, rfl⟩ := enumD_get hi
    obtain ⟨vs, h1, h2⟩ := h S' H as' cs e r kp
    obtain ⟨v, hv, iv⟩ := h2.get hd
    refine ⟨⟨vs, v, h1, hv⟩, fun x H' y => ?_⟩
    obtain ⟨T, x', rfl, nT, rfl, f⟩ := y
    have ex : v = x' := Option.some.inj (hv.symm.trans (f vs h1))
    subst ex
    have hn := Sub.new (o := .tup [.int (i : Nat), v]) (r.sub.free nT)
    exact ⟨_, hn, r.lay nT _, T, _, rfl, SqT.of upd_same, ⟨_, _, rfl, rfl, ⟨_, _, rfl, Is.mono hn _ _ iv, rfl⟩⟩⟩
theorem qi_enum {a : Expr} {elts : List Expr} {kk : Nat} {ta : TE} {da : DE} {p tpos : Pos} (hm : X.mg "enumerate" = none) (ha : QE X a ta da) (hg : Gl X "enumerate" := by rfl) (hs : starEach [a] X.env = [(false, eval a X.env)] := by rfl) : QI X (.Tuple elts kk tpos) (.Call (.Name "enumerate" p) [a] [] pos) (iEnum X.K (tCons ta tNil)) (diEnum da) := by
  refine ⟨pi_enum hg hm (pa_cons ha.pe pa_nil hs) hs, fun σ H S as en cs k R r e h p => ?_⟩
  refine ha.sem.use r e h fun z v S1 H1 as1 cs1 e1 r1 v1 q1 => ?_
  cases z with
  | d x =>
    cases x with
    | lst ds =>
      obtain ⟨a, vs, rfl, hs, is⟩ := v1
      exact ⟨a, vs, rfl, SqL.of (r1.sub _ _ hs), p _ S1 H1 as1 _ yes cs1 e1 r1 (wk_e fun S' H as' cs e r _ => ⟨vs, SqL.of (r.sub _ _ (e.sub _ _ hs)), IsL.mono e.sub _ _ is⟩) q1⟩
    | scr ns =>
      obtain ⟨a, rfl, hs⟩ := v1
      exact ⟨a, _, rfl, r1.sub.l hs, p _ S1 H1 as1 _ yes cs1 e1 r1 (wk_e fun S' H as' cs e r _ => ⟨_, r.sub.l (e.sub.l hs), isL_ints _⟩) q1⟩
    | _ => exact q1.elim
  | c n =>
    obtain ⟨a, ha, rfl⟩ := v1
    have q1' : (match cs1[n]? with
      | some (.lst ds) => k (enumD ds) (fun c => c[n]? = some (.lst ds)) cs1
      | _ => False) := q1
    split at q1'
    · rename_i ds hc
      obtain ⟨hS, vs, hl, is⟩ := r1.cell_lst ha hc
      refine ⟨a, vs, rfl, SqL.of hl, p _ S1 H1 as1 _ _ cs1 e1 r1 (wk_e fun S' H as' cs e r kp => ?_) q1'⟩
      obtain ⟨_, vs', hl', is'⟩ := r.cell_lst (e.get ha) kp
      exact ⟨vs', SqL.of hl', is'⟩
    · exact q1'.elim
end
end DL
set_option Elab.async false
set_option linter.all false
set_option maxRecDepth 100000
set_option maxHeartbeats 2000000
namespace DL
open PySem L2

/-! ### list comprehensions -/
/-- a clause's test -/
structure QTs (X : Cx) (ifs : List Expr) (tt : TT) (t : DT) : Prop where
  pts : PTs X ifs tt
  sem : SemT X.K tt t
def dYes : DT := fun _ cs k => k true cs
section
variable {X : Cx} {pos : Pos}
theorem qts_nil : QTs X [] tYes dYes := ⟨pts_nil, fun σ H S as en cs k Q r e q p => p true S H as cs Ext.refl r q⟩
theorem qts_one {c : Expr} {tt : TT} {t : DT} (h : QT X c tt t) : QTs X [c] tt t := ⟨pts_one h.pt, h.sem⟩
/-- fin: what is made of the list -/
def dLcG (fin : (Z → Cs → Prop) → List D → Cs → Prop) (it : DI) (g : DG) (tt : DT) (te : DE) (own : List Nat) : DE := fun en cs k => it en cs fun ds keep cs1 => ∃ I : Nat → List D → Cs → Prop,
  I 0 [] cs1 ∧ (∀ i acc c, I i acc c → c.length = cs1.length ∧ keep (c ++ [.lst acc])) ∧
  (∀ i d acc c, ds[i]? = some d → I i acc c → g (.d d) (wipeD en own) (c ++ [.lst acc]) fun en2 cs2 => tt en2 cs2 fun b cs3 =>
    if b = true then te en2 cs3 fun z cs4 => ∃ y c', z = .d y ∧ cs4.take (c.length + 1) = c' ++ [.lst acc] ∧ c'.length = c.length ∧ acc.length < LIM ∧ I (i + 1) (acc ++ [y]) c'
    else ∃ c', cs3.take (c.length + 1) = c' ++ [.lst acc] ∧ c'.length = c.length ∧ I (i + 1) acc c') ∧
  ∀ acc c, I ds.length acc c → fin k acc c
/-- the list does not change; it will -/
def finD (k : Z → Cs → Prop) (acc : List D) (c : Cs) : Prop := k (.d (.lst acc)) c
def finC (k : Z → Cs → Prop) (acc : List D) (c : Cs) : Prop := k (.c c.length) (c ++ [.lst acc])
abbrev dLc := dLcG finD
abbrev dLcC := dLcG finC
def FinOk (K : PySem.W.Frag) (fin : (Z → Cs → Prop) → List D → Cs → Prop) : Prop :=
  ∀ (S H : Hp) (as : List Addr) (c : Cs) (p : Addr) (acc : List D) (k : Z → Cs → Prop) (Q : VK), Rep K S H (as ++ [p]) (c ++ [.lst acc]) → fin k acc c → PQ K S as k Q → Q (.ref p) H
theorem Rep.last {K : PySem.W.Frag} {S H : Hp} {as : List Addr} {c : Cs} {p : Addr} {acc : List D} (r : Rep K S H (as ++ [p]) (c ++ [.lst acc])) : as.length = c.length ∧ S p = none ∧ ∃ vs, H p = some (.lst vs) ∧ IsL K S acc vs := by
  have hl : as.length = c.length := by
    have := r.len
    simp only [List.length_append, List.length_cons, List.length_nil] at this
    omega
  have h := r.cell_lst (n := c.length) (a := p) (ds := acc) (by rw [← hl, List.getElem?_append_right (Nat.le_refl _), Nat.sub_self]; rfl) (by rw [List.getElem?_append_right (Nat.le_refl _), Nat.sub_self]; rfl)
  exact ⟨hl, h⟩
theorem Rep.init {K : PySem.W.Frag} {S H : Hp} {as : List Addr} {c : Cs} {p : Addr} {x : D} (r : Rep K S H (as ++ [p]) (c ++ [x])) : Rep K S H as c := by
  have hl : as.length = c.length := by
    have := r.len
    simp only [List.length_append, List.length_cons, List.length_nil] at this
    omega
  have t := r.take as.length
  rw [List.take_left, hl, List.take_left] at t
  exact t
/-- a cell's list is known from now on -/
theorem Rep.freeze {K : PySem.W.Frag} {S H : Hp} {as : List Addr} {c : Cs} {p : Addr} {o : HO} (r : Rep K S H as c) (np : p ∉ as) (hp : H p = some o) (hS : S p = none) : Rep K (upd S p o) H as c := by
  refine ⟨fun a u e => ?_, r.len, r.nod, fun n a d e1 e2 => ?_, r.liv⟩
  · by_cases ha : a = p
    · subst ha
      rw [upd_same] at e
      rw [hp]; exact e
    · rw [upd_ne ha] at e
      exact r.sub a u e
  · have ne : a ≠ p := fun z => np (z ▸ List.mem_of_getElem? e1)
    exact CelAt.mono (Sub.new hS) (fun q => by rw [upd_ne ne]; exact q) rfl (r.cel n a d e1 e2)
theorem fin_d {K : PySem.W.Frag} : FinOk K finD := by
  intro S H as c p acc k Q r h q
  obtain ⟨hl, hS, vs, hp, is⟩ := r.last
  have np : p ∉ as := by
    have := r.nod
    rw [List.nodup_append] at this
    exact fun z => this.2.2 p z p (by simp) rfl
  have hn := Sub.new (o := .lst vs) hS
  exact q (.d (.lst acc)) (.ref p) (upd S p (.lst vs)) H as c (Ext.of hn) (r.init.freeze np hp hS) ⟨p, vs, rfl, upd_same, IsL.mono hn _ _ is⟩ h
theorem fin_c {K : PySem.W.Frag} : FinOk K finC := by
  intro S H as c p acc k Q r h q
  exact q (.c c.length) (.ref p) S H _ _ ⟨Sub.refl S, [p], rfl⟩ r ⟨p, by rw [← r.last.1, List.getElem?_append_right (Nat.le_refl _), Nat.sub_self]; rfl, rfl⟩ h
theorem sem_lc {K : PySem.W.Frag} {fin : (Z → Cs → Prop) → List D → Cs → Prop} {wi : TI} {g : TG} {tt : TT} {te : TE} {it : DI} {dg : DG} {dt : DT} {de : DE} {is own : List Nat} (hf : FinOk K fin)
    (hi : ∀ (σ : L2.St) (H S : Hp) (as : List Addr) (en : En) (cs : Cs) (k : List D → (Cs → Prop) → Cs → Prop) (R : It → Hp → Prop), Rep K S H as cs → EnvOk K S as en σ → it en cs k →
      (∀ (J : It) (S' H' : Hp) (as' : List Addr) (ds : List D) (keep : Cs → Prop) (cs' : Cs), Ext S as S' as' → Rep K S' H' as' cs' → Wk K J S' as' ds keep → k ds keep cs' → R J H') → wi σ H R)
    (hg : SemG K g dg is) (ht : SemT K tt dt) (he : SemE K te de) (hw : ∀ i ∈ is, i ∈ own) : SemE K (tLc wi g tt te own) (dLcG fin it dg dt de own) := by
  intro σ H S as en cs k Q rp ev q p
  refine hi σ H S as en cs _ _ rp ev q fun J S1 H1 as1 ds keep cs1 e1 r1 wk q1 => ?_
  obtain ⟨I, i0, ik, step, done⟩ := q1
  intro Dl hD
  have rc : Rep K S1 (upd H1 Dl (.lst [])) (as1 ++ [Dl]) (cs1 ++ [.lst []]) := r1.cell hD (c := .lst []) ⟨r1.sub.free hD, [], upd_same, rfl⟩
  refine ⟨fun i m H' => m = ds.length - i ∧ i ≤ ds.length ∧ ∃ S' acc c, Sub S1 S' ∧ Rep K S' H' (as1 ++ [Dl]) (c ++ [.lst acc]) ∧ I i acc c, ⟨ds.length, by omega, Nat.zero_le _, S1, [], cs1, Sub.refl _, rc, i0⟩, ?_⟩
  rintro i m H' ⟨rfl, hi', S', acc, c, s', r', hI⟩
  have ex : Ext S1 as1 S' (as1 ++ [Dl]) := ⟨s', [Dl], rfl⟩
  have kp := (ik i acc c hI).2
  have lc := r'.last
  by_cases hlt : i < ds.length
  · obtain ⟨d, hd⟩ : ∃ d, ds[i]? = some d := ⟨ds[i], List.getElem?_eq_getElem hlt⟩
    obtain ⟨go, yl⟩ := wk.go S' H' (as1 ++ [Dl]) _ i d ex r' kp hd
    refine .inr ⟨go, fun H'' => ∃ S'' acc' c', Sub S1 S'' ∧ Rep K S'' H'' (as1 ++ [Dl]) (c' ++ [.lst acc']) ∧ I (i + 1) acc' c', fun H'' ⟨S'', acc', c', a1, a2, a3⟩ => ⟨ds.length - (i + 1), by omega, rfl, hlt, S'', acc', c', a1, a2, a3⟩, fun x H'' y => ?_⟩
    obtain ⟨S2, s2, r2, ix⟩ := yl x H'' y
    have ex2 : Ext S as S2 (as1 ++ [Dl]) := e1.trans (ex.trans (Ext.of s2))
    refine hg (.d d) x _ H'' S2 (as1 ++ [Dl]) (wipeD en own) _ _ _ r2 ((ev.mono ex2).wipe own) ix (step i d acc c hd hI) fun σ3 S3 H3 as3 en3 cs3 e3 r3 ev3 w3 q3 => ?_
    refine ⟨by rw [w3 own hw, wipe_wipe own own fun _ h => h], ?_⟩
    refine ht σ3 H3 S3 as3 en3 cs3 _ _ r3 ev3 q3 fun b S4 H4 as4 cs4 e4 r4 q4 => ?_
    have back : ∀ {S5 H5 : Hp} {as5 : List Addr} {cs5 : Cs} {c' : Cs}, Ext S2 (as1 ++ [Dl]) S5 as5 → Rep K S5 H5 as5 cs5 → cs5.take (c.length + 1) = c' ++ [.lst acc] → c'.length = c.length → Rep K S5 H5 (as1 ++ [Dl]) (c' ++ [.lst acc]) := fun {S5 H5 as5 cs5 c'} e5 r5 t5 l5 => by
      have t := r5.take (c.length + 1)
      rw [t5] at t
      obtain ⟨mr, rfl⟩ := e5.pre
      have hz : (as1 ++ [Dl]).length = c.length + 1 := by rw [List.length_append, lc.1]; rfl
      rw [← hz, List.take_left] at t
      exact t
    cases b with
    | false =>
      rw [if_neg Bool.false_ne_true] at q4 ⊢
      obtain ⟨c', t4, l4, hI'⟩ := q4
      exact ⟨S4, acc, c', (s'.trans s2).trans (e3.sub.trans e4.sub), back (e3.trans e4) r4 t4 l4, hI'⟩
    | true =>
      rw [if_pos rfl] at q4 ⊢
      refine he.use r4 (ev3.mono e4) q4 fun z v S5 H5 as5 cs5 e5 r5 v5 q5 => ?_
      obtain ⟨y, c', rfl, t5, l5, hz, hI'⟩ := q5
      have r6 := back ((e3.trans e4).trans e5) r5 t5 l5
      obtain ⟨hl6, hS6, vs, hp6, is6⟩ := r6.last
      refine ⟨vs, hp6, by rw [is6.len]; exact size_lt hz, S5, acc ++ [y], c', (s'.trans s2).trans ((e3.sub.trans e4.sub).trans e5.sub), ?_, hI'⟩
      have r7 := r6.put (n := c'.length) (a := Dl) (o := .lst (vs ++ [v])) (c := .lst (acc ++ [y])) (by rw [← hl6, List.getElem?_append_right (Nat.le_refl _), Nat.sub_self]; rfl) ⟨hS6, _, upd_same, is6.append ⟨v, [], rfl, v5, rfl⟩⟩ hS6
      rw [List.set_append_right _ _ (Nat.le_refl _), Nat.sub_self] at r7
      exact r7
  · have ei : i = ds.length := by omega
    subst ei
    refine .inl ⟨wk.stop S' H' (as1 ++ [Dl]) _ _ ex r' kp (Nat.le_refl _), ?_⟩
    exact hf S' H' as1 c Dl acc k Q r' (done acc c hI) (p.mono (e1.trans (Ext.of s')))
theorem q_lcG {elt tg iter : Expr} {ifs : List Expr} {scope : Scope} {own : List (Str × Nat)} {fin : (Z → Cs → Prop) → List D → Cs → Prop} {wi : TI} {g : TG} {tt : TT} {te : TE} {it : DI} {dg : DG} {dt : DT} {de : DE} {is : List Nat} (hf : FinOk X.K fin) (hN : X.N.Nodup) (hi : QI X tg iter wi it) (ok : BlkOk X.N X.env.scope scope own)
    (hg : ∀ (s : Shared) (H : Hp) (C : Addr) (cl : List (Str × Addr)) (fp : List Addr), QG (X.blk s H scope (compEnvC scope cl C X.env) fp) tg g dg is) (ht : ∀ (s : Shared) (H : Hp) (C : Addr) (cl : List (Str × Addr)) (fp : List Addr), QTs (X.blk s H scope (compEnvC scope cl C X.env) fp) ifs tt dt)
    (he : ∀ (s : Shared) (H : Hp) (C : Addr) (cl : List (Str × Addr)) (fp : List Addr), QE (X.blk s H scope (compEnvC scope cl C X.env) fp) elt te de) (s0 : Shared) (hw : ∀ i ∈ is, i ∈ own.map (·.2)) (hc : X.calm = true := by rfl) (hs : ∀ x, foldedSetIterable iter X.env x = pure x := by intro _; rfl) :
    QE X (.ListComp elt [⟨tg, iter, ifs, 0⟩] scope pos) (tLc wi g tt te (own.map (·.2))) (dLcG fin it dg dt de (own.map (·.2))) :=
  ⟨pe_lc hc hN hi.pi ok (fun s H C cl fp => (hg s H C cl fp).pg) (fun s H C cl fp => (ht s H C cl fp).pts) (fun s H C cl fp => (he s H C cl fp).pe) hs,
    sem_lc hf hi.sem (hg s0 (fun _ => none) 0 [] []).sem (ht s0 (fun _ => none) 0 [] []).sem (he s0 (fun _ => none) 0 [] []).sem hw⟩

/-! ### statements -/
structure EnK (K : PySem.W.Frag) (S : Hp) (as : List Addr) (D : DEnds) (E : Ends) : Prop where
  nx : ∀ (σ' : L2.St) (S' H' : Hp) (as' : List Addr) (en' : En) (cs' : Cs), Ext S as S' as' → Rep K S' H' as' cs' → EnvOk K S' as' en' σ' → D.nx en' cs' → E.nx σ' H'
  rt : PQ K S as D.rt E.rt
  bk : ∀ (σ' : L2.St) (S' H' : Hp) (as' : List Addr) (en' : En) (cs' : Cs), Ext S as S' as' → Rep K S' H' as' cs' → EnvOk K S' as' en' σ' → D.bk en' cs' → E.bk σ' H'
  ct : ∀ (σ' : L2.St) (S' H' : Hp) (as' : List Addr) (en' : En) (cs' : Cs), Ext S as S' as' → Rep K S' H' as' cs' → EnvOk K S' as' en' σ' → D.ct en' cs' → E.ct σ' H'
theorem EnK.mono {K : PySem.W.Frag} {S T : Hp} {as bs : List Addr} {D : DEnds} {E : Ends} (e : Ext S as T bs) (h : EnK K S as D E) : EnK K T bs D E :=
  ⟨fun σ' S' H' as' en' cs' e' => h.nx σ' S' H' as' en' cs' (e.trans e'), h.rt.mono e, fun σ' S' H' as' en' cs' e' => h.bk σ' S' H' as' en' cs' (e.trans e'), fun σ' S' H' as' en' cs' e' => h.ct σ' S' H' as' en' cs' (e.trans e')⟩
def SemS (K : PySem.W.Frag) (ts : TS) (t : DS) : Prop :=
  ∀ (σ : L2.St) (H S : Hp) (as : List Addr) (en : En) (cs : Cs) (D : DEnds) (E : Ends), Rep K S H as cs → EnvOk K S as en σ → t D en cs → EnK K S as D E → ts E σ H
structure QS (X : Cx) (st : Stmt) (ts : TS) (t : DS) : Prop where
  ps : PS X st ts
  sem : SemS X.K ts t
structure QSs (X : Cx) (st : List Stmt) (ts : TS) (t : DS) : Prop where
  pss : PSs X st ts
  sem : SemS X.K ts t
def dNext : DS := fun D en cs => D.nx en cs
def dSeq (t u : DS) : DS := fun D en cs => t { D with nx := u D } en cs
theorem qss_nil : QSs X [] tNext dNext := ⟨pss_nil, fun σ H S as en cs D E r e q p => p.nx σ S H as en cs Ext.refl r e q⟩
theorem qss_one {st : Stmt} {ts : TS} {t : DS} (h : QS X st ts t) : QSs X [st] ts t := ⟨pss_one h.ps, h.sem⟩
theorem qss_cons {st : Stmt} {rest : List Stmt} {ts us : TS} {t u : DS} (h1 : QS X st ts t) (h2 : QSs X rest us u) : QSs X (st :: rest) (tSeq ts us) (dSeq t u) := by
  refine ⟨pss_cons h1.ps h2.pss, ?_⟩
  intro σ H S as en cs D E r e q p
  exact h1.sem σ H S as en cs { D with nx := u D } { E with nx := us E } r e q ⟨fun σ' S' H' as' en' cs' e' r' ev' q' => h2.sem σ' H' S' as' en' cs' D E r' ev' q' (p.mono e'), p.rt, p.bk, p.ct⟩
theorem qs_pass : QS X (.Pass pos) tNext dNext := ⟨ps_pass, fun σ H S as en cs D E r e q p => p.nx σ S H as en cs Ext.refl r e q⟩
def dBreak : DS := fun D en cs => D.bk en cs
def dCont : DS := fun D en cs => D.ct en cs
theorem qs_break : QS X (.Break pos) tBreak dBreak := ⟨ps_break, fun σ H S as en cs D E r e q p => p.bk σ S H as en cs Ext.refl r e q⟩
theorem qs_continue : QS X (.Continue pos) tCont dCont := ⟨ps_continue, fun σ H S as en cs D E r e q p => p.ct σ S H as en cs Ext.refl r e q⟩
def dDrop (a : DE) : DS := fun D en cs => a en cs fun _ cs1 => D.nx en cs1
theorem qs_expr {e : Expr} {te : TE} {de : DE} (he : QE X e te de) (hs : swapsWith e none pos.line X.env = pure false := by rfl) : QS X (.Expr e pos) (tDrop te) (dDrop de) := by
  refine ⟨ps_expr he.pe hs, ?_⟩
  intro σ H S as en cs D E r e q p
  exact he.sem.use r e q fun z v S1 H1 as1 cs1 e1 r1 v1 q1 => p.nx σ S1 H1 as1 en cs1 e1 r1 (e.mono e1) q1
def dRet (a : DE) : DS := fun D en cs => a en cs D.rt
theorem qs_ret {e : Expr} {te : TE} {de : DE} (he : QE X e te de) : QS X (.Return (some e) pos) (tRet te) (dRet de) := ⟨ps_ret he.pe, fun σ H S as en cs D E r e q p => he.sem.use r e q p.rt⟩
def dRetN : DS := fun D _ cs => D.rt (.d .non) cs
theorem qs_retN : QS X (.Return none pos) tRetN dRetN := ⟨ps_retN, fun σ H S as en cs D E r e q p => p.rt (.d .non) .non S H as cs Ext.refl r rfl q⟩
def dIfS (c : DT) (t u : DS) : DS := fun D en cs => c en cs fun b cs1 => if b = true then t D en cs1 else u D en cs1
theorem qs_if {c : Expr} {a b : List Stmt} {tc : TT} {ta tb : TS} {dc : DT} {da db : DS} (hc : QT X c tc dc) (ha : QSs X a ta da) (hb : QSs X b tb db) : QS X (.If c a b pos) (tIfS tc ta tb) (dIfS dc da db) := by
  refine ⟨ps_if hc.pt ha.pss hb.pss, ?_⟩
  intro σ H S as en cs D E r e q p
  refine hc.sem σ H S as en cs _ _ r e q fun b S1 H1 as1 cs1 e1 r1 q1 => ?_
  cases b with
  | true =>
    rw [if_pos rfl] at q1 ⊢
    exact ha.sem σ H1 S1 as1 en cs1 D E r1 (e.mono e1) q1 (p.mono e1)
  | false =>
    rw [if_neg Bool.false_ne_true] at q1 ⊢
    exact hb.sem σ H1 S1 as1 en cs1 D E r1 (e.mono e1) q1 (p.mono e1)
/-- never reached -/
def dNever : DS := fun _ _ _ => False
theorem qs_never {st : Stmt} : QS X st tNever dNever := ⟨ps_never, fun _ _ _ _ _ _ _ _ _ _ q _ => q.elim⟩
theorem qss_never {st : List Stmt} : QSs X st tNever dNever := ⟨pss_never, fun _ _ _ _ _ _ _ _ _ _ q _ => q.elim⟩
def dAsg (a : DE) (g : DG) : DS := fun D en cs => a en cs fun z cs1 => g z en cs1 D.nx
theorem sem_asg {K : PySem.W.Frag} {te : TE} {g : TG} {de : DE} {dg : DG} {is : List Nat} (he : SemE K te de) (hg : SemG K g dg is) : SemS K (tAsg te g) (dAsg de dg) := by
  intro σ H S as en cs D E r e q p
  refine he.use r e q fun z v S1 H1 as1 cs1 e1 r1 v1 q1 => ?_
  exact hg z v σ H1 S1 as1 en cs1 _ _ r1 (e.mono e1) v1 q1 fun σ' S' H' as' en' cs' e' r' ev' _ q' => p.nx σ' S' H' as' en' cs' (e1.trans e') r' ev' q'
theorem qs_asg {tg e : Expr} {te : TE} {g : TG} {de : DE} {dg : DG} {is : List Nat} (he : QE X e te de) (hg : QG X tg g dg is) (hs : swapsWithSole [tg] e pos.line X.env = pure false := by rfl) (hw : swappedStores [tg] e X.env = pure none := by rfl)
    (h1 : (assignEach [tg] X.env).map (·.2) = [assign tg X.env] := by rfl) : QS X (.Assign [tg] e pos) (tAsg te g) (dAsg de dg) := ⟨ps_asg he.pe hg.pg hs hw h1, sem_asg he.sem hg.sem⟩
theorem qs_set (i : Nat) {x : Str} {e : Expr} {te : TE} {de : DE} {pos' : Pos} (hN : X.N.Nodup) (he : QE X e te de) (hi : X.N[i]? = some x := by rfl) (hx : Loc X.env.scope x := by first | exact Or.inl rfl | exact Or.inr rfl) (hs : swapsWith e (some (.Name x pos')) pos.line X.env = pure false := by rfl) (hf : X.fn x = true ∨ X.env.scope.names.lookup x = some .local := by first | exact .inl rfl | exact .inr rfl | assumption) :
    QS X (.Assign [.Name x pos'] e pos) (tAsg te (gName i)) (dAsg de (dgName i)) := ⟨ps_set hN hi hx he.pe hs hf, sem_asg he.sem (sem_gname i)⟩
/-- a, b = x, y -/
def dPar (i j : Nat) (a : DA) : DS := fun D en cs => a en cs fun zs cs1 => match zs with
  | [z, w] => D.nx ((en.set i (some z)).set j (some w)) cs1
  | _ => False
theorem qs_par (i j : Nat) {x y : Str} {a b : Expr} {ta : TA} {da : DA} {px py pt : Pos} {kt k2 pt2} (hN : X.N.Nodup) (ha : QA X [a, b] ta da) (hi : X.N[i]? = some x := by rfl) (hj : X.N[j]? = some y := by rfl) (hij : i ≠ j := by decide)
    (hx : X.env.scope.names.lookup x = some .local := by rfl) (hy : X.env.scope.names.lookup y = some .local := by rfl) (hw : swappedStores [.Tuple [.Name x px, .Name y py] kt pt] (.Tuple [a, b] k2 pt2) X.env = pure (some [x, y]) := by rfl)
    (hs : swapsWithSole [.Tuple [.Name x px, .Name y py] kt pt] (.Tuple [a, b] k2 pt2) pos.line X.env = pure false := by rfl) (hc : X.calm = true := by rfl) :
    QS X (.Assign [.Tuple [.Name x px, .Name y py] kt pt] (.Tuple [a, b] k2 pt2) pos) (tPar i j ta) (dPar i j da) := by
  refine ⟨ps_par hc hN hi hj hij hx hy ha.pa hw hs, ?_⟩
  intro σ H S as en cs D E r e q p
  refine ha.sem σ H S as en cs _ _ r e q fun zs vs S1 H1 as1 cs1 e1 r1 v1 q1 => ?_
  split at q1
  · obtain ⟨v, _, rfl, h1, u, _, rfl, h2, h3⟩ := v1
    exact ⟨v, u, by rw [h3], p.nx _ S1 H1 as1 _ cs1 e1 r1 (((e.mono e1).set h1 i).set h2 j) q1⟩
  · exact q1.elim
/-- name = [.. for ..] -/
theorem qs_setLc (i : Nat) {y : Str} {py : Pos} {elt tg iter : Expr} {ifs : List Expr} {scope : Scope} {own : List (Str × Nat)} {spos : Pos} {fin : (Z → Cs → Prop) → List D → Cs → Prop} {wi : TI} {g : TG} {tt : TT} {te : TE} {it : DI} {dg : DG} {dt : DT} {de : DE} {is : List Nat} (hf : FinOk X.K fin) (hN : X.N.Nodup) (hsw : swapsWith (.ListComp elt [⟨tg, iter, ifs, 0⟩] scope pos) (some (.Name y py)) spos.line X.env = pure true)
    (hi : QI X tg iter wi it) (ok : BlkOk X.N X.env.scope scope own)
    (hg : ∀ (s : Shared) (H : Hp) (C : Addr) (cl : List (Str × Addr)) (fp : List Addr), QG (X.blk s H scope (compEnvC scope cl C X.env) fp) tg g dg is) (ht : ∀ (s : Shared) (H : Hp) (C : Addr) (cl : List (Str × Addr)) (fp : List Addr), QTs (X.blk s H scope (compEnvC scope cl C X.env) fp) ifs tt dt)
    (he : ∀ (s : Shared) (H : Hp) (C : Addr) (cl : List (Str × Addr)) (fp : List Addr), QE (X.blk s H scope (compEnvC scope cl C X.env) fp) elt te de) (s0 : Shared) (hw : ∀ i ∈ is, i ∈ own.map (·.2)) (hy : X.N[i]? = some y := by rfl) (hyl : X.env.scope.names.lookup y = some .local := by rfl) (hc : X.calm = true := by rfl) (hs : ∀ x, foldedSetIterable iter X.env x = pure x := by intro _; rfl) :
    QS X (.Assign [.Name y py] (.ListComp elt [⟨tg, iter, ifs, 0⟩] scope pos) spos) (tAsg (tLc wi g tt te (own.map (·.2))) (gName i)) (dAsg (dLcG fin it dg dt de (own.map (·.2))) (dgName i)) :=
  ⟨ps_setLc hc hN hy hyl hsw hi.pi ok (fun s H C cl fp => (hg s H C cl fp).pg) (fun s H C cl fp => (ht s H C cl fp).pts) (fun s H C cl fp => (he s H C cl fp).pe) hs,
    sem_asg (sem_lc hf hi.sem (hg s0 (fun _ => none) 0 [] []).sem (ht s0 (fun _ => none) 0 [] []).sem (he s0 (fun _ => none) 0 [] []).sem hw) (sem_gname i)⟩
/-- d[k] = v, d a cell -/
def dPutK (a b c : DE) : DS := fun D en cs => c en cs fun z cs1 => a en cs1 fun x cs2 => b en cs2 fun y cs3 => match x, y, z with
  | .c n, .d dy, .d dz => (match cs3[n]? with
    | some (.dic kvs) => keyD dy fun key => kvs.length < LIM ∧ D.nx en (cs3.set n (.dic (setK kvs key dz)))
    | _ => False)
  | _, _, _ => False
theorem qs_putK {o i v : Expr} {to ti tv : TE} {od id vd : DE} {pos' : Pos} (hu : X.A.units + 1 < cLine) (ho : QE X o to od) (hi : QE X i ti id) (hv : QE X v tv vd) (hs : swapsWith v (some (.Subscript o i pos')) pos.line X.env = pure false := by rfl) :
    QS X (.Assign [.Subscript o i pos'] v pos) (sDPut to ti tv) (dPutK od id vd) := by
  refine ⟨ps_dput hu ho.pe hi.pe hv.pe hs, ?_⟩
  intro σ H S as en cs D E r e q p
  refine hv.sem.use r e q fun z v S1 H1 as1 cs1 e1 r1 w1 q1 => ?_
  refine ho.sem.use r1 (e.mono e1) q1 fun z2 v2 S2 H2 as2 cs2 e2 r2 w2 q2 => ?_
  refine hi.sem.use r2 (e.mono (e1.trans e2)) q2 fun z3 v3 S3 H3 as3 cs3 e3 r3 w3 q3 => ?_
  split at q3
  · rename_i n dy dz
    split at q3
    · rename_i kvs hc
      obtain ⟨key, rfl, hz, q3⟩ := keyD_sh (Is.sh r3.sub (show Is X.K S3 dy v3 from w3)) q3
      obtain ⟨a, ha, rfl⟩ := w2.mono e3
      obtain ⟨hS, kv, hk, is⟩ := r3.cel n a (.dic kvs) ha hc
      have vd : Is X.K S3 dz v := Is.mono (e2.trans e3).sub _ _ w1
      exact ⟨a, _, rfl, DPut.k hk (by rw [is.len]; exact size_lt hz), p.nx σ S3 _ as3 en _ ((e1.trans e2).trans e3) (r3.put ha (c := .dic (setK kvs key dz)) ⟨hS, _, upd_same, is.put vd⟩ hS) (e.mono ((e1.trans e2).trans e3)) q3⟩
    · exact q3.elim
  · exact q3.elim
/-- xs.append(v), xs a cell -/
def dAppend (o v : DE) : DE := fun en cs k => o en cs fun x cs1 => match x with
  | .c n => (match cs1[n]? with
    | some (.lst _) => v en cs1 fun y cs2 => (match y with
      | .d d => (match cs2[n]? with
        | some (.lst ds) => ds.length < LIM ∧ k (.d .non) (cs2.set n (.lst (ds ++ [d])))
        | _ => False)
      | _ => False)
    | _ => False)
  | _ => False
theorem q_append {o v : Expr} {to tv : TE} {od vd : DE} {apos cpos : Pos} (ho : QE X o to od) (hv : QE X v tv vd)
    (hbase : attributeBase o "append" X.env (eval o X.env) = eval o X.env := by rfl)
    (hfew : ((backTo cpos (starEach [v] X.env)).all (fun x => !x.1) && (backToKw cpos (keywordEach [] X.env)).all (fun x => x.1.isSome)
      && decide ([v].length + ([] : List Keyword).length + (if ([] : List Keyword).isEmpty then 0 else 1) < 30)) = true := by rfl)
    (hline : (apos.endLine == cpos.line) = true := by rfl) (hs : starEach [v] X.env = (false, eval v X.env) :: starEach [] X.env := by rfl) (hplain : (backTo cpos (starEach [] X.env)).any (·.1) = false := by rfl) :
    QE X (.Call (.Attribute o "append" apos) [v] [] cpos) (tBM X.K "list" rAppend to (tCons tv tNil)) (dAppend od vd) := by
  refine ⟨pe_bm PySem.F.plainAttrs_list PySem.F.slot_list_append PySem.F.type_list_append mt_append ho.pe (pa_cons hv.pe pa_nil hs) hbase hfew hline hs hplain, ?_⟩
  intro σ H S as en cs k Q r e q p
  refine ho.sem.use r e q fun z v S1 H1 as1 cs1 e1 r1 w1 q1 => ?_
  split at q1
  · rename_i n
    split at q1
    · rename_i ds1 hc1
      obtain ⟨a, ha, rfl⟩ := w1
      obtain ⟨_, vs1, hl1, _⟩ := r1.cell_lst ha hc1
      refine ⟨.inl ⟨rfl, vs1, SqL.of hl1⟩, ?_⟩
      refine hv.sem.use r1 (e.mono e1) q1 fun z2 v2 S2 H2 as2 cs2 e2 r2 w2 q2 => ?_
      split at q2
      · rename_i d
        split at q2
        · rename_i ds hc
          have ha2 := e2.get ha
          obtain ⟨hS, vs, hl, is⟩ := r2.cell_lst ha2 hc
          exact ⟨a, vs, v2, rfl, rfl, hl, by rw [is.len]; exact size_lt q2.1, p (.d .non) .non S2 _ as2 _ (e1.trans e2) (r2.put ha2 (c := .lst (ds ++ [d])) ⟨hS, _, upd_same, is.append ⟨v2, [], rfl, w2, rfl⟩⟩ hS) rfl q2.2⟩
        · exact q2.elim
      · exact q2.elim
    · exact q1.elim
  · exact q1.elim
/-- xs.extend(ys) -/
def dExtend (o v : DE) : DE := fun en cs k => o en cs fun x cs1 => match x with
  | .c n => (match cs1[n]? with
    | some (.lst _) => v en cs1 fun y cs2 => withD cs2 y fun dy => (match dy with
      | .lst es => (match cs2[n]? with
        | some (.lst ds) => ds.length + es.length < LIM ∧ k (.d .non) (cs2.set n (.lst (ds ++ es)))
        | _ => False)
      | _ => False)
    | _ => False)
  | _ => False
theorem q_extend {o v : Expr} {to tv : TE} {od vd : DE} {apos cpos : Pos} (ho : QE X o to od) (hv : QE X v tv vd)
    (hbase : attributeBase o "extend" X.env (eval o X.env) = eval o X.env := by rfl)
    (hfew : ((backTo cpos (starEach [v] X.env)).all (fun x => !x.1) && (backToKw cpos (keywordEach [] X.env)).all (fun x => x.1.isSome)
      && decide ([v].length + ([] : List Keyword).length + (if ([] : List Keyword).isEmpty then 0 else 1) < 30)) = true := by rfl)
    (hline : (apos.endLine == cpos.line) = true := by rfl) (hs : starEach [v] X.env = (false, eval v X.env) :: starEach [] X.env := by rfl) (hplain : (backTo cpos (starEach [] X.env)).any (·.1) = false := by rfl) :
    QE X (.Call (.Attribute o "extend" apos) [v] [] cpos) (tBM X.K "list" rExtend to (tCons tv tNil)) (dExtend od vd) := by
  refine ⟨pe_bm PySem.F.plainAttrs_list PySem.F.slot_list_extend PySem.F.type_list_extend mt_extend ho.pe (pa_cons hv.pe pa_nil hs) hbase hfew hline hs hplain, ?_⟩
  intro σ H S as en cs k Q r e q p
  refine ho.sem.use r e q fun z v S1 H1 as1 cs1 e1 r1 w1 q1 => ?_
  split at q1
  · rename_i n
    split at q1
    · rename_i ds1 hc1
      obtain ⟨a, ha, rfl⟩ := w1
      obtain ⟨_, vs1, hl1, _⟩ := r1.cell_lst ha hc1
      refine ⟨.inl ⟨rfl, vs1, SqL.of hl1⟩, ?_⟩
      refine hv.sem.use r1 (e.mono e1) q1 fun z2 v2 S2 H2 as2 cs2 e2 r2 w2 q2 => ?_
      obtain ⟨dy, l2, q2⟩ := withD_look q2
      split at q2
      · rename_i es
        obtain ⟨b, us, rfl, hb, ie⟩ := look_sh r2 w2 l2
        split at q2
        · rename_i ds hc
          have ha2 := e2.get ha
          obtain ⟨hS, vs, hl, is⟩ := r2.cell_lst ha2 hc
          exact ⟨a, b, vs, us, rfl, rfl, hl, hb, by rw [is.len, ie.len]; exact Nat.le_of_lt (size_lt q2.1), p (.d .non) .non S2 _ as2 _ (e1.trans e2) (r2.put ha2 (c := .lst (ds ++ es)) ⟨hS, _, upd_same, is.append ie⟩ hS) rfl q2.2⟩
        · exact q2.elim
      · exact q2.elim
    · exact q1.elim
  · exact q1.elim

/-! ### loops -/
/-- cells from n on forgotten -/
def forgetZ (n : Nat) : Option Z → Option Z
  | some (.c m) => if m < n then some (.c m) else none
  | o => o
def forget (n : Nat) (en : En) : En := en.map (forgetZ n)
def Wkn (n0 : Nat) (P : En → Cs → Prop) (en : En) (cs : Cs) : Prop := P en cs ∨ ∃ n, n0 ≤ n ∧ P (forget n en) (cs.take n)
theorem EnvOk.cut {K : PySem.W.Frag} {S : Hp} {as : List Addr} {en : En} {σ : L2.St} (h : EnvOk K S as en σ) (n : Nat) : EnvOk K S (as.take n) (DL.forget n en) σ := by
  refine ⟨by rw [h.len, DL.forget, List.length_map], fun i z e => ?_⟩
  unfold DL.forget at e
  rw [List.getElem?_map] at e
  cases q : en[i]? with
  | none => rw [q] at e; cases e
  | some o =>
    rw [q] at e
    have e' : forgetZ n o = some z := Option.some.inj e
    cases o with
    | none => cases e'
    | some y =>
      cases y with
      | d x =>
        cases e'
        obtain ⟨v, h1, h2⟩ := h.at_ i (.d x) q
        exact ⟨v, h1, h2⟩
      | c m =>
        have e2 : (if m < n then some (Z.c m) else none) = some z := e'
        split at e2
        · rename_i hm
          cases e2
          obtain ⟨v, h1, a, h2, h3⟩ := h.at_ i (.c m) q
          exact ⟨v, h1, a, by rw [List.getElem?_take_of_lt hm]; exact h2, h3⟩
        · cases e2
theorem Ext.cut {S S' : Hp} {as as' : List Addr} (e : Ext S as S' as') {n : Nat} (h : as.length ≤ n) : Ext S as S' (as'.take n) := by
  obtain ⟨m, rfl⟩ := e.pre
  refine ⟨e.sub, m.take (n - as.length), ?_⟩
  rw [List.take_append, List.take_of_length_le h]
theorem Wkn.out {K : PySem.W.Frag} {S0 S H : Hp} {as0 as : List Addr} {n0 : Nat} {P : En → Cs → Prop} {en : En} {cs : Cs} {σ : L2.St} (h : Wkn n0 P en cs) (x : Ext S0 as0 S as) (hn : as0.length = n0) (r : Rep K S H as cs) (e : EnvOk K S as en σ) :
    ∃ S' as' en' cs', Ext S0 as0 S' as' ∧ Rep K S' H as' cs' ∧ EnvOk K S' as' en' σ ∧ P en' cs' := by
  rcases h with h | ⟨n, h0, h⟩
  · exact ⟨S, as, en, cs, x, r, e, h⟩
  · exact ⟨S, _, _, _, x.cut (by omega), r.take n, e.cut n, h⟩
def dFor (it : DI) (g : DG) (b : DS) : DS := fun D en cs => it en cs fun ds keep cs1 => ∃ I : Nat → En → Cs → Prop, I 0 en cs1 ∧ (∀ i en cs, I i en cs → keep cs) ∧
  (∀ i d en cs, ds[i]? = some d → I i en cs → g (.d d) en cs fun en2 cs2 => b { D with nx := Wkn cs1.length (I (i + 1)), ct := Wkn cs1.length (I (i + 1)), bk := D.nx } en2 cs2) ∧ ∀ en cs, I ds.length en cs → D.nx en cs
theorem qs_for {tg iter : Expr} {body : List Stmt} {wi : TI} {g : TG} {tb : TS} {it : DI} {dg : DG} {db : DS} {is : List Nat} (hp : PassesOwn (model X.prog X.w) X.A X.env X.xe) (hi : QI X tg iter wi it) (hg : QG X tg g dg is) (hb : QSs X body tb db) (hc : X.calm = true := by rfl)
    (hs : ∀ x, foldedSetIterable iter X.env x = pure x := by intro _; rfl) : QS X (.For tg iter body [] pos) (tFor wi g tb) (dFor it dg db) := by
  refine ⟨ps_for hp hc hi.pi hg.pg hb.pss hs, ?_⟩
  intro σ H S as en cs D E r e q p
  refine hi.sem σ H S as en cs _ _ r e q fun J S1 H1 as1 ds keep cs1 e1 r1 wk q1 => ?_
  obtain ⟨I, i0, ik, step, done⟩ := q1
  refine ⟨fun i m σ' H' => m = ds.length - i ∧ i ≤ ds.length ∧ ∃ S' as' en' cs', Ext S1 as1 S' as' ∧ Rep X.K S' H' as' cs' ∧ EnvOk X.K S' as' en' σ' ∧ I i en' cs', ⟨ds.length, by omega, Nat.zero_le _, S1, as1, en, cs1, Ext.refl, r1, e.mono e1, i0⟩, ?_⟩
  rintro i m σ' H' ⟨rfl, hi', S', as', en', cs', ex, r', ev', hI⟩
  have kp := ik i en' cs' hI
  by_cases hlt : i < ds.length
  · obtain ⟨d, hd⟩ : ∃ d, ds[i]? = some d := ⟨ds[i], List.getElem?_eq_getElem hlt⟩
    obtain ⟨go, yl⟩ := wk.go S' H' as' cs' i d ex r' kp hd
    refine .inr ⟨go, fun σ2 H2 => ∃ S2 as2 en2 cs2, Ext S1 as1 S2 as2 ∧ Rep X.K S2 H2 as2 cs2 ∧ EnvOk X.K S2 as2 en2 σ2 ∧ I (i + 1) en2 cs2, fun σ2 H2 h2 => ⟨ds.length - (i + 1), by omega, rfl, hlt, h2⟩, fun x H'' y => ?_⟩
    obtain ⟨S2, s2, r2, ix⟩ := yl x H'' y
    have e2 : Ext S1 as1 S2 as' := ex.trans (Ext.of s2)
    refine hg.sem (.d d) x σ' H'' S2 as' en' cs' _ _ r2 (ev'.mono (Ext.of s2)) ix (step i d en' cs' hd hI) fun σ3 S3 H3 as3 en3 cs3 e3 r3 ev3 _ q3 => ?_
    have e4 := e2.trans e3
    refine hb.sem σ3 H3 S3 as3 en3 cs3 _ _ r3 ev3 q3 ⟨fun σ4 S4 H4 as4 en4 cs4 e5 r4 ev4 q4 => ?_, p.rt.mono (e1.trans e4), fun σ4 S4 H4 as4 en4 cs4 e5 r4 ev4 q4 => ?_, fun σ4 S4 H4 as4 en4 cs4 e5 r4 ev4 q4 => ?_⟩
    · exact Wkn.out q4 (e4.trans e5) r1.len r4 ev4
    · exact p.nx σ4 S4 H4 as4 en4 cs4 (e1.trans (e4.trans e5)) r4 ev4 q4
    · exact Wkn.out q4 (e4.trans e5) r1.len r4 ev4
  · have ei : i = ds.length := by omega
    subst ei
    exact .inl ⟨wk.stop S' H' as' cs' _ ex r' kp (Nat.le_refl _), p.nx σ' S' H' as' en' cs' (e1.trans ex) r' ev' (done en' cs' hI)⟩
def dWhile (c : DT) (b : DS) : DS := fun D en0 cs0 => ∃ I : Nat → En → Cs → Prop, (∃ m, I m en0 cs0) ∧
  ∀ m en cs, I m en cs → c en cs fun k cs1 => if k = true then b { D with nx := Wkn cs0.length fun en2 cs2 => ∃ m', m' < m ∧ I m' en2 cs2, ct := Wkn cs0.length fun en2 cs2 => ∃ m', m' < m ∧ I m' en2 cs2, bk := D.nx } en cs1 else D.nx en cs1
theorem qs_while {c : Expr} {body : List Stmt} {tc : TT} {tb : TS} {dc : DT} {db : DS} (hp : PassesOwn (model X.prog X.w) X.A X.env X.xe) (hc : QT X c tc dc) (hb : QSs X body tb db) : QS X (.While c body [] pos) (tWhile tc tb) (dWhile dc db) := by
  refine ⟨ps_while hp hc.pt hb.pss, ?_⟩
  intro σ H S as en cs D E r e q p
  obtain ⟨I, ⟨m0, i0⟩, step⟩ := q
  refine ⟨fun m σ' H' => ∃ S' as' en' cs', Ext S as S' as' ∧ Rep X.K S' H' as' cs' ∧ EnvOk X.K S' as' en' σ' ∧ I m en' cs', ⟨m0, S, as, en, cs, Ext.refl, r, e, i0⟩, ?_⟩
  rintro m σ' H' ⟨S', as', en', cs', ex, r', ev', hI⟩
  refine hc.sem σ' H' S' as' en' cs' _ _ r' ev' (step m en' cs' hI) fun b S1 H1 as1 cs1 e1 r1 q1 => ?_
  cases b with
  | true =>
    rw [if_pos rfl] at q1 ⊢
    refine ⟨fun σ2 H2 => ∃ m', m' < m ∧ ∃ S2 as2 en2 cs2, Ext S as S2 as2 ∧ Rep X.K S2 H2 as2 cs2 ∧ EnvOk X.K S2 as2 en2 σ2 ∧ I m' en2 cs2, fun σ2 H2 h => h, ?_⟩
    have e2 := ex.trans e1
    refine hb.sem σ' H1 S1 as1 en' cs1 _ _ r1 (ev'.mono e1) q1 ⟨fun σ4 S4 H4 as4 en4 cs4 e5 r4 ev4 q4 => ?_, p.rt.mono e2, fun σ4 S4 H4 as4 en4 cs4 e5 r4 ev4 q4 => ?_, fun σ4 S4 H4 as4 en4 cs4 e5 r4 ev4 q4 => ?_⟩
    · obtain ⟨S5, as5, en5, cs5, e6, r6, ev6, m', hm, q6⟩ := Wkn.out (P := fun en2 cs2 => ∃ m', m' < m ∧ I m' en2 cs2) q4 (e2.trans e5) r.len r4 ev4
      exact ⟨m', hm, S5, as5, en5, cs5, e6, r6, ev6, q6⟩
    · exact p.nx σ4 S4 H4 as4 en4 cs4 (e2.trans e5) r4 ev4 q4
    · obtain ⟨S5, as5, en5, cs5, e6, r6, ev6, m', hm, q6⟩ := Wkn.out (P := fun en2 cs2 => ∃ m', m' < m ∧ I m' en2 cs2) q4 (e2.trans e5) r.len r4 ev4
      exact ⟨m', hm, S5, as5, en5, cs5, e6, r6, ev6, q6⟩
  | false =>
    rw [if_neg Bool.false_ne_true] at q1 ⊢
    exact p.nx σ' S1 H1 as1 en' cs1 (ex.trans e1) r1 (ev'.mono e1) q1
end
end DL
set_option Elab.async false
set_option linter.all false
set_option maxRecDepth 100000
set_option maxHeartbeats 2000000
set_option autoImplicit false
namespace DL
open PySem PySem.Spec PyProof.Rows L2

/-! ### what a def promises, over data -/
def spD (K : PySem.W.Frag) (sp : DSpec) (vs : List V) (H : Hp) (Q : VK) : Prop :=
  ∃ (S : Hp) (as : List Addr) (zs : List Z) (cs : Cs) (k : Z → Cs → Prop), Rep K S H as cs ∧ VZL K S as zs vs ∧ sp zs cs k ∧ PQ K S as k Q
structure FnD (P : Program) (w : World) (K : PySem.W.Frag) (mg : Str → Option Value) (base : Heap) (k : Nat) (f : Addr) (fd : FuncData) (ps : List Str) (sp : DSpec) : Prop where
  len : ∀ zs cs q, sp zs cs q → zs.length = ps.length
  run : ∀ (A : Around) (outer : List Env) (s : Shared) (H : Hp) (args : Args) (us : List Value) (vs : List V) (Q : VK), Room k A → A.guards = some [] → Env0 P w K mg base A outer s H → BindsTo s fd args (ps.zip us) → Vals vs us → spD K sp vs H Q →
    codeAny (model P w) A (.call (.ref f) args) (CR CX0 outer P w H s Q E0) s
theorem FnD.mono {P : Program} {w : World} {K : PySem.W.Frag} {mg : Str → Option Value} {base : Heap} {j k : Nat} {f : Addr} {fd : FuncData} {ps : List Str} {sp : DSpec} (F : FnD P w K mg base j f fd ps sp) (h : j ≤ k) : FnD P w K mg base k f fd ps sp :=
  ⟨F.len, fun A outer s H args us vs Q hr => F.run A outer s H args us vs Q (hr.mono h)⟩
theorem FnD.imp {P : Program} {w : World} {K : PySem.W.Frag} {mg : Str → Option Value} {base : Heap} {k : Nat} {f : Addr} {fd : FuncData} {ps : List Str} {sp sp' : DSpec} (F : FnD P w K mg base k f fd ps sp) (h : ∀ zs cs q, sp' zs cs q → sp zs cs q) : FnD P w K mg base k f fd ps sp' :=
  ⟨fun zs cs q h' => F.len zs cs q (h zs cs q h'), fun A outer s H args us vs Q hr hg e0 hb hv ⟨S, as, zs, cs, q, a1, a2, a3, a4⟩ => F.run A outer s H args us vs Q hr hg e0 hb hv ⟨S, as, zs, cs, q, a1, a2, h _ _ _ a3, a4⟩⟩
section
variable {X : Cx} {k : Nat} {f : Addr} {fd : FuncData} {ps : List Str} {sp : DSpec} {x : Str} {p pos : Pos} {e : Expr} {es : List Expr} {ta : TA} {da : DA}
theorem run_fnD {pins : List (Addr × Obj)} {σ : L2.St} {H : Hp} {s : Shared} {Q : VK} {us : List Value} {vs : List V} (F : FnD X.prog X.w X.K X.mg X.base k f fd ps sp) (hr : Room k X.A) (hg : X.A.guards = some []) (hb : L2.Binds X.K fd ps [])
    (I : Inv X pins σ H s) (r : Vals vs us) (h : spD X.K sp vs H Q) : wpAny (model X.prog X.w) X.A (call (.ref f) us) (EP X pins σ Q) X.xe s := by
  have hl : (us ++ []).length = ps.length := by
    obtain ⟨S, as, zs, cs, q, a1, a2, a3, a4⟩ := h
    rw [List.append_nil, ← r.length, a2.len, F.len _ _ _ a3]
  have b := hb s us I.kIn hl
  rw [List.append_nil] at b
  refine wpAny_call (codeAny_mono (F.run X.A X.stack s H ⟨us, []⟩ us vs Q hr hg I.env0 b r h) fun r s' hq => ?_)
  cases r with
  | error e => exact hq.elim
  | ok fl =>
    cases fl with
    | ret u => exact I.after hq
    | next => exact hq.elim
    | brk => exact hq.elim
    | cont => exact hq.elim
def tCallD (K : PySem.W.Frag) (sp : DSpec) (t : TA) : TE := fun σ H Q => t σ H fun vs H1 => spD K sp vs H1 Q
def dCall (sp : DSpec) (a : DA) : DE := fun en cs k => a en cs fun zs cs1 => sp zs cs1 k
theorem q_call (F : FnD X.prog X.w X.K X.mg X.base k f fd ps sp) (hr : Room k X.A) (hgd : X.A.guards = some []) (hm : X.mg x = some (.ref f)) (hk : PySem.W.keepIn X.K (.ref f) = true) (hb : L2.Binds X.K fd ps []) (ha : QA X (e :: es) ta da) (hg : Gl X x := by rfl)
    (hdb : (x == ("__debug__" : Str)) = false := by decide) (he : starEach (e :: es) X.env = (false, eval e X.env) :: starEach es X.env := by rfl) (hpl : (backTo pos (starEach es X.env)).any (·.1) = false := by rfl) :
    QE X (.Call (.Name x p) (e :: es) [] pos) (tCallD X.K sp ta) (dCall sp da) := by
  refine ⟨⟨fun pins s σ H Q I h => ?_⟩, ?_⟩
  · refine wpAny_Call_Name_kw (ld_glob I hg hm ?_ hdb)
    refine PySem.W.callWith_K (h₀ := X.base) I.ok.mod.kin hk (thn (ha.pa.run pos pins s σ H _ I h) fun us s1 ⟨vs, H1, I1, r, q⟩ => ⟨I1.kIn, ?_⟩) he hpl
    exact run_fnD F hr hgd hb I1 r q
  · intro σ H S as en cs k Q rp ev q pq
    refine ha.sem σ H S as en cs _ _ rp ev q fun zs vs S1 H1 as1 cs1 e1 r1 v1 q1 => ?_
    exact ⟨S1, as1, zs, cs1, k, r1, v1, q1, pq.mono e1⟩
end

/-! ### a def by its body -/
/-- what a def hands back: n cells were there at the call -/
def FinZ (n : Nat) (k : Z → Cs → Prop) : Z → Cs → Prop := fun z cs => match z with
  | .d x => k (.d x) (cs.take n)
  | .c m => (m < n ∧ k (.c m) (cs.take n)) ∨ (n ≤ m ∧ match cs[m]? with
    | some x => k (.d x) (cs.take n) ∨ k (.c n) (cs.take n ++ [x])
    | none => False)
def startD (N : List Str) (zs : List Z) : En := zs.map some ++ List.replicate (N.length - zs.length) none
theorem VZL.get {K : PySem.W.Frag} {S : Hp} {as : List Addr} : ∀ {zs : List Z} {vs : List V} {i : Nat} {z : Z}, VZL K S as zs vs → zs[i]? = some z → ∃ v, vs[i]? = some v ∧ VZ K S as z v
  | [], _, _, _, _, e => by simp at e
  | _ :: _, _, 0, _, ⟨v, r, h1, h2, h3⟩, e => by
    have e' := Option.some.inj e
    subst e' h1
    exact ⟨v, rfl, h2⟩
  | _ :: _, _, i + 1, _, ⟨v, r, h1, h2, h3⟩, e => by
    subst h1
    exact VZL.get (i := i) h3 e
theorem env_start {K : PySem.W.Frag} {S : Hp} {as : List Addr} {N : List Str} {zs : List Z} {vs : List V} (h : VZL K S as zs vs) : EnvOk K S as (startD N zs) (L2.start N vs) := by
  unfold startD L2.start
  refine ⟨by simp only [List.length_append, List.length_map, List.length_replicate, h.len], fun i z e => ?_⟩
  by_cases hi : i < zs.length
  · rw [List.getElem?_append_left (by simpa using hi), List.getElem?_map] at e
    obtain ⟨y, hy⟩ : ∃ y, zs[i]? = some y := ⟨zs[i], List.getElem?_eq_getElem hi⟩
    rw [hy] at e
    cases e
    obtain ⟨v, h1, h2⟩ := h.get hy
    refine ⟨v, ?_, h2⟩
    rw [List.getElem?_append_left (by simpa [h.len] using hi), List.getElem?_map, h1]
    rfl
  · rw [List.getElem?_append_right (by simpa using hi), List.getElem?_replicate] at e
    split at e <;> cases e
theorem Rep.pick {K : PySem.W.Frag} {S H : Hp} {as : List Addr} {cs : Cs} (r : Rep K S H as cs) {n m : Nat} {a : Addr} {x : D} (hm : n ≤ m) (ha : as[m]? = some a) (hx : cs[m]? = some x) : Rep K S H (as.take n ++ [a]) (cs.take n ++ [x]) := by
  have t := r.take n
  have np : a ∉ as.take n := fun z => by
    obtain ⟨i, hi, e⟩ := List.getElem_of_mem z
    rw [List.getElem_take] at e
    have hl : i < n := by
      have := hi
      rw [List.length_take] at this
      omega
    have := nd_ix r.nod (i := i) (j := m) (by rw [← e]; exact List.getElem?_eq_getElem _) ha
    omega
  refine ⟨r.sub, by rw [List.length_append, List.length_append, t.len]; rfl, ?_, fun j b d e1 e2 => ?_, fun b hb => ?_⟩
  · exact List.nodup_append.mpr ⟨t.nod, by simp, fun y hy w hw => by
      have hw' : w = a := by simpa using hw
      subst hw'
      exact fun z => np (z ▸ hy)⟩
  · by_cases hj : j < (as.take n).length
    · rw [List.getElem?_append_left hj] at e1
      rw [List.getElem?_append_left (by rw [← t.len]; exact hj)] at e2
      exact t.cel j b d e1 e2
    · rw [List.getElem?_append_right (by omega)] at e1
      rw [List.getElem?_append_right (by rw [← t.len]; omega), ← t.len] at e2
      have hz : j - (as.take n).length = 0 := by
        have := (List.getElem?_eq_some_iff.mp e1).1
        simp only [List.length_cons, List.length_nil] at this
        omega
      rw [hz] at e1 e2
      cases e1
      cases e2
      exact r.cel m a x ha hx
  · rcases List.mem_append.mp hb with hb | hb
    · exact t.liv b hb
    · have : b = a := by simpa using hb
      subst this
      exact r.liv b (List.mem_of_getElem? ha)
theorem CelAt.obj {K : PySem.W.Frag} {S H : Hp} {a : Addr} : ∀ {x : D}, (∀ b, x ≠ .obj b) → CelAt K S H a x → ∃ o, H a = some o ∧ S a = none ∧ Is K (upd S a o) x (.ref a)
  | .lst ds, _, ⟨h1, vs, h2, h3⟩ => ⟨_, h2, h1, a, vs, rfl, upd_same, IsL.mono (Sub.new h1) _ _ h3⟩
  | .dic kvs, _, ⟨h1, kv, h2, h3⟩ => ⟨_, h2, h1, a, kv, rfl, upd_same, IsK.mono (Sub.new h1) _ _ h3⟩
  | .ob _ _ _, _, ⟨h1, dx, vs, h2, h3, h4, h5⟩ => ⟨_, h2, h1, a, dx, vs, rfl, upd_same, Sub.new h1 _ _ h3, h4, IsL.mono (Sub.new h1) _ _ h5⟩
  | .scr _, _, h => h.elim
  | .ty _, _, h => h.elim
  | .obj b, n, _ => absurd rfl (n b)
  | .non, _, h => h.elim
  | .bl _, _, h => h.elim
  | .int _, _, h => h.elim
  | .str _, _, h => h.elim
  | .tup _, _, h => h.elim
theorem fin_pq {K : PySem.W.Frag} {S : Hp} {as : List Addr} {k : Z → Cs → Prop} {Q : VK} (p : PQ K S as k Q) : PQ K S as (FinZ as.length k) Q := by
  intro z v S' H' as' cs' e r vz h
  have et := e.take
  have rt := r.take as.length
  cases z with
  | d x => exact p (.d x) v S' H' _ _ et rt vz h
  | c m =>
    obtain ⟨a, ha, rfl⟩ := vz
    rcases h with ⟨hm, h⟩ | ⟨hm, h⟩
    · exact p (.c m) _ S' H' _ _ et rt ⟨a, by rw [List.getElem?_take_of_lt hm]; exact ha, rfl⟩ h
    · split at h
      · rename_i x hx
        have c := r.cel m a x ha hx
        rcases h with h | h
        · by_cases dd : ∃ b, x = .obj b
          · obtain ⟨b, rfl⟩ := dd
            exact p (.d (.obj b)) _ S' H' _ _ et rt (congrArg V.ref (Eq.symm (show b = a from c))) h
          obtain ⟨o, h1, h2, h3⟩ := c.obj (fun b e => dd ⟨b, e⟩)
          have np : a ∉ as'.take as.length := fun z => by
            obtain ⟨i, hi, e⟩ := List.getElem_of_mem z
            rw [List.getElem_take] at e
            have hl : i < as.length := by
              have := hi
              rw [List.length_take] at this
              omega
            have := nd_ix r.nod (i := i) (j := m) (by rw [← e]; exact List.getElem?_eq_getElem _) ha
            omega
          exact p (.d x) _ (upd S' a o) H' _ _ (et.trans (Ext.of (Sub.new h2))) (rt.freeze np h1 h2) h3 h
        · have hz : (as'.take as.length).length = as.length := by
            obtain ⟨m', rfl⟩ := e.pre
            rw [List.take_left]
          refine p (.c as.length) _ S' H' _ _ ⟨et.sub, ?_⟩ (r.pick hm ha hx) ⟨a, ?_, rfl⟩ h
          · obtain ⟨m', e'⟩ := et.pre
            exact ⟨m' ++ [a], by rw [e', List.append_assoc]⟩
          · rw [List.getElem?_append_right (by omega), hz, Nat.sub_self]
            rfl
      · exact h.elim
section
variable {P : Program} {w : World} {K : PySem.W.Frag} {mg : Str → Option Value} {base : Heap}
theorem fn_D {x qual : Str} {st : Stmt} {f : Addr} {fd : FuncData} {N ps : List Str} {k : Nat} {sp : DSpec} (F : Fun K x qual st f fd) (S : FnScope N ps (defScope st)) (len : ∀ zs cs q, sp zs cs q → zs.length = ps.length) (t : DS)
    (der : ∀ (cdv : Value) (A : Around) (outer : List Env) (s : Shared) (H : Hp), Room k (A.deeper (envOfC qual (defScope st) s.heap.objs.size f cdv)) → (A.deeper (envOfC qual (defScope st) s.heap.objs.size f cdv)).guards = some [] →
      ∃ ts : TS, QSs (cxOf CX0 P w K mg base N qual (defScope st) f cdv A outer s H E0).nox (defBody st) ts t)
    (rd : ∀ zs cs q, sp zs cs q → t ⟨fun _ c => q (.d .non) (c.take cs.length), FinZ cs.length q, fun _ _ => False, fun _ _ => False⟩ (startD N zs) cs) : FnD P w K mg base (k + 1) f fd ps sp := by
  obtain ⟨oc, od, kV, doc, pm, an, cdv, ct, osl, rfl, lk, hcd⟩ := F.ex
  refine ⟨len, fun A outer s H args us vs Q hr hgd e0 hb r hsp => ?_⟩
  obtain ⟨T, as, zs, cs, q, rep, vz, hz, pq⟩ := hsp
  have hl : vs.length = ps.length := vz.len.trans (len _ _ _ hz)
  have KX : K.In s.heap := e0.mod.kin.keeps fun b o e => (e0.bs b o e).1
  have lim : s.heap.NoLimit := e0.mod.nolimit.keeps fun b o e => (e0.bs b o e).1
  refine codeAny_call_function hr.depth (KX _ _ lk) rfl S.co S.gen rfl (PySem.W.codeRec_of KX hcd) (hb _ _ _ _ ?_)
  refine wpAny_newFunctionEnv_cells S.kind (fun ⟨n, v⟩ hy => (S.par n (List.of_mem_zip hy).1).imp (fun h => h) fun h => ⟨h, PySem.W.cellsFrom_some _ _ _ (.inl h)⟩) fun env he s1 x => ?_
  subst he
  refine ⟨lim.keeps x.toInCall.keep, codeAny_func ?_⟩
  obtain ⟨ts, d⟩ := der cdv A outer s H (hr.deeper _) hgd
  have I : Inv (cxOf CX0 P w K mg base N qual (defScope st) f cdv A outer s H E0) [] (L2.start N vs) H s1 := inv_start S hr.hd e0 hl r x
  have body : ts { nx := fun _ H' => Q .non H', rt := Q } (L2.start N vs) H := by
    refine d.sem (L2.start N vs) H T as (startD N zs) cs _ _ rep (env_start vz) (rd zs cs q hz) ⟨fun σ' S' H' as' en' cs' e' r' ev' q' => ?_, ?_, fun _ _ _ _ _ _ _ _ _ h => h, fun _ _ _ _ _ _ _ _ _ h => h⟩
    · rw [← rep.len] at q'
      exact pq (.d .non) .non S' H' _ _ e'.take (r'.take as.length) rfl q'
    · rw [← rep.len]
      exact fin_pq pq
  refine wpAny_mono (d.pss.nox.run [] s1 (L2.start N vs) H _ I body) (fun fl s' hs => ?_) fun e s' hs => hs
  cases fl with
  | ret u =>
    obtain ⟨v, σ', H', J, rv, q⟩ := hs
    exact ⟨v, H', J.os, J.bare, J.base, J.hok, rv, q⟩
  | next =>
    obtain ⟨σ', H', J, q⟩ := hs
    exact ⟨.non, H', J.os, J.bare, J.base, J.hok, rfl, q⟩
  | brk => exact hs.elim fun _ h => h.elim fun _ h => h.2.elim
  | cont => exact hs.elim fun _ h => h.elim fun _ h => h.2.elim

end
end DL
set_option Elab.async false
set_option linter.all false
set_option maxRecDepth 100000
set_option maxHeartbeats 2000000
set_option autoImplicit false
namespace DL
open PySem PySem.Spec PyProof.Rows L2

/-- the def as the top left it -/
def DefT (K : PySem.W.Frag) (mg : Str → Option Value) (name : Str) (st : Stmt) (ps : List Str) : Prop :=
  ∃ (f : Addr) (fd : FuncData), Fun K name name st f fd ∧ mg name = some (.ref f) ∧ L2.Binds K fd ps []
/-- what callers know of it -/
def Got (P : Program) (w : World) (K : PySem.W.Frag) (mg : Str → Option Value) (base : Heap) (name : Str) (k : Nat) (ps : List Str) (sp : DSpec) : Prop :=
  ∃ (f : Addr) (fd : FuncData), mg name = some (.ref f) ∧ PySem.W.keepIn K (.ref f) = true ∧ L2.Binds K fd ps [] ∧ FnD P w K mg base k f fd ps sp
section
variable {P : Program} {w : World} {K : PySem.W.Frag} {mg : Str → Option Value} {base : Heap} {name : Str} {k : Nat} {ps : List Str} {sp : DSpec}
theorem Got.mono {j : Nat} (G : Got P w K mg base name j ps sp) (h : j ≤ k) : Got P w K mg base name k ps sp :=
  let ⟨f, fd, a, b, c, d⟩ := G
  ⟨f, fd, a, b, c, d.mono h⟩
theorem Got.imp {sp' : DSpec} (G : Got P w K mg base name k ps sp) (h : ∀ zs cs q, sp' zs cs q → sp zs cs q) : Got P w K mg base name k ps sp' :=
  let ⟨f, fd, a, b, c, d⟩ := G
  ⟨f, fd, a, b, c, d.imp h⟩
/-- what a def is to reach -/
abbrev endD (n : Nat) (q : Z → Cs → Prop) : DEnds := ⟨fun _ c => q (.d .non) (c.take n), FinZ n q, fun _ _ => False, fun _ _ => False⟩
theorem Got.mk {st : Stmt} {N : List Str} (T : DefT K mg name st ps) (S : FnScope N ps (defScope st)) (len : ∀ zs cs q, sp zs cs q → zs.length = ps.length) (t : DS)
    (der : ∀ (f : Addr) (cdv : Value) (A : Around) (outer : List Env) (s : Shared) (H : Hp), Room k (A.deeper (envOfC name (defScope st) s.heap.objs.size f cdv)) → (A.deeper (envOfC name (defScope st) s.heap.objs.size f cdv)).guards = some [] →
      ∃ ts : TS, QSs (cxOf CX0 P w K mg base N name (defScope st) f cdv A outer s H E0).nox (defBody st) ts t)
    (rd : ∀ zs cs q, sp zs cs q → t (endD cs.length q) (startD N zs) cs) : Got P w K mg base name (k + 1) ps sp := by
  obtain ⟨f, fd, F, g, b⟩ := T
  exact ⟨f, fd, g, F.kp, b, fn_D F S len t (der f) rd⟩
theorem defT_mk {st : Stmt} {h : Heap} {f : Addr} {oc : Value} {od an : Option Addr} {osl : Array (Option Value)} {kV doc pm cdv ct : Value} (X : K.In h) (G : h.Ns mainGlobals mg)
    (a : PySem.W.nsIn K mainGlobals name = some (some (.ref f))) (l : K.lookup f = some ⟨oc, od, .func (PySem.W.fnOf name name (defArgs st) (defBody st) (defScope st) .none kV doc pm an cdv ct), osl⟩)
    (c : PySem.W.codeIn K cdv name = true) (kp : PySem.W.keepIn K (.ref f) = true)
    (hb : ∀ (kV doc pm : Value) (an : Option Addr) (cdv ct : Value) (us : List Value), us.length = ps.length → bindArgs (PySem.W.fnOf name name (defArgs st) (defBody st) (defScope st) .none kV doc pm an cdv ct) ⟨us, []⟩ = pure (ps.zip us)) : DefT K mg name st ps :=
  ⟨f, _, fun_mk l c kp, PySem.W.mg_of X G a, (fun_mk l c kp).binds hb⟩
end
section
variable {X : Cx} {pos p : Pos} {x : Str} {k : Nat} {ps : List Str} {sp : DSpec} {e : Expr} {es : List Expr} {ta : TA} {da : DA}
theorem qc (G : Got X.prog X.w X.K X.mg X.base x k ps sp) (hr : Room k X.A) (hgd : X.A.guards = some []) (ha : QA X (e :: es) ta da) (hg : Gl X x := by rfl)
    (hdb : (x == ("__debug__" : Str)) = false := by decide) (he : starEach (e :: es) X.env = (false, eval e X.env) :: starEach es X.env := by rfl) (hpl : (backTo pos (starEach es X.env)).any (·.1) = false := by rfl) :
    QE X (.Call (.Name x p) (e :: es) [] pos) (tCallD X.K sp ta) (dCall sp da) := by
  obtain ⟨f, fd, a, b, c, d⟩ := G
  exact q_call d hr hgd a b c ha hg hdb he hpl
/-- a built-in type as a value -/
theorem q_bty {n : String} (hm : X.mg x = none) (hv : bootBuiltins x = some (.type n)) (hg : Gl X x := by rfl) (hn : x ≠ "__name__" := by decide) (hd : (x == ("__debug__" : Str)) = false := by decide) : QE X (.Name x pos) (tC (.ty n)) (dC (.ty n)) :=
  ⟨pe_bltn hg hm hv rfl hn hd, sem_c fun _ => rfl⟩
theorem q_inKT {a b : Expr} {ta tb : TE} {da db : DE} (hu : X.A.units + 1 < cLine) (ha : QE X a ta da) (hb : QE X b tb db) (hm : behindInMarks .In b = false := by rfl) : QT X (.Compare a [.In] [b] pos) (tB (tDIn ta tb)) (dB (dInK false da db)) := by
  refine ⟨pt_cmp (pc_din hu ha.pe hb.pe) hm, ?_⟩
  intro σ H S as en cs k Q rp e q p
  refine (q_inK (pos := pos) hu ha hb hm).sem.use rp e q fun z v S1 H1 as1 cs1 e1 r1 v1 q1 => ?_
  obtain ⟨b, rfl, q1⟩ := q1
  exact ⟨b, v1, p b S1 H1 as1 cs1 e1 r1 q1⟩
theorem q_notinKT {a b : Expr} {ta tb : TE} {da db : DE} (hu : X.A.units + 1 < cLine) (ha : QE X a ta da) (hb : QE X b tb db) (hm : behindInMarks .NotIn b = false := by rfl) : QT X (.Compare a [.NotIn] [b] pos) (tB (tDNotIn ta tb)) (dB (dInK true da db)) := by
  refine ⟨pt_cmp (pc_dnotin hu ha.pe hb.pe) hm, ?_⟩
  intro σ H S as en cs k Q rp e q p
  refine (q_notinK (pos := pos) hu ha hb hm).sem.use rp e q fun z v S1 H1 as1 cs1 e1 r1 v1 q1 => ?_
  obtain ⟨b, rfl, q1⟩ := q1
  exact ⟨b, v1, p b S1 H1 as1 cs1 e1 r1 q1⟩
end
theorem mg_int {K : PySem.W.Frag} {mg : Str → Option Value} {h : Heap} {name : Str} {n : Int} {t : Tok} (X : K.In h) (G : h.Ns mainGlobals mg) (a : PySem.W.nsIn K mainGlobals name = some (some (.int n t))) : ∃ t, mg name = some (.int n t) := ⟨t, PySem.W.mg_of X G a⟩
/-! ### the end of a law -/
section
variable {P : Program} {w : World} {K : PySem.W.Frag} {mg : Str → Option Value}
theorem law_callG {mb : Str → Option Value} {k : Nat} {fa a : Addr} {x name : Str} {sp : DSpec} {s1 : Shared} {vs : List Value} {ns : List Int}
    (KX : K.In s1.heap) (hns : s1.heap.Ns mainGlobals mg) (hb : s1.heap.Ns builtinsNs mb) (hbb : ∀ x : Str, x ≠ "__name__" → mb x = bootBuiltins x) (hlim : s1.heap.NoLimit) (hg : s1.gens = #[])
    (ha : s1.heap.get? a = some { cls := .type "list", data := .seq vs.toArray }) (hi : IntsAre vs ns) (hl : ns.length ≤ sizeLine) (hr : Room k callerA) (hmg : mg name = some (.ref fa))
    (F : ∀ base : Heap, K.In base → base.Ns mainGlobals mg → Got P w K mg base name k [x] sp)
    (hsp : sp [.d (.scr ns)] [] fun z _ => z = .d (.bl true)) :
    codeAny (model P w) callerA (.call (.ref fa) ⟨[.ref a], []⟩) (fun r s' => r = .ok (.ret (.bool true)) ∧ OldK s1.heap s'.heap ∧ s'.os = s1.os ∧ AllBare s'.gens) s1 := by
  have rv := vals_ints hi
  have core : ∀ H : Hp, Only H → SqL K H a (ns.map V.int) → HOk P w H s1.heap → (∀ b, H b ≠ none → b = a) → (H a ≠ none → K.lookup a = none) →
      codeAny (model P w) callerA (.call (.ref fa) ⟨[.ref a], []⟩) (fun r s' => r = .ok (.ret (.bool true)) ∧ OldK s1.heap s'.heap ∧ s'.os = s1.os ∧ AllBare s'.gens) s1 := by
    intro H hO hS hok hA hK
    have only : ∀ {b : Addr}, b ≠ a → H b = none := fun {b} hb => by
      cases q : H b with
      | none => rfl
      | some u => exact absurd (hA b (by rw [q]; exact fun z => nomatch z)) hb
    have keepD : ∀ {b : Addr} {o : Obj} {es : Array DictEntry} {ep : Nat}, s1.heap.get? b = some o → o.data = .dict es ep → (hidT s1.heap H).get? b = some o := fun {b o es ep} e d => hidT_get e (only fun z => by
      subst z
      rw [ha] at e
      cases e
      cases d)
    have keepN : ∀ {b : Addr} {m : Str → Option Value}, s1.heap.Ns b m → (hidT s1.heap H).Ns b m := fun ⟨o, es, ep, e, d, r⟩ => ⟨o, es, ep, keepD e d, d, r⟩
    have kb : K.In (hidT s1.heap H) := fun b o e => hidT_get (KX b o e) (by
      by_cases z : b = a
      · subst z
        cases q : H b with
        | none => rfl
        | some u => rw [hK (by rw [q]; exact fun z => nomatch z)] at e; cases e
      · exact only z)
    have md : Mod K mg (hidT s1.heap H) := ⟨kb, keepN hns, ⟨mb, keepN hb, hbb⟩, hlim.elim fun mc hm => ⟨mc, keepN hm.1, hm.2⟩⟩
    have e0 : Env0 P w K mg (hidT s1.heap H) callerA [] s1 H := ⟨rfl, md, fun b o e => of_hidT e, Nat.le_of_eq (hidT_size _ _), trivial, fun b hb => absurd hb (by exact fun z => nomatch z), hok, .of_eq hg⟩
    have sp0 : spD K sp [.ref a] H fun v _ => v = .bl true := ⟨H, [], [.d (.scr ns)], [], _, ⟨Sub.refl H, rfl, List.nodup_nil, fun n b c e => by simp at e, fun b hb => by simp at hb⟩, ⟨_, [], rfl, ⟨a, rfl, hS⟩, rfl⟩, hsp, fun z v S' H' as' cs' e r vz h => by subst h; exact vz⟩
    obtain ⟨f, fd, g, kp, b, FD⟩ := F _ kb (keepN hns)
    cases g.symm.trans hmg
    have hbind : BindsTo s1 fd ⟨[.ref a], []⟩ (([x] : List Str).zip [Value.ref a]) := b s1 [.ref a] KX rfl
    refine codeAny_mono (FD.run callerA [] s1 H ⟨[.ref a], []⟩ [.ref a] [.ref a] _ hr rfl e0 hbind (.cons rfl .nil) sp0) fun r s' h => ?_
    cases r with
    | error e => exact h.elim
    | ok fl =>
      cases fl with
      | next => exact h.elim
      | brk => exact h.elim
      | cont => exact h.elim
      | ret u =>
        obtain ⟨v, H', os, bare, un, hok', r', rfl⟩ := h
        obtain rfl : u = Value.bool true := r'
        refine ⟨rfl, OldK.of_keep fun b o e => ?_, os, bare⟩
        rcases hO b with z | ⟨ob, xs, z⟩
        · exact un.keep b o e z (fun q => nomatch q) (fun q => nomatch q)
        · obtain ⟨e1, _⟩ := hok b _ z
          obtain ⟨e2, _⟩ := hok' b _ (un.frzs b ob _ z)
          rw [e] at e1
          cases e1
          exact e2
  cases hk : K.lookup a with
  | some o =>
    have e := KX a o hk
    rw [ha] at e
    cases e
    exact core (fun _ => none) (fun _ => .inl rfl) (.inr ⟨_, vs.toArray, _, hk, rfl, rfl, rfl, by rw [List.size_toArray, hi.length]; exact hl, by simpa using rv⟩) (fun b u z => by cases z) (fun b z => absurd rfl z) fun z => absurd rfl z
  | none =>
    have at_ : ∀ b, b ≠ a → (fun b => if b = a then some (HO.frz { cls := .type "list", data := .seq vs.toArray } (.lst (ns.map V.int))) else none) b = none := fun b hb => if_neg hb
    refine core (fun b => if b = a then some (.frz { cls := .type "list", data := .seq vs.toArray } (.lst (ns.map V.int))) else none) (fun b => ?_) (.inl (.inr ⟨{ cls := .type "list", data := .seq vs.toArray }, if_pos rfl⟩)) (fun b u z => ?_) (fun b z => ?_) fun _ => hk
    · by_cases h : b = a
      · exact .inr ⟨_, _, if_pos h⟩
      · exact .inl (at_ b h)
    · by_cases h : b = a
      · cases (if_pos h).symm.trans z
        subst h
        exact ⟨ha, by rw [List.length_map]; exact hl, vs, _, rv, ha⟩
      · cases (at_ b h).symm.trans z
    · exact Decidable.byContradiction fun h => z (at_ b h)
end
/-- the law's end, from what callers of the law know -/
theorem walk_G {l : PySem.W.OpenLaw} {n k : Nat} {q : Program} {loose : List Str} {XP : (Str → Option Value) → Heap → Prop} {YP : World → Heap → Prop} {d : DefRec} {K : Params → PySem.W.Frag} {sp : DSpec} {x : Str}
    (hn : l.most = some n) (hn2 : n ≤ sizeLine) (hdf : d.params.defaults = []) (hr : Room k callerA) (hY : ∀ (w : World) (h : Heap), YP w h → (K w.params).In h)
    (F : ∀ (w : World) (mg : Str → Option Value) (h : Heap), (K w.params).In h → h.Ns mainGlobals mg →
      ∀ base : Heap, (K w.params).In base → base.Ns mainGlobals mg → Got l.prog w (K w.params) mg base d.name k [x] sp)
    (hsp : ∀ ns : List Int, ns.length ≤ n → sp [.d (.scr ns)] [] fun z _ => z = .d (.bl true)) :
    PySem.W.WalkO q loose XP YP l.row.toRowW d [] (fun f vs => PySem.call f vs) := by
  refine Att.attach_call hn hdf fun w s0 s1 mg mb fa o pm cd doc a vs ns G Y ho hd hcd hmg hobj hints hlen hg => ?_
  have KX := hY w _ Y
  exact law_callG KX G.T.g G.T.b G.T.builtins G.T.nolimit hg hobj hints (Nat.le_trans hlen hn2) hr hmg (F w mg _ KX G.T.g) (hsp ns hlen)
end DL
set_option Elab.async false
set_option linter.all false
set_option maxRecDepth 100000
set_option maxHeartbeats 2000000
set_option autoImplicit false
namespace DL
open PySem L2
/-- a comprehension whose turn changes no cell -/
theorem lc_go {fin : (Z → Cs → Prop) → List D → Cs → Prop} {k : Z → Cs → Prop} {ds : List D} {keep : Cs → Prop} {cs1 : Cs} {g : DG} {tt : DT} {te : DE} {own : List Nat} {en : En} (f : D → Option D) (hk : ∀ acc, keep (cs1 ++ [.lst acc])) (hl : ds.length ≤ 15000000)
    (h : ∀ (i : Nat) (d : D) (acc : List D), ds[i]? = some d → ∀ (P : Z → Cs → Prop) (N : Cs → Prop), (∀ y, f d = some y → P (.d y) (cs1 ++ [.lst acc])) → (f d = none → N (cs1 ++ [.lst acc])) →
      g (.d d) (wipeD en own) (cs1 ++ [.lst acc]) fun en2 cs2 => tt en2 cs2 fun b cs3 => if b = true then te en2 cs3 P else N cs3)
    (hq : fin k (ds.filterMap f) cs1) :
    ∃ I : Nat → List D → Cs → Prop, I 0 [] cs1 ∧ (∀ i acc c, I i acc c → c.length = cs1.length ∧ keep (c ++ [.lst acc])) ∧
      (∀ i d acc c, ds[i]? = some d → I i acc c → g (.d d) (wipeD en own) (c ++ [.lst acc]) fun en2 cs2 => tt en2 cs2 fun b cs3 =>
        if b = true then te en2 cs3 fun z cs4 => ∃ y c', z = .d y ∧ cs4.take (c.length + 1) = c' ++ [.lst acc] ∧ c'.length = c.length ∧ acc.length < LIM ∧ I (i + 1) (acc ++ [y]) c'
        else ∃ c', cs3.take (c.length + 1) = c' ++ [.lst acc] ∧ c'.length = c.length ∧ I (i + 1) acc c') ∧
      ∀ acc c, I ds.length acc c → fin k acc c := by
  refine ⟨fun i acc c => c = cs1 ∧ acc = (ds.take i).filterMap f, ⟨rfl, rfl⟩, ?_, ?_, ?_⟩
  · rintro i acc c ⟨rfl, _⟩
    exact ⟨rfl, hk acc⟩
  · rintro i d acc c hd ⟨rfl, rfl⟩
    have hi := (List.getElem?_eq_some_iff.mp hd).1
    have tk : (c ++ [D.lst ((ds.take i).filterMap f)]).take (c.length + 1) = c ++ [D.lst ((ds.take i).filterMap f)] := List.take_of_length_le (by simp)
    have sz : ((ds.take i).filterMap f).length < LIM := lim_lt (by
      have h1 := List.length_filterMap_le f (ds.take i)
      rw [List.length_take] at h1
      omega)
    have step : (ds.take (i + 1)).filterMap f = (ds.take i).filterMap f ++ (match f d with
      | some y => [y]
      | none => []) := by
      rw [List.take_add_one, hd, List.filterMap_append]
      congr 1
      show List.filterMap f [d] = _
      rw [List.filterMap_cons, List.filterMap_nil]
      cases f d <;> rfl
    refine h i d _ hd _ _ (fun y hy => ⟨y, c, rfl, tk, rfl, sz, rfl, ?_⟩) (fun hy => ⟨c, tk, rfl, rfl, ?_⟩)
    · rw [step, hy]
    · rw [step, hy, List.append_nil]
  · rintro acc c ⟨rfl, rfl⟩
    rw [List.take_length]
    exact hq
theorem filterMap_some {α β : Type} (f : α → β) (l : List α) : l.filterMap (fun x => some (f x)) = l.map f := by
  induction l with
  | nil => rfl
  | cons a l ih => rw [List.filterMap_cons, List.map_cons, ih]
/-- .. without a test -/
theorem lc_map {fin : (Z → Cs → Prop) → List D → Cs → Prop} {k : Z → Cs → Prop} {ds : List D} {keep : Cs → Prop} {cs1 : Cs} {g : DG} {te : DE} {own : List Nat} {en : En} (f : D → D) (hk : ∀ acc, keep (cs1 ++ [.lst acc])) (hl : ds.length ≤ 15000000)
    (h : ∀ (i : Nat) (d : D) (acc : List D), ds[i]? = some d → ∀ (P : Z → Cs → Prop), P (.d (f d)) (cs1 ++ [.lst acc]) → g (.d d) (wipeD en own) (cs1 ++ [.lst acc]) fun en2 cs2 => te en2 cs2 P)
    (hq : fin k (ds.map f) cs1) :
    ∃ I : Nat → List D → Cs → Prop, I 0 [] cs1 ∧ (∀ i acc c, I i acc c → c.length = cs1.length ∧ keep (c ++ [.lst acc])) ∧
      (∀ i d acc c, ds[i]? = some d → I i acc c → g (.d d) (wipeD en own) (c ++ [.lst acc]) fun en2 cs2 => dYes en2 cs2 fun b cs3 =>
        if b = true then te en2 cs3 fun z cs4 => ∃ y c', z = .d y ∧ cs4.take (c.length + 1) = c' ++ [.lst acc] ∧ c'.length = c.length ∧ acc.length < LIM ∧ I (i + 1) (acc ++ [y]) c'
        else ∃ c', cs3.take (c.length + 1) = c' ++ [.lst acc] ∧ c'.length = c.length ∧ I (i + 1) acc c') ∧
      ∀ acc c, I ds.length acc c → fin k acc c := by
  refine lc_go (fun x => some (f x)) hk hl (fun i d acc hd P N hp _ => ?_) (by rw [filterMap_some]; exact hq)
  show g (.d d) (wipeD en own) (cs1 ++ [.lst acc]) fun en2 cs2 => te en2 cs2 P
  exact h i d acc hd P (hp _ rfl)
theorem yes_all (cs : Cs) : ∀ acc, yes (cs ++ [.lst acc]) := fun _ => trivial
theorem finZ_d (n : Nat) (q : Z → Cs → Prop) (x : D) (cs : Cs) : FinZ n q (.d x) cs = q (.d x) (cs.take n) := nd rfl
end DL
set_option Elab.async false
set_option linter.all false
set_option maxRecDepth 100000
set_option maxHeartbeats 2000000
set_option autoImplicit false
/-! t[::-1] of lists and tuples -/
namespace DL
open PySem PySem.Spec PyProof.Rows HT L2
section
variable {prog : Program} {w : World} {A : Around} {E : Value → Shared → Prop} {s : Shared}
theorem places_rev (n : Nat) : Builtin.Slice.slicePlaces ((n : Int) - 1) (-1) (-1) = n := by
  unfold Builtin.Slice.slicePlaces
  simp only [show ¬ ((-1 : Int) > 0) from by omega, if_false]
  have e : ((n : Int) - 1 - -1 - -1 - 1) / (- -1) = (n : Int) := by
    rw [show (- -1 : Int) = 1 by decide, Int.ediv_one]
    omega
  first
    | (split <;> omega)
    | (simp; omega)
theorem applied_rev {sl : Addr} {vl vu vs : Value} {n : Nat} {Q : Int × Int × Nat → Shared → Prop} (hs : s.heap.IsSliceOf sl vl vu vs) (pl : IsPart vl none) (pu : IsPart vu none) (ps : IsPart vs (some (-1)))
    (h : Q ((n : Int) - 1, -1, n) s) : wpAny (model prog w) A (Builtin.Slice.sliceApplied (.ref sl) (pure (n : Int))) Q E s := by
  obtain ⟨os, hos, hcs, hds⟩ := id hs
  unfold Builtin.Slice.sliceApplied Builtin.Slice.sliceFields
  refine wpAny_bind (wpAny_bind (wpAny_field hos hds (x := vl) rfl (wpAny_bind (wpAny_field hos hds (x := vu) rfl (wpAny_bind (wpAny_field hos hds (x := vs) rfl (wpAny_pure ?_)))))))
  refine wpAny_bind (HT.slicePart_ ps ?_)
  show wpAny _ _ (if ((-1 : Int) == 0) = true then _ else _) _ _ s
  rw [if_neg (by decide)]
  refine wpAny_bind (HT.slicePart_ pl (wpAny_bind (HT.slicePart_ pu (wpAny_bind (wpAny_pure ?_)))))
  show wpAny _ _ (pure ((n : Int) - 1, (-1 : Int), Builtin.Slice.slicePlaces ((n : Int) - 1) (-1) (-1))) _ _ s
  rw [places_rev]
  exact wpAny_pure h
theorem fm_congr {α β : Type} {f g : α → Option β} : ∀ {l : List α}, (∀ x ∈ l, f x = g x) → l.filterMap f = l.filterMap g
  | [], _ => rfl
  | a :: l, h => by
    rw [List.filterMap_cons, List.filterMap_cons, h a List.mem_cons_self, fm_congr fun x hx => h x (List.mem_cons_of_mem _ hx)]
theorem pick_rev (xs : Array Value) : ((List.range xs.size).filterMap fun (m : Nat) => xs[((xs.size : Int) - 1 + (m : Int) * (-1)).toNat]?).toArray = xs.toList.reverse.toArray := by
  congr 1
  have h := PySem.W.krv_all xs
  rw [← h, ← List.filterMap_reverse, ← PySem.W.krv_range, List.filterMap_map]
  refine fm_congr fun m hm => ?_
  have := List.mem_range.mp hm
  have e : ((xs.size : Int) - 1 + (m : Int) * (-1)).toNat = xs.size - 1 - m := by omega
  show xs[((xs.size : Int) - 1 + (m : Int) * (-1)).toNat]? = xs[xs.size - 1 - m]?
  rw [e]
theorem getItem_tuple_rev {t sl : Addr} {items : Array Value} {vl vu vs : Value} {Q : Value → Shared → Prop} (ht : IsTup s.heap t items) (hs : s.heap.IsSliceOf sl vl vu vs) (pl : IsPart vl none) (pu : IsPart vu none) (ps : IsPart vs (some (-1)))
    (h : Q (.ref s.heap.objs.size) { s with heap := s.heap.push { cls := .type "tuple", data := .seq items.toList.reverse.toArray } })
    (hsz : items.size ≤ sizeLine) : wpAny (model prog w) A (getItem (.ref t) (.ref sl)) Q E s := by
  have htake : sizeOk (.seq items.toList.reverse.toArray) := by
    show items.toList.reverse.toArray.size ≤ sizeLine
    rw [List.size_toArray, List.length_reverse, Array.length_toList]
    exact hsz
  obtain ⟨os, hos, hcs, hds⟩ := id hs
  have hTs : s.TypeIs (.ref sl) "slice" := ⟨os, hos, hcs⟩
  unfold getItem
  try with_reducible refine wpAny_holding ?_
  first | refine wpAny_bind (wpAny_pure ?_) | skip
  refine wpAny_bind (wpAny_sequenceKey ht.typeIs (by decide) ?_)
  refine wpAny_bind (wpAny_callSpecial?_slot (name := Str.ofString "__getitem__") ht.typeIs PyProof.Rows.slot_tuple_getitem
    (wpAny_call_entry PyProof.Rows.slot_tuple_getitem ht.typeIs entry_tuple_getitem ?_ (args_tuple_getitem _ _)))
  show wpAny _ _ (Builtin.Tuple.tupleItemsOf (.ref t) >>= _) _ _ s
  refine wpAny_bind (tupleItemsOf_ ht ?_)
  refine wpAny_bind (wpAny_typeOf hTs ?_)
  rw [if_pos (by decide)]
  refine wpAny_bind (applied_rev hs pl pu ps ?_)
  have hno : ¬ (((items.size : Int) - 1 == 0 && (-1 : Int) == 1 && items.size == items.size) = true) := by
    intro q
    rw [Bool.and_eq_true, Bool.and_eq_true] at q
    exact absurd (eq_of_beq q.1.2) (by decide)
  show wpAny _ _ (if ((items.size : Int) - 1 == 0 && (-1 : Int) == 1 && items.size == items.size) = true then _ else _) _ _ s
  rw [if_neg hno, pick_rev]
  first
    | exact wpAny_bind (m := Builtin.Tuple.tupleExact _) (wpAny_newObj_type (wpAny_pure ⟨_, rfl, wpAny_pure h⟩) htake)
    | exact wpAny_bind (m := Builtin.Tuple.tupleExact _) (wpAny_newObj_type (wpAny_bind (wpAny_pure (wpAny_pure ⟨_, rfl, wpAny_pure h⟩))) htake)
    | exact wpAny_bind (wpAny_bind (m := Builtin.Tuple.tupleExact _) (wpAny_newObj_type (wpAny_bind (wpAny_pure (wpAny_pure ⟨_, rfl, wpAny_pure h⟩))) htake))
    | exact wpAny_bind (wpAny_bind (m := Builtin.Tuple.tupleExact _) (wpAny_newObj_type (wpAny_pure ⟨_, rfl, wpAny_pure h⟩) htake))
end
section
variable {X : Cx} {pos : Pos}
def tRevU (K : PySem.W.Frag) (te : TE) : TE := fun σ H Q => te σ H fun x H1 => ∃ a xs, x = .ref a ∧ ((SqL K H1 a xs ∧ ∀ p, H1 p = none → Q (.ref p) (upd H1 p (.lst xs.reverse))) ∨ (SqT K H1 a xs ∧ ∀ p, H1 p = none → Q (.ref p) (upd H1 p (.tup xs.reverse))))
theorem pe_revU {e : Expr} {te : TE} {k : Nat} {p1 p2 p3 pos : Pos} (he : PE X e te) : PE X (.Subscript e (.Slice none none (some (.UnaryOp .USub (.Constant (.int 1) k p1) p2)) p3) pos) (tRevU X.K te) := by
  refine ⟨fun pins s σ H Q I h => ?_⟩
  refine Subscript_ (thn (he.run pins s σ H _ I h) fun v s1 ⟨x, H1, I1, r1, q1⟩ => ?_)
  obtain ⟨a, xs, ex, q1⟩ := q1
  subst ex
  cases r1
  have hst : PO X (some (.UnaryOp .USub (.Constant (.int 1) k p1) p2)) (tPart (tUn (rU fun i => .int (-i)) (tC (.int 1)))) := po_some (pe_un un_neg pe_int)
  refine wpAny_Slice (thn (po_none.run pins s1 σ H1 (fun o H2 => o = none ∧ H2 = H1) I1 ⟨rfl, rfl⟩) fun vl s2 ⟨l, H2, I2, pl, el, e2⟩ => ?_)
  subst el e2
  refine thn (po_none.run pins s2 σ H2 (fun o H3 => o = none ∧ H3 = H2) I2 ⟨rfl, rfl⟩) fun vu s3 ⟨u, H3, I3, pu, eu, e3⟩ => ?_
  subst eu e3
  refine thn (hst.run pins s3 σ H3 (fun o H4 => o = some (-1) ∧ H4 = H3) I3 ⟨1, rfl, -1, rfl, rfl, rfl⟩) fun vs s4 ⟨o, H4, I4, ps, eo, e4⟩ => ?_
  subst eo e4
  have I5 : Inv X pins σ H4 { s4 with heap := s4.heap.push { cls := .type "slice", data := .fields #[vl, vu, vs] } } := I4.kept (t' := s4.toks) fun b ob q => Heap.get?_push_of_some _ q
  show wpAny (model X.prog X.w) X.A (subscriptTail e (.Slice none none (some (.UnaryOp .USub (.Constant (.int 1) k p1) p2)) p3) (.ref a) (.ref s4.heap.objs.size)) (EP X pins σ Q) X.xe { s4 with heap := s4.heap.push { cls := .type "slice", data := .fields #[vl, vu, vs] } }
  rcases q1 with ⟨hx, q⟩ | ⟨hx, q⟩
  · obtain ⟨its, r, ht, hz⟩ := I5.list hx
    have hlen := r.length
    refine tail_any (ops := [.ref a, .ref s4.heap.objs.size]) ht.isList.typeIs (PySem.slot_list_getitem.lookup) ?_ (by with_unfolding_all rfl)
    refine wpAny_getItem_list_slice ht.isList (Heap.IsSliceOf.new _ vl vu vs) pl pu ps (by decide) ?_ (by rw [List.size_toArray]; omega)
    rw [PySem.W.krv_pick]
    refine ⟨.ref _, _, I5.laid (t' := s4.toks) (o := .lst xs.reverse) (fun b ob q => Heap.get?_push_of_some _ q) (Nat.le_refl _) ?_, rfl, q _ (I5.hok.fresh (Nat.le_refl _))⟩
    exact ⟨by rw [List.length_reverse]; exact hz, _, 0, r.reverse, Heap.get?_push_size _ rfl⟩
  · obtain ⟨its, r, ht, hz⟩ := I5.tuple hx
    have hlen := r.length
    refine tail_any (ops := [.ref a, .ref s4.heap.objs.size]) ht.typeIs (PyProof.Rows.slot_tuple_getitem.lookup) ?_ (by with_unfolding_all rfl)
    refine getItem_tuple_rev ht (Heap.IsSliceOf.new _ vl vu vs) pl pu ps ?_ (by rw [List.size_toArray]; omega)
    refine ⟨.ref _, _, I5.laid (t' := s4.toks) (o := .tup xs.reverse) (fun b ob q => Heap.get?_push_of_some _ q) (Nat.le_refl _) ?_, rfl, q _ (I5.hok.fresh (Nat.le_refl _))⟩
    exact ⟨by rw [List.length_reverse]; exact hz, _, r.reverse, IsTup.new _ _⟩
def revD : D → (D → Prop) → Prop
  | .lst ds, k => k (.lst ds.reverse)
  | .tup ds, k => k (.tup ds.reverse)
  | _, _ => False
def dRev (a : DE) : DE := fun en cs k => a en cs fun x cs1 => withD cs1 x fun dx => revD dx fun z => k (.d z) cs1
theorem q_rev {a : Expr} {ta : TE} {da : DE} {kk : Nat} {p1 p2 p3 : Pos} (ha : QE X a ta da) : QE X (.Subscript a (.Slice none none (some (.UnaryOp .USub (.Constant (.int 1) kk p1) p2)) p3) pos) (tRevU X.K ta) (dRev da) := by
  refine ⟨pe_revU ha.pe, ?_⟩
  intro σ H S as en cs k Q rp e q p
  refine ha.sem.use rp e q fun z v S1 H1 as1 cs1 e1 r1 v1 q1 => ?_
  obtain ⟨dx, l1, q1⟩ := withD_look q1
  have hx := look_sh r1 v1 l1
  cases dx with
  | lst ds =>
    obtain ⟨ad, vs, rfl, hs, is⟩ := hx
    refine ⟨ad, vs, rfl, .inl ⟨SqL.of hs, fun b hb => ?_⟩⟩
    have hn := Sub.new (o := .lst vs.reverse) (r1.sub.free hb)
    exact p (.d (.lst _)) _ _ _ as1 cs1 (e1.trans (Ext.of hn)) (r1.lay hb _) ⟨b, _, rfl, upd_same, IsL.mono hn _ _ is.rev⟩ q1
  | tup ds =>
    obtain ⟨ad, vs, rfl, hs, is⟩ := hx
    refine ⟨ad, vs, rfl, .inr ⟨r1.sub.t hs, fun b hb => ?_⟩⟩
    have hn := Sub.new (o := .tup vs.reverse) (r1.sub.free hb)
    exact p (.d (.tup _)) _ _ _ as1 cs1 (e1.trans (Ext.of hn)) (r1.lay hb _) ⟨b, _, rfl, SqT.of upd_same, IsL.mono hn _ _ is.rev⟩ q1
  | _ => exact q1.elim
end
end DL
set_option Elab.async false
set_option linter.all false
set_option maxRecDepth 100000
set_option maxHeartbeats 2000000
set_option autoImplicit false
/-! DLL: loops and comprehensions by what they walk; what repr takes -/
namespace DL
open PySem PySem.Spec PyProof.Rows L2
theorem dFor_mk {it : DI} {g : DG} {b : DS} {D0 : DEnds} {en : En} {cs : Cs} (ds : List D) (keep : Cs → Prop) (cs1 : Cs) (hit : ∀ K, K ds keep cs1 → it en cs K) (I : Nat → En → Cs → Prop) (h0 : I 0 en cs1)
    (hs : ∀ i d en cs, ds[i]? = some d → I i en cs → g (.d d) en cs fun en2 cs2 => b { D0 with nx := Wkn cs1.length (I (i + 1)), ct := Wkn cs1.length (I (i + 1)), bk := D0.nx } en2 cs2) (he : ∀ en cs, I ds.length en cs → D0.nx en cs)
    (hk : ∀ i en cs, I i en cs → keep cs) : dFor it g b D0 en cs := hit _ ⟨I, h0, hk, hs, he⟩
theorem dLc_mk {fin : (Z → Cs → Prop) → List D → Cs → Prop} {it : DI} {g : DG} {te : DE} {own : List Nat} {en : En} {cs : Cs} {k : Z → Cs → Prop} (ds : List D) (keep : Cs → Prop) (cs1 : Cs) (hit : ∀ K, K ds keep cs1 → it en cs K) (f : D → D) (hl : ds.length ≤ 15000000)
    (h : ∀ (i : Nat) (d : D) (acc : List D), ds[i]? = some d → ∀ (P : Z → Cs → Prop), P (.d (f d)) (cs1 ++ [.lst acc]) → g (.d d) (wipeD en own) (cs1 ++ [.lst acc]) fun en2 cs2 => te en2 cs2 P)
    (hq : fin k (ds.map f) cs1) (hk : ∀ acc, keep (cs1 ++ [.lst acc])) : dLcG fin it g dYes te own en cs k := hit _ (lc_map f hk hl h hq)
theorem dLc_if {fin : (Z → Cs → Prop) → List D → Cs → Prop} {it : DI} {g : DG} {tt : DT} {te : DE} {own : List Nat} {en : En} {cs : Cs} {k : Z → Cs → Prop} (ds : List D) (keep : Cs → Prop) (cs1 : Cs) (hit : ∀ K, K ds keep cs1 → it en cs K) (f : D → Option D) (hl : ds.length ≤ 15000000)
    (h : ∀ (i : Nat) (d : D) (acc : List D), ds[i]? = some d → ∀ (P : Z → Cs → Prop) (N : Cs → Prop), (∀ y, f d = some y → P (.d y) (cs1 ++ [.lst acc])) → (f d = none → N (cs1 ++ [.lst acc])) →
      g (.d d) (wipeD en own) (cs1 ++ [.lst acc]) fun en2 cs2 => tt en2 cs2 fun b cs3 => if b = true then te en2 cs3 P else N cs3)
    (hq : fin k (ds.filterMap f) cs1) (hk : ∀ acc, keep (cs1 ++ [.lst acc])) : dLcG fin it g tt te own en cs k := hit _ (lc_go f hk hl h hq)
/-- .. where what is walked comes of calls -/
def dForB (g : DG) (b : DS) (D0 : DEnds) (en : En) (ds : List D) (keep : Cs → Prop) (cs1 : Cs) : Prop := ∃ I : Nat → En → Cs → Prop, I 0 en cs1 ∧ (∀ i en cs, I i en cs → keep cs) ∧
  (∀ i d en cs, ds[i]? = some d → I i en cs → g (.d d) en cs fun en2 cs2 => b { D0 with nx := Wkn cs1.length (I (i + 1)), ct := Wkn cs1.length (I (i + 1)), bk := D0.nx } en2 cs2) ∧ ∀ en cs, I ds.length en cs → D0.nx en cs
theorem dFor_it {it : DI} {g : DG} {b : DS} {D0 : DEnds} {en : En} {cs : Cs} (h : it en cs (dForB g b D0 en)) : dFor it g b D0 en cs := h
theorem dForB_mk {g : DG} {b : DS} {D0 : DEnds} {en : En} {ds : List D} {keep : Cs → Prop} {cs1 : Cs} (I : Nat → En → Cs → Prop) (h0 : I 0 en cs1)
    (hs : ∀ i d en cs, ds[i]? = some d → I i en cs → g (.d d) en cs fun en2 cs2 => b { D0 with nx := Wkn cs1.length (I (i + 1)), ct := Wkn cs1.length (I (i + 1)), bk := D0.nx } en2 cs2) (he : ∀ en cs, I ds.length en cs → D0.nx en cs)
    (hk : ∀ i en cs, I i en cs → keep cs) : dForB g b D0 en ds keep cs1 := ⟨I, h0, hk, hs, he⟩
def dLcB (fin : (Z → Cs → Prop) → List D → Cs → Prop) (g : DG) (tt : DT) (te : DE) (own : List Nat) (en : En) (k : Z → Cs → Prop) (ds : List D) (keep : Cs → Prop) (cs1 : Cs) : Prop := dLcG fin (fun _ _ K => K ds keep cs1) g tt te own en cs1 k
theorem dLc_it {fin : (Z → Cs → Prop) → List D → Cs → Prop} {it : DI} {g : DG} {tt : DT} {te : DE} {own : List Nat} {en : En} {cs : Cs} {k : Z → Cs → Prop} (h : it en cs (dLcB fin g tt te own en k)) : dLcG fin it g tt te own en cs k := h
/-! repr -/
structure RpN (w dep : Nat) (d : D) : Prop where
  ok : pyOk d = true
  sh : (py d).showable = true
  nd : (py d).hasDict = false
  dp : (py d).depth ≤ dep
  ln : (py d).shown.length ≤ w
theorem RpN.le {w w' e e' : Nat} {d : D} (h : RpN w e d) (h1 : w ≤ w') (h2 : e ≤ e') : RpN w' e' d := ⟨h.ok, h.sh, h.nd, Nat.le_trans h.dp h2, Nat.le_trans h.ln h1⟩
theorem RpN.rp {w e : Nat} {d : D} (h : RpN w e d) (h1 : w ≤ 16777216) (h2 : e ≤ 60) : RpOk d := ⟨h.ok, h.sh, h.nd, Nat.le_trans h.dp h2, Nat.le_trans h.ln (by rw [sizeLine_eq]; omega)⟩
theorem RpN.non : RpN 4 0 .non := ⟨rfl, rfl, rfl, Nat.le_refl _, by decide⟩
theorem RpN.bl (b : Bool) : RpN 5 0 (.bl b) := ⟨rfl, rfl, rfl, Nat.le_refl _, by cases b <;> decide⟩
theorem lt_pow_log2 {n k : Nat} (h0 : 0 < k) (h : n < 2 ^ k) : n.log2 < k := by
  by_cases e : n = 0
  · subst e
    simpa using h0
  · exact (Nat.log2_lt e).mpr h
theorem RpN.int {i : Int} (h1 : -(10 ^ 200) < i) (h2 : i < 10 ^ 200) : RpN 201 0 (.int i) := by
  have ha : i.natAbs < 10 ^ 200 := by omega
  refine ⟨rfl, ?_, rfl, Nat.le_refl _, ?_⟩
  · show decide (i.natAbs.log2 < 1920) = true
    exact decide_eq_true (lt_pow_log2 (by decide) (Nat.lt_of_lt_of_le ha (by decide +kernel)))
  · have e := int_text_length_le10 (k := 200) (by decide) ha
    show (Str.ofString (toString i)).length ≤ 201
    rw [PySem.ofString_length]
    exact e
theorem pyL_len : ∀ ds : List D, (pyL ds).length = ds.length
  | [] => rfl
  | d :: ds => by
    show (py d :: pyL ds).length = _
    rw [List.length_cons, List.length_cons, pyL_len ds]
theorem rp_all {w e : Nat} : ∀ {ds : List D}, (∀ d ∈ ds, RpN w e d) → pyOkL ds = true ∧ PyData.showableAll (pyL ds) = true ∧ PyData.hasDictAll (pyL ds) = false ∧ PyData.depthAll (pyL ds) ≤ e ∧ ((PyData.shownAll (pyL ds)).map (·.length)).sum ≤ w * ds.length
  | [], _ => ⟨rfl, rfl, rfl, Nat.zero_le _, by simp [pyL, PyData.shownAll]⟩
  | d :: ds, h => by
    obtain ⟨a, b, c, f, g⟩ := rp_all fun x hx => h x (List.mem_cons_of_mem _ hx)
    have r := h d List.mem_cons_self
    have hd := r.dp
    have hl := r.ln
    refine ⟨?_, ?_, ?_, ?_, ?_⟩
    · show (pyOk d && pyOkL ds) = true
      rw [r.ok, a]; rfl
    · simp only [pyL, PyData.showableAll, r.sh, b, Bool.and_self]
    · simp only [pyL, PyData.hasDictAll, r.nd, c, Bool.or_self]
    · simp only [pyL, PyData.depthAll]
      omega
    · simp only [pyL, PyData.shownAll, List.map_cons, List.sum_cons, List.length_cons]
      rw [Nat.mul_succ]
      omega
theorem shownAll_len (ds : List D) : (PyData.shownAll (pyL ds)).length = ds.length := by rw [PyData.shownAll_length, pyL_len]
theorem RpN.lst {w e : Nat} {ds : List D} (n : Nat) (hn : ds.length ≤ n) (h : ∀ d ∈ ds, RpN w e d) : RpN ((w + 2) * n + 3) (e + 1) (.lst ds) := by
  obtain ⟨a, b, c, f, g⟩ := rp_all h
  refine ⟨a, by simpa only [py, PyData.showable] using b, by simpa only [py, PyData.hasDict] using c, by simp only [py, PyData.depth]; omega, ?_⟩
  have l := listText_len_le (PyData.shownAll (pyL ds))
  rw [shownAll_len] at l
  simp only [py, PyData.shown]
  have m : (w + 2) * ds.length ≤ (w + 2) * n := Nat.mul_le_mul_left _ hn
  rw [Nat.add_mul] at m
  omega
theorem RpN.tup {w e : Nat} {ds : List D} (n : Nat) (hn : ds.length ≤ n) (h : ∀ d ∈ ds, RpN w e d) : RpN ((w + 2) * n + 3) (e + 1) (.tup ds) := by
  obtain ⟨a, b, c, f, g⟩ := rp_all h
  refine ⟨a, by simpa only [py, PyData.showable] using b, by simpa only [py, PyData.hasDict] using c, by simp only [py, PyData.depth]; omega, ?_⟩
  have l := tupleText_len_le (PyData.shownAll (pyL ds))
  rw [shownAll_len] at l
  simp only [py, PyData.shown]
  have m : (w + 2) * ds.length ≤ (w + 2) * n := Nat.mul_le_mul_left _ hn
  rw [Nat.add_mul] at m
  omega
theorem RpN.bls (bs : List Bool) (n : Nat) (hn : bs.length ≤ n) : RpN (7 * n + 3) 1 (.lst (bs.map D.bl)) := RpN.lst n (by rw [List.length_map]; exact hn) fun d hd => by
  obtain ⟨b, _, rfl⟩ := List.mem_map.mp hd
  exact RpN.bl b
theorem rpOk_bl (b : Bool) : RpOk (.bl b) := (RpN.bl b).rp (by decide) (by decide)
theorem rpOk_bls (bs : List Bool) (hn : bs.length ≤ 100000) : RpOk (.lst (bs.map D.bl)) := (RpN.bls bs 100000 hn).rp (by decide) (by decide)
/-! what == takes -/
structure EqN (dep : Nat) (d : D) : Prop where
  ok : pyOk d = true
  cl : (py d).canLay0 = true
  dp : (py d).depth ≤ dep
theorem EqN.le {e e' : Nat} {d : D} (h : EqN e d) (h2 : e ≤ e') : EqN e' d := ⟨h.ok, h.cl, Nat.le_trans h.dp h2⟩
theorem EqN.eq {e : Nat} {d : D} (h : EqN e d) (h2 : e ≤ 64) : EqOk d := ⟨h.ok, by
  unfold SeqAt.shaped
  rw [h.cl, decide_eq_true (Nat.le_trans h.dp h2)]
  rfl⟩
theorem EqN.non : EqN 0 .non := ⟨rfl, rfl, Nat.le_refl _⟩
theorem EqN.bl (b : Bool) : EqN 0 (.bl b) := ⟨rfl, rfl, Nat.le_refl _⟩
theorem EqN.int (i : Int) : EqN 0 (.int i) := ⟨rfl, rfl, Nat.le_refl _⟩
theorem eq_all {e : Nat} : ∀ {ds : List D}, (∀ d ∈ ds, EqN e d) → pyOkL ds = true ∧ PyData.canLayAll0 (pyL ds) = true ∧ PyData.depthAll (pyL ds) ≤ e
  | [], _ => ⟨rfl, rfl, Nat.zero_le _⟩
  | d :: ds, h => by
    obtain ⟨a, b, c⟩ := eq_all fun x hx => h x (List.mem_cons_of_mem _ hx)
    have r := h d List.mem_cons_self
    have hd := r.dp
    refine ⟨?_, ?_, ?_⟩
    · show (pyOk d && pyOkL ds) = true
      rw [r.ok, a]; rfl
    · simp only [pyL, PyData.canLayAll0, r.cl, b, Bool.and_self]
    · simp only [pyL, PyData.depthAll]
      omega
theorem EqN.lst {e : Nat} {ds : List D} (h : ∀ d ∈ ds, EqN e d) : EqN (e + 1) (.lst ds) := by
  obtain ⟨a, b, c⟩ := eq_all h
  exact ⟨a, by simpa only [py, PyData.canLay0] using b, by simp only [py, PyData.depth]; omega⟩
theorem EqN.tup {e : Nat} {ds : List D} (h : ∀ d ∈ ds, EqN e d) : EqN (e + 1) (.tup ds) := by
  obtain ⟨a, b, c⟩ := eq_all h
  exact ⟨a, by simpa only [py, PyData.canLay0] using b, by simp only [py, PyData.depth]; omega⟩
theorem eqv_nil (ds : List D) : eqvD (.lst ds) (.lst []) = ds.isEmpty := by
  cases ds with
  | nil => rfl
  | cons d ds => rfl
theorem set_snoc (cs : Cs) (x y : D) : (cs ++ [x]).set cs.length y = cs ++ [y] := by
  rw [List.set_append_right _ _ (Nat.le_refl _), Nat.sub_self]
  rfl
theorem take_snoc (cs : Cs) (x : D) : (cs ++ [x]).take cs.length = cs := List.take_left
/-! items by place -/
theorem ixN_nat {n i : Nat} (h : i < n) : ixN n (i : Int) = some i := by
  unfold ixN
  rw [if_pos (by omega), if_pos (by omega), Int.toNat_natCast]
theorem at_nat {α : Type} {xs : List α} {i : Nat} {x : α} (h : xs[i]? = some x) : atI xs (i : Int) = some x := by
  unfold atI
  rw [ixN_nat (List.getElem?_eq_some_iff.mp h).1]
  exact h
theorem at_int {α : Type} {xs : List α} {j : Int} {x : α} (h0 : 0 ≤ j) (h : xs[j.toNat]? = some x) : atI xs j = some x := by
  have := at_nat h
  rwa [Int.toNat_of_nonneg h0] at this
theorem at0 {α : Type} {a : α} {l : List α} : atI (a :: l) 0 = some a := at_nat (i := 0) rfl
theorem at1 {α : Type} {a b : α} {l : List α} : atI (a :: b :: l) 1 = some b := at_nat (i := 1) rfl
theorem at2 {α : Type} {a b c : α} {l : List α} : atI (a :: b :: c :: l) 2 = some c := at_nat (i := 2) rfl
theorem at3 {α : Type} {a b c d : α} {l : List α} : atI (a :: b :: c :: d :: l) 3 = some d := at_nat (i := 3) rfl
theorem at4 {α : Type} {a b c d e : α} {l : List α} : atI (a :: b :: c :: d :: e :: l) 4 = some e := at_nat (i := 4) rfl
theorem at5 {α : Type} {a b c d e f : α} {l : List α} : atI (a :: b :: c :: d :: e :: f :: l) 5 = some f := at_nat (i := 5) rfl
theorem at_last {α : Type} {a : α} {l : List α} : atI (l ++ [a]) (-1) = some a := by
  unfold atI ixN
  rw [if_neg (by decide), if_pos (by simp only [List.length_append, List.length_cons, List.length_nil]; omega)]
  have e : (-1 + ((l ++ [a]).length : Nat) : Int).toNat = l.length := by
    simp only [List.length_append, List.length_cons, List.length_nil]
    omega
  rw [e]
  show (l ++ [a])[l.length]? = some a
  rw [List.getElem?_append_right (Nat.le_refl _), Nat.sub_self]
  rfl
theorem ix0 {n : Nat} : ixN (n + 1) 0 = some 0 := ixN_nat (i := 0) (by omega)
theorem ix1 {n : Nat} : ixN (n + 1 + 1) 1 = some 1 := ixN_nat (i := 1) (by omega)
theorem ix2 {n : Nat} : ixN (n + 1 + 1 + 1) 2 = some 2 := ixN_nat (i := 2) (by omega)
/-! kinds -/
def isInt : D → Bool
  | .int _ => true
  | _ => false
def isTup : D → Bool
  | .tup _ => true
  | _ => false
theorem kit_dec (a : String) (h : a ∈ ["NoneType", "bool", "int", "str", "tuple", "list"]) : kitB a "int" = some (a == "int" || a == "bool") ∧ kitB a "bool" = some (a == "bool") ∧ kitB a "tuple" = some (a == "tuple") := by
  have all : (["NoneType", "bool", "int", "str", "tuple", "list"].all fun a => decide (kitB a "int" = some (a == "int" || a == "bool")) && decide (kitB a "bool" = some (a == "bool")) && decide (kitB a "tuple" = some (a == "tuple"))) = true := by decide +kernel
  have := List.all_eq_true.mp all a h
  simp only [Bool.and_eq_true, decide_eq_true_eq] at this
  exact ⟨this.1.1, this.1.2, this.2⟩
theorem ty_in {x : D} (h : pyOk x = true) : tyD x ∈ ["NoneType", "bool", "int", "str", "tuple", "list"] := by
  cases x <;> first | (exact Bool.noConfusion h) | (simp [tyD])
theorem kit_int {x : D} (h : pyOk x = true) : kitB (tyD x) "int" = some (isInt x || (tyD x == "bool")) := by
  rw [(kit_dec _ (ty_in h)).1]
  cases x <;> rfl
theorem kit_bool {x : D} (h : pyOk x = true) : kitB (tyD x) "bool" = some (tyD x == "bool") := (kit_dec _ (ty_in h)).2.1
theorem kit_tup {x : D} (h : pyOk x = true) : kitB (tyD x) "tuple" = some (isTup x) := by
  rw [(kit_dec _ (ty_in h)).2.2]
  cases x <;> rfl
theorem pyOk_mem : ∀ {ds : List D}, pyOkL ds = true → ∀ d ∈ ds, pyOk d = true
  | [], _, d, h => by simp at h
  | x :: ds, o, d, h => by
    have o' : (pyOk x && pyOkL ds) = true := o
    rw [Bool.and_eq_true] at o'
    rcases List.mem_cons.mp h with e | e
    · rw [e]; exact o'.1
    · exact pyOk_mem o'.2 d e
theorem pyOk_of_mem : ∀ {ds : List D}, (∀ d ∈ ds, pyOk d = true) → pyOkL ds = true
  | [], _ => rfl
  | x :: ds, o => by
    show (pyOk x && pyOkL ds) = true
    rw [o x List.mem_cons_self, pyOk_of_mem fun d h => o d (List.mem_cons_of_mem _ h)]
    rfl
theorem map_bls (f : D → D) (g : D → Bool) (ds : List D) (h : ∀ d ∈ ds, f d = .bl (g d)) : ds.map f = (ds.map g).map D.bl := by
  rw [List.map_map]
  exact List.map_congr_left fun d hd => h d hd
theorem finZ_self (q : Z → Cs → Prop) (x : D) (cs : Cs) : FinZ cs.length q (.d x) cs = q (.d x) cs := by rw [finZ_d, List.take_length]
theorem finZ_old {n m : Nat} {q : Z → Cs → Prop} {cs : Cs} (h : m < n) (p : q (.c m) (cs.take n)) : FinZ n q (.c m) cs := .inl ⟨h, p⟩
theorem finZ_new {n m : Nat} {q : Z → Cs → Prop} {cs : Cs} {x : D} (h : n ≤ m) (e : cs[m]? = some x) (p : q (.c n) (cs.take n ++ [x])) : FinZ n q (.c m) cs := .inr ⟨h, by rw [e]; exact .inr p⟩
theorem finZ_froz {n m : Nat} {q : Z → Cs → Prop} {cs : Cs} {x : D} (h : n ≤ m) (e : cs[m]? = some x) (p : q (.d x) (cs.take n)) : FinZ n q (.c m) cs := .inr ⟨h, by rw [e]; exact .inl p⟩
theorem get_snoc (cs : Cs) (x : D) : (cs ++ [x])[cs.length]? = some x := by
  rw [List.getElem?_append_right (Nat.le_refl _), Nat.sub_self]
  rfl
theorem fz (n : Nat) (q : Z → Cs → Prop) (x : D) (cs : Cs) (h : cs.length = n) : q (.d x) cs → FinZ n q (.d x) cs := fun p => by
  subst h
  rw [finZ_d, List.take_length]
  exact p
end DL
set_option Elab.async false
set_option linter.all false
set_option maxRecDepth 100000
set_option maxHeartbeats 2000000
set_option autoImplicit false
/-! DLM: the operators, one row for each kind of arguments -/
namespace DL
open PySem PySem.Spec PyProof.Rows L2
section
variable {cs : Cs} {k : D → Prop} {kl : List D → Prop}
theorem e_wd (x : D) : withD cs (.d x) k = k x := nd rfl
theorem e_wc0 (x : D) (cs : Cs) : withD (x :: cs) (.c 0) k = k x := nd rfl
theorem e_wcs (x : D) (cs : Cs) (n : Nat) : withD (x :: cs) (.c (n + 1)) k = withD cs (.c n) k := nd rfl
theorem e_wsn (x : D) (cs : Cs) : withD (cs ++ [x]) (.c cs.length) k = k x := by
  unfold withD
  simp only [get_snoc]
theorem e_wc1 (x y : D) (cs : Cs) : withD (x :: y :: cs) (.c 1) k = k y := nd rfl
theorem e_wc2 (x y z : D) (cs : Cs) : withD (x :: y :: z :: cs) (.c 2) k = k z := nd rfl
theorem e_wl0 : withL cs [] kl = kl [] := nd rfl
theorem e_wl1 (z : Z) (zs : List Z) : withL cs (z :: zs) kl = withD cs z fun x => withL cs zs fun xs => kl (x :: xs) := nd rfl
theorem e_dl0 : datL [] kl = kl [] := nd rfl
theorem e_dl1 (x : D) (zs : List Z) : datL (.d x :: zs) kl = datL zs fun xs => kl (x :: xs) := nd rfl
theorem e_sl (ds : List D) (K : List D → (Cs → Prop) → Prop) : seqD cs (.d (.lst ds)) K = K ds yes := nd rfl
theorem e_st (ds : List D) (K : List D → (Cs → Prop) → Prop) : seqD cs (.d (.tup ds)) K = K ds yes := nd rfl
theorem e_ss (ns : List Int) (K : List D → (Cs → Prop) → Prop) : seqD cs (.d (.scr ns)) K = K (ns.map D.int) yes := nd rfl
theorem e_addi (i j : Int) : addD (.int i) (.int j) k = k (.int (i + j)) := nd rfl
theorem e_adds (a b : Str) : addD (.str a) (.str b) k = (a.length + b.length ≤ sizeLine ∧ k (.str (a ++ b))) := nd rfl
theorem e_addt (a b : List D) : addD (.tup a) (.tup b) k = (a.length + b.length ≤ LIM ∧ k (.tup (a ++ b))) := nd rfl
theorem e_addl (a b : List D) : addD (.lst a) (.lst b) k = (a.length + b.length ≤ LIM ∧ k (.lst (a ++ b))) := nd rfl
theorem e_sub (i j : Int) : subD (.int i) (.int j) k = k (.int (i - j)) := nd rfl
theorem e_muli (i j : Int) : mulD (.int i) (.int j) k = ((Sm i ∧ Sm j) ∧ k (.int (i * j))) := nd rfl
theorem e_mult (a : List D) (n : Int) : mulD (.tup a) (.int n) k = ((a ≠ [] ∧ 2 ≤ n ∧ n ≤ 1000 ∧ a.length ≤ 1000) ∧ k (.tup (List.replicate n.toNat a).flatten)) := nd rfl
theorem e_mull (a : List D) (n : Int) : mulD (.lst a) (.int n) k = ((0 ≤ n ∧ n ≤ 100000 ∧ a.length ≤ 1000 ∧ a.length * n.toNat ≤ LIM) ∧ k (.lst (List.replicate n.toNat a).flatten)) := nd rfl
theorem e_fdiv (i j : Int) : fdivD (.int i) (.int j) k = (Dv j ∧ k (.int (i / j))) := nd rfl
theorem e_mod (i j : Int) : modD (.int i) (.int j) k = (0 < j ∧ k (.int (i % j))) := nd rfl
theorem e_pow (i j : Int) : powD (.int i) (.int j) k = ((0 ≤ j ∧ j ≤ 1000 ∧ Sm i) ∧ k (.int (i ^ j.toNat))) := nd rfl
theorem e_neg (i : Int) : negD (.int i) k = k (.int (-i)) := nd rfl
theorem e_lt (i j : Int) : ltD (.int i) (.int j) k = k (.bl (decide (i < j))) := nd rfl
theorem e_le (i j : Int) : leD (.int i) (.int j) k = k (.bl (decide (i ≤ j))) := nd rfl
theorem e_gt (i j : Int) : gtD (.int i) (.int j) k = k (.bl (decide (j < i))) := nd rfl
theorem e_ge (i j : Int) : geD (.int i) (.int j) k = k (.bl (decide (j ≤ i))) := nd rfl
theorem e_eqi (i j : Int) : eqUD (.int i) (.int j) k = k (.bl (decide (i = j))) := nd rfl
theorem e_eqs (i j : Str) : eqUD (.str i) (.str j) k = k (.bl (decide (i = j))) := nd rfl
theorem e_eql (a : List D) (y : D) : eqUD (.lst a) y k = ((EqOk (.lst a) ∧ EqOk y) ∧ k (.bl (eqvD (.lst a) y))) := nd rfl
theorem e_eqt (a : List D) (y : D) : eqUD (.tup a) y k = ((EqOk (.tup a) ∧ EqOk y) ∧ k (.bl (eqvD (.tup a) y))) := nd rfl
theorem e_eqb (a : Bool) (y : D) : eqUD (.bl a) y k = ((EqOk (.bl a) ∧ EqOk y) ∧ k (.bl (eqvD (.bl a) y))) := nd rfl
theorem e_eqn (y : D) : eqUD .non y k = ((EqOk .non ∧ EqOk y) ∧ k (.bl (eqvD .non y))) := nd rfl
theorem e_nei (i j : Int) : neUD (.int i) (.int j) k = k (.bl (!decide (i = j))) := nd rfl
theorem e_nes (i j : Str) : neUD (.str i) (.str j) k = k (.bl (!decide (i = j))) := nd rfl
theorem e_nel (a : List D) (y : D) : neUD (.lst a) y k = ((EqOk (.lst a) ∧ EqOk y) ∧ k (.bl (!eqvD (.lst a) y))) := nd rfl
theorem e_net (a : List D) (y : D) : neUD (.tup a) y k = ((EqOk (.tup a) ∧ EqOk y) ∧ k (.bl (!eqvD (.tup a) y))) := nd rfl
theorem e_neb (a : Bool) (y : D) : neUD (.bl a) y k = ((EqOk (.bl a) ∧ EqOk y) ∧ k (.bl (!eqvD (.bl a) y))) := nd rfl
theorem e_nen (y : D) : neUD .non y k = ((EqOk .non ∧ EqOk y) ∧ k (.bl (!eqvD .non y))) := nd rfl
theorem e_isb (a b : Bool) : isD (.bl a) (.bl b) k = k (.bl (decide (a = b))) := nd rfl
theorem e_isn (x : D) : isD x .non k = k (.bl (isNonD x)) := by cases x <;> rfl
theorem e_inb (a b : Bool) : isNotD (.bl a) (.bl b) k = k (.bl (!decide (a = b))) := nd rfl
theorem e_inn (x : D) : isNotD x .non k = k (.bl (!isNonD x)) := by cases x <;> rfl
theorem e_in1 : isNonD .non = true := nd rfl
theorem e_in2 (i : Int) : isNonD (.int i) = false := nd rfl
theorem e_in3 (i : List D) : isNonD (.tup i) = false := nd rfl
theorem e_in4 (i : List D) : isNonD (.lst i) = false := nd rfl
theorem e_in5 (i : Bool) : isNonD (.bl i) = false := nd rfl
theorem e_ixt (ds : List D) (i : Int) : ixD (.tup ds) (.int i) k = atD ds i k := nd rfl
theorem e_ixl (ds : List D) (i : Int) : ixD (.lst ds) (.int i) k = atD ds i k := nd rfl
theorem e_ixs (ns : List Int) (i : Int) : ixD (.scr ns) (.int i) k = ∃ n, atI ns i = some n ∧ k (.int n) := nd rfl
theorem e_at {ds : List D} {i : Int} {d : D} (h : atI ds i = some d) : atD ds i k = k d := by
  unfold atD
  rw [h]
theorem e_at0 (a : D) (l : List D) : atD (a :: l) 0 k = k a := e_at at0
theorem e_at1 (a b : D) (l : List D) : atD (a :: b :: l) 1 k = k b := e_at at1
theorem e_at2 (a b c : D) (l : List D) : atD (a :: b :: c :: l) 2 k = k c := e_at at2
theorem e_at3 (a b c d : D) (l : List D) : atD (a :: b :: c :: d :: l) 3 k = k d := e_at at3
theorem e_at4 (a b c d e : D) (l : List D) : atD (a :: b :: c :: d :: e :: l) 4 k = k e := e_at at4
theorem e_at5 (a b c d e f : D) (l : List D) : atD (a :: b :: c :: d :: e :: f :: l) 5 k = k f := e_at at5
theorem e_atl (a : D) (l : List D) : atD (l ++ [a]) (-1) k = k a := e_at at_last
theorem e_keyi (i : Int) (kk : Key → Prop) : keyD (.int i) kk = kk (.inl i) := nd rfl
theorem e_keys (i : Str) (kk : Key → Prop) : keyD (.str i) kk = kk (.inr i) := nd rfl
theorem e_lenl (ds : List D) : lenD [.lst ds] k = k (.int ds.length) := nd rfl
theorem e_lent (ds : List D) : lenD [.tup ds] k = k (.int ds.length) := nd rfl
theorem e_lens (ns : List Int) : lenD [.scr ns] k = k (.int ns.length) := nd rfl
theorem e_lend (kvs : List (Key × D)) : lenD [.dic kvs] k = k (.int kvs.length) := nd rfl
theorem e_maxi (i j : Int) : maxD [.int i, .int j] k = k (.int (max i j)) := nd rfl
theorem e_mini (i j : Int) : minD [.int i, .int j] k = k (.int (min i j)) := nd rfl
theorem e_maxl (ds : List D) : maxD [.lst ds] k = ∃ ns : List Int, ds = ns.map D.int ∧ 0 < ns.length ∧ ∀ m, m ∈ ns → (∀ y, y ∈ ns → y ≤ m) → k (.int m) := nd rfl
theorem e_minl (ds : List D) : minD [.lst ds] k = ∃ ns : List Int, ds = ns.map D.int ∧ 0 < ns.length ∧ ∀ m, m ∈ ns → (∀ y, y ∈ ns → m ≤ y) → k (.int m) := nd rfl
theorem e_sum (ds : List D) : sumD [.lst ds] k = ∃ ns : List Int, ds = ns.map D.int ∧ k (.int ns.sum) := nd rfl
theorem e_all (ds : List D) : allD [.lst ds] k = ∃ bs : List Bool, ds = bs.map D.bl ∧ k (.bl (bs.all id)) := nd rfl
theorem e_any (ds : List D) : anyD [.lst ds] k = ∃ bs : List Bool, ds = bs.map D.bl ∧ k (.bl (bs.any id)) := nd rfl
theorem e_inti (i : Int) : intD [.int i] k = k (.int i) := nd rfl
theorem e_intb (b : Bool) : intD [.bl b] k = k (.int (if b then 1 else 0)) := nd rfl
theorem e_abs (i : Int) : absD [.int i] k = k (.int (if i < 0 then -i else i)) := nd rfl
theorem e_tol (ds : List D) : tupOfD [.lst ds] k = k (.tup ds) := nd rfl
theorem e_tot (ds : List D) : tupOfD [.tup ds] k = k (.tup ds) := nd rfl
theorem e_tos (ns : List Int) : tupOfD [.scr ns] k = k (.tup (ns.map D.int)) := nd rfl
theorem e_lol (ds : List D) : lstOfD [.lst ds] k = k (.lst ds) := nd rfl
theorem e_lot (ds : List D) : lstOfD [.tup ds] k = k (.lst ds) := nd rfl
theorem e_los (ns : List Int) : lstOfD [.scr ns] k = k (.lst (ns.map D.int)) := nd rfl
theorem e_sll (ds : List D) (lo hi : Option Int) : sliceD (.lst ds) lo hi k = k (.lst (cutG ds lo hi)) := nd rfl
theorem e_slt (ds : List D) (lo hi : Option Int) : sliceD (.tup ds) lo hi k = k (.tup (cutG ds lo hi)) := nd rfl
theorem e_rvl (ds : List D) : revD (.lst ds) k = k (.lst ds.reverse) := nd rfl
theorem e_rvt (ds : List D) : revD (.tup ds) k = k (.tup ds.reverse) := nd rfl
theorem e_repr (x : D) : reprD [x] k = (RpOk x ∧ k (.str (py x).shown)) := nd rfl
theorem e_isi (n : String) (x : D) : isiN n [x, .ty n] k = ∃ b, kitB (tyD x) n = some b ∧ k (.bl b) := by
  show (n = n ∧ _) = _
  rw [eq_self_iff_true, true_and]
end
/-- what follows an if, named once -/
def dLock (b : DS) : DS := b
section
variable {X : Cx} {pos : Pos}
/-- the block's readings are found once, at one block -/
theorem q_lcH {elt tg iter : Expr} {ifs : List Expr} {scope : Scope} {own : List (Str × Nat)} {fin : (Z → Cs → Prop) → List D → Cs → Prop} {wi : TI} {g : TG} {tt : TT} {te : TE} {it : DI} {dg : DG} {dt : DT} {de : DE} {is : List Nat} (hf : FinOk X.K fin) (hN : X.N.Nodup) (hi : QI X tg iter wi it) (ok : BlkOk X.N X.env.scope scope own) (s0 : Shared)
    (g0 : QG (X.blk s0 (fun _ => none) scope (compEnvC scope [] 0 X.env) []) tg g dg is) (t0 : QTs (X.blk s0 (fun _ => none) scope (compEnvC scope [] 0 X.env) []) ifs tt dt) (e0 : QE (X.blk s0 (fun _ => none) scope (compEnvC scope [] 0 X.env) []) elt te de)
    (hg : ∀ (s : Shared) (H : Hp) (C : Addr) (cl : List (Str × Addr)) (fp : List Addr), QG (X.blk s H scope (compEnvC scope cl C X.env) fp) tg g dg is) (ht : ∀ (s : Shared) (H : Hp) (C : Addr) (cl : List (Str × Addr)) (fp : List Addr), QTs (X.blk s H scope (compEnvC scope cl C X.env) fp) ifs tt dt)
    (he : ∀ (s : Shared) (H : Hp) (C : Addr) (cl : List (Str × Addr)) (fp : List Addr), QE (X.blk s H scope (compEnvC scope cl C X.env) fp) elt te de) (hw : ∀ i ∈ is, i ∈ own.map (·.2)) (hc : X.calm = true := by rfl) (hs : ∀ x, foldedSetIterable iter X.env x = pure x := by intro _; rfl) :
    QE X (.ListComp elt [⟨tg, iter, ifs, 0⟩] scope pos) (tLc wi g tt te (own.map (·.2))) (dLcG fin it dg dt de (own.map (·.2))) := q_lcG hf hN hi ok hg ht he s0 hw hc hs
theorem qs_setLcH (i : Nat) {y : Str} {py : Pos} {elt tg iter : Expr} {ifs : List Expr} {scope : Scope} {own : List (Str × Nat)} {spos : Pos} {fin : (Z → Cs → Prop) → List D → Cs → Prop} {wi : TI} {g : TG} {tt : TT} {te : TE} {it : DI} {dg : DG} {dt : DT} {de : DE} {is : List Nat} (hf : FinOk X.K fin) (hN : X.N.Nodup) (hsw : swapsWith (.ListComp elt [⟨tg, iter, ifs, 0⟩] scope pos) (some (.Name y py)) spos.line X.env = pure true)
    (hi : QI X tg iter wi it) (ok : BlkOk X.N X.env.scope scope own) (s0 : Shared)
    (g0 : QG (X.blk s0 (fun _ => none) scope (compEnvC scope [] 0 X.env) []) tg g dg is) (t0 : QTs (X.blk s0 (fun _ => none) scope (compEnvC scope [] 0 X.env) []) ifs tt dt) (e0 : QE (X.blk s0 (fun _ => none) scope (compEnvC scope [] 0 X.env) []) elt te de)
    (hg : ∀ (s : Shared) (H : Hp) (C : Addr) (cl : List (Str × Addr)) (fp : List Addr), QG (X.blk s H scope (compEnvC scope cl C X.env) fp) tg g dg is) (ht : ∀ (s : Shared) (H : Hp) (C : Addr) (cl : List (Str × Addr)) (fp : List Addr), QTs (X.blk s H scope (compEnvC scope cl C X.env) fp) ifs tt dt)
    (he : ∀ (s : Shared) (H : Hp) (C : Addr) (cl : List (Str × Addr)) (fp : List Addr), QE (X.blk s H scope (compEnvC scope cl C X.env) fp) elt te de) (hw : ∀ i ∈ is, i ∈ own.map (·.2)) (hy : X.N[i]? = some y := by rfl) (hyl : X.env.scope.names.lookup y = some .local := by rfl) (hc : X.calm = true := by rfl) (hs : ∀ x, foldedSetIterable iter X.env x = pure x := by intro _; rfl) :
    QS X (.Assign [.Name y py] (.ListComp elt [⟨tg, iter, ifs, 0⟩] scope pos) spos) (tAsg (tLc wi g tt te (own.map (·.2))) (gName i)) (dAsg (dLcG fin it dg dt de (own.map (·.2))) (dgName i)) := qs_setLc i hf hN hsw hi ok hg ht he s0 hw hy hyl hc hs
end
def r2D (z w : Z) (K : Int → Int → Prop) : Prop := ∃ i j, z = .d (.int i) ∧ w = .d (.int j) ∧ K i j
theorem e_r2 (a b : Int) (K : Int → Int → Prop) : r2D (.d (.int a)) (.d (.int b)) K = K a b := by
  refine propext ⟨fun ⟨i, j, h1, h2, h⟩ => ?_, fun h => ⟨a, b, rfl, rfl, h⟩⟩
  cases h1
  cases h2
  exact h
theorem e_diR2 {a b : DE} {en : En} {cs : Cs} {k : List D → (Cs → Prop) → Cs → Prop} : diR2 a b en cs k = a en cs fun z cs1 => b en cs1 fun w cs2 => r2D z w fun i j => (Rg i ∧ Rg j) ∧ k (rgD i (j - i).toNat) yes cs2 := nd rfl
theorem e_dif {A B : DS} {c : DT} {D0 : DEnds} {en : En} {cs : Cs} : dIfS c A B D0 en cs = c en cs fun b cs1 => if b = true then A D0 en cs1 else B D0 en cs1 := nd rfl
end DL
set_option Elab.async false
set_option linter.all false
set_option maxRecDepth 100000
set_option maxHeartbeats 2000000
set_option autoImplicit false
/-! DLN: lists that an operator lays and that will change -/
namespace DL
open PySem PySem.Spec PyProof.Rows L2
def OpC (K : PySem.W.Frag) (r : R2) (f : D → D → (List D → Prop) → Prop) : Prop :=
  ∀ (S H : Hp) (as : List Addr) (cs : Cs) (dx dy : D) (x y : V) (k : List D → Prop) (Q : VK), Rep K S H as cs → Sh K S H dx x → Sh K S H dy y → f dx dy k →
    (∀ (ds : List D) (vs : List V) (l : Addr), H l = none → IsL K S ds vs → k ds → Q (.ref l) (upd H l (.lst vs))) → r x y H Q
def dOpC (f : D → D → (List D → Prop) → Prop) (a b : DE) : DE := fun en cs k => a en cs fun x cs1 => b en cs1 fun y cs2 => withD cs2 x fun dx => withD cs2 y fun dy => f dx dy fun ds => k (.c cs2.length) (cs2 ++ [.lst ds])
section
variable {X : Cx} {pos : Pos}
theorem Rep.fresh {K : PySem.W.Frag} {S H : Hp} {as : List Addr} {cs : Cs} {k : Z → Cs → Prop} {Q : VK} (r : Rep K S H as cs) (p : PQ K S as k Q) {ds : List D} {vs : List V} {l : Addr} (hl : H l = none) (is : IsL K S ds vs) (h : k (.c cs.length) (cs ++ [.lst ds])) : Q (.ref l) (upd H l (.lst vs)) :=
  p (.c cs.length) (.ref l) S _ (as ++ [l]) _ ⟨Sub.refl _, [l], rfl⟩ (r.cell hl (c := .lst ds) ⟨r.sub.free hl, vs, upd_same, is⟩) ⟨l, r.get_new l, rfl⟩ h
theorem sem_opC {K : PySem.W.Frag} {r : R2} {f : D → D → (List D → Prop) → Prop} {ta tb : TE} {da db : DE} (h : OpC K r f) (ha : SemE K ta da) (hb : SemE K tb db) : SemE K (tOp r ta tb) (dOpC f da db) := by
  intro σ H S as en cs k Q rp e q p
  refine ha.use rp e q fun z v S1 H1 as1 cs1 e1 r1 v1 q1 => ?_
  refine hb.use r1 (e.mono e1) q1 fun z2 v2 S2 H2 as2 cs2 e2 r2 w2 q2 => ?_
  obtain ⟨dx, l1, q2⟩ := withD_look q2
  obtain ⟨dy, l2, q2⟩ := withD_look q2
  exact h S2 H2 as2 cs2 dx dy v v2 _ Q r2 (look_sh r2 (v1.mono e2) l1) (look_sh r2 w2 l2) q2 fun ds vs l hl is hk => r2.fresh (p.mono (e1.trans e2)) hl is hk
theorem q_opC {op : Operator} {r : R2} {f : D → D → (List D → Prop) → Prop} {a b : Expr} {ta tb : TE} {da db : DE} (ho : OpR X (binaryOp op) r) (h : OpC X.K r f) (ha : QE X a ta da) (hb : QE X b tb db) : QE X (.BinOp a op b pos) (tOp r ta tb) (dOpC f da db) :=
  ⟨pe_op ho ha.pe hb.pe, sem_opC h ha.sem hb.sem⟩
def addC : D → D → (List D → Prop) → Prop
  | .lst a, .lst b, k => a.length + b.length ≤ LIM ∧ k (a ++ b)
  | _, _, _ => False
def mulC : D → D → (List D → Prop) → Prop
  | .lst a, .int n, k => (0 ≤ n ∧ n ≤ 100000 ∧ a.length ≤ 1000 ∧ a.length * n.toNat ≤ LIM) ∧ k (List.replicate n.toNat a).flatten
  | _, _, _ => False
theorem e_addC (a b : List D) (k : List D → Prop) : addC (.lst a) (.lst b) k = (a.length + b.length ≤ LIM ∧ k (a ++ b)) := nd rfl
theorem e_mulC (a : List D) (n : Int) (k : List D → Prop) : mulC (.lst a) (.int n) k = ((0 ≤ n ∧ n ≤ 100000 ∧ a.length ≤ 1000 ∧ a.length * n.toNat ≤ LIM) ∧ k (List.replicate n.toNat a).flatten) := nd rfl
theorem oc_add {K : PySem.W.Frag} : OpC K (rAddU K) addC := by
  intro S H as cs dx dy x y k Q r hx hy h q
  unfold addC at h
  split at h
  · obtain ⟨a, vs, rfl, hs, is⟩ := hx
    obtain ⟨b, us, rfl, ht, it⟩ := hy
    obtain ⟨hz, hk⟩ := h
    exact .inr (.inr (.inr ⟨a, b, vs, us, rfl, rfl, hs, ht, by rw [is.len, it.len]; exact size_of hz, fun p hp => q _ _ p hp (is.append it) hk⟩))
  · exact h.elim
theorem oc_mul {K : PySem.W.Frag} : OpC K (rMulU K) mulC := by
  intro S H as cs dx dy x y k Q r hx hy h q
  unfold mulC at h
  split at h
  · rename_i l n
    obtain ⟨a, vs, rfl, hs, is⟩ := hx
    obtain ⟨⟨h1, h2, h3, h4⟩, hk⟩ := h
    exact .inr (.inr ⟨a, _, vs, rfl, hy, hs, by omega, by omega, by rw [is.len]; exact size_of h4, fun p hp => q _ _ p hp (is.rep _) hk⟩)
  · exact h.elim
/-- xs[a:b], to be changed -/
def dSlC (a : DE) (lo hi : DO) : DE := fun en cs k => a en cs fun x cs1 => lo en cs1 fun l cs2 => hi en cs2 fun h cs3 => withD cs3 x fun dx => ∃ ds, dx = .lst ds ∧ k (.c cs3.length) (cs3 ++ [.lst (cutG ds l h)])
theorem q_sliceC {a : Expr} {lo hi : Option Expr} {ta : TE} {da : DE} {tl th : TO} {dl dh : DO} {p2 : Pos} (ha : QE X a ta da) (hl : QO X lo tl dl) (hh : QO X hi th dh) : QE X (.Subscript a (.Slice lo hi none p2) pos) (tSl (rSlU X.K) ta tl th) (dSlC da dl dh) := by
  refine ⟨pe_slice sl_U ha.pe hl.po hh.po, ?_⟩
  intro σ H S as en cs k Q rp e q p
  refine ha.sem.use rp e q fun z v S1 H1 as1 cs1 e1 r1 v1 q1 => ?_
  refine hl.sem σ H1 S1 as1 en cs1 _ _ r1 (e.mono e1) q1 fun l S2 H2 as2 cs2 e2 r2 q2 => ?_
  refine hh.sem σ H2 S2 as2 en cs2 _ _ r2 (e.mono (e1.trans e2)) q2 fun h S3 H3 as3 cs3 e3 r3 q3 => ?_
  obtain ⟨dx, l1, q3⟩ := withD_look q3
  have hx := look_sh r3 (v1.mono (e2.trans e3)) l1
  obtain ⟨ds, rfl, q3⟩ := q3
  obtain ⟨ad, vs, rfl, hs, is⟩ := hx
  exact .inl ⟨ad, vs, rfl, SqL.of hs, fun b hb => r3.fresh (p.mono ((e1.trans e2).trans e3)) hb (is.cut l h) q3⟩
/-- list(x), to be changed -/
def lstOfC : D → (List D → Prop) → Prop
  | .lst ds, k => k ds
  | .tup ds, k => k ds
  | .scr ns, k => k (ns.map D.int)
  | _, _ => False
theorem e_loCl (ds : List D) (k : List D → Prop) : lstOfC (.lst ds) k = k ds := nd rfl
theorem e_loCt (ds : List D) (k : List D → Prop) : lstOfC (.tup ds) k = k ds := nd rfl
theorem e_loCs (ns : List Int) (k : List D → Prop) : lstOfC (.scr ns) k = k (ns.map D.int) := nd rfl
def dListC (a : DE) : DE := fun en cs k => a en cs fun x cs1 => withD cs1 x fun dx => lstOfC dx fun ds => k (.c cs1.length) (cs1 ++ [.lst ds])
theorem q_listC {x : Str} {p : Pos} {a : Expr} {ta : TE} {da : DE} (hc : CallR X (.type "list") (rLstOf X.K)) (hm : X.mg x = none) (hv : bootBuiltins x = some (.type "list")) (ha : QE X a ta da) (hg : Gl X x := by rfl) (hn : x ≠ "__name__" := by decide) (hdb : (x == ("__debug__" : Str)) = false := by decide)
    (he : starEach [a] X.env = (false, eval a X.env) :: starEach [] X.env := by rfl) (hpl : (backTo pos (starEach [] X.env)).any (·.1) = false := by rfl) : QE X (.Call (.Name x p) [a] [] pos) (tCB (rLstOf X.K) (tCons ta tNil)) (dListC da) := by
  refine ⟨pe_callTy hc hg hm hv (pa_cons ha.pe pa_nil he) hn hdb he hpl, ?_⟩
  intro σ H S as en cs k Q rp e q pq
  refine ha.sem.use rp e q fun z v S1 H1 as1 cs1 e1 r1 v1 q1 => ?_
  obtain ⟨dx, l1, q1⟩ := withD_look q1
  have hx := look_sh r1 v1 l1
  unfold lstOfC at q1
  split at q1
  · obtain ⟨ad, vs, rfl, hs, is⟩ := hx
    exact ⟨ad, vs, rfl, .inl (SqL.of hs), fun l hl => r1.fresh (pq.mono e1) hl is q1⟩
  · obtain ⟨ad, vs, rfl, hs, is⟩ := hx
    exact ⟨ad, vs, rfl, .inr (r1.sub.t hs), fun l hl => r1.fresh (pq.mono e1) hl is q1⟩
  · obtain ⟨ad, rfl, hs⟩ := hx
    exact ⟨ad, _, rfl, .inl (r1.sub.l hs), fun l hl => r1.fresh (pq.mono e1) hl (isL_ints _) q1⟩
  · exact q1.elim
end
end DL
set_option Elab.async false
set_option linter.all false
set_option maxRecDepth 100000
set_option maxHeartbeats 2000000
set_option autoImplicit false
/-! DLP: sorted of rows of ints (pairs, triples), of any number of them, in a list or a tuple -/
namespace DL
open PySem PySem.Spec PyProof.Rows L2
def key3 : List Int → Int × Int × Int
  | a :: b :: c :: _ => (a, b, c)
  | [a, b] => (a, b, 0)
  | [a] => (a, 0, 0)
  | [] => (0, 0, 0)
def lex3 (p q : Int × Int × Int) : Bool := decide (p.1 < q.1 ∨ (p.1 = q.1 ∧ (p.2.1 < q.2.1 ∨ (p.2.1 = q.2.1 ∧ p.2.2 < q.2.2))))
def lexL : List Int → List Int → Bool
  | x :: xs, y :: ys => if x = y then lexL xs ys else decide (x < y)
  | _, _ => false
theorem lex_eq : ∀ (ns ms : List Int), ns.length = ms.length → ns.length ≤ 3 → lexL ns ms = lex3 (key3 ns) (key3 ms)
  | [], [], _, _ => by simp [lexL, lex3, key3]
  | [a], [x], _, _ => by
    simp only [lexL, lex3, key3]
    by_cases h : a = x <;> simp [h]
  | [a, b], [x, y], _, _ => by
    simp only [lexL, lex3, key3]
    by_cases h : a = x
    · by_cases h2 : b = y <;> simp [h, h2]
    · simp [h]
  | [a, b, c], [x, y, z], _, _ => by
    simp only [lexL, lex3, key3]
    by_cases h : a = x
    · by_cases h2 : b = y
      · by_cases h3 : c = z <;> simp [h, h2, h3]
      · simp [h, h2]
    · simp [h]
  | _ :: _ :: _ :: _ :: _, _, _, h => by simp at h
def RowV : List Value → List Int → Prop
  | [], [] => True
  | v :: vs, n :: ns => (∃ t, v = .int n t) ∧ RowV vs ns
  | _, _ => False
theorem rowV_of : ∀ {ns : List Int} {us : List Value}, Vals (ns.map V.int) us → RowV us ns
  | [], _, .nil => trivial
  | n :: ns, _ :: _, .cons r t => by
    obtain ⟨tk, rfl⟩ := r
    exact ⟨⟨tk, rfl⟩, rowV_of t⟩
def rowOf (h : Heap) : Value → List Int
  | .ref a => match h.get? a with
    | some o => match o.data with
      | .seq xs _ => xs.toList.map fun v => match v with
        | .int i _ => i
        | _ => 0
      | _ => []
    | none => []
  | _ => []
def IsRow (h : Heap) (v : Value) (ns : List Int) : Prop := ∃ (a : Addr) (o : Obj) (us : List Value) (n : Nat), v = .ref a ∧ h.get? a = some o ∧ o.cls = .type "tuple" ∧ o.data = .seq us.toArray n ∧ RowV us ns
theorem IsRow.keeps {h h' : Heap} {v : Value} {ns : List Int} (p : IsRow h v ns) (k : ∀ b o, h.get? b = some o → o.cls = .type "tuple" → h'.get? b = some o) : IsRow h' v ns := by
  obtain ⟨a, o, us, n, e, ho, hc, hd, r⟩ := p
  exact ⟨a, o, us, n, e, k _ _ ho hc, hc, hd, r⟩
theorem rowV_back : ∀ {us : List Value} {ns : List Int}, RowV us ns → (us.map fun v => match v with
    | .int i _ => i
    | _ => 0) = ns
  | [], [], _ => rfl
  | [], _ :: _, h => h.elim
  | _ :: _, [], h => h.elim
  | v :: us, n :: ns, ⟨⟨t, e⟩, h⟩ => by
    subst e
    rw [List.map_cons, rowV_back h]
theorem IsRow.row {h : Heap} {v : Value} {ns : List Int} (p : IsRow h v ns) : rowOf h v = ns := by
  obtain ⟨a, o, us, n, rfl, ho, hc, hd, r⟩ := p
  unfold rowOf
  simp only [ho, hd]
  exact rowV_back r
section
variable {prog : Program} {w : World} {A : Around} {E : Value → Shared → Prop} {s : Shared}
theorem kat_rows {R : Bool} : ∀ (us us' : List Value) (ns ns' : List Int) (i : Nat), RowV us ns → RowV us' ns' → ns.length = ns'.length → R = lexL ns ns' →
    PySem.W.KatLex prog w A true false (fun r s' => s' = s ∧ r = R) (us.zip us') i s
  | [], [], [], [], _, _, _, _, e => PySem.W.kat_nil ⟨rfl, e.symm⟩
  | v :: us, v' :: us', x :: ns, x' :: ns', i, ⟨⟨t, e1⟩, h⟩, ⟨⟨t', e2⟩, h'⟩, l, e => by
    subst e1 e2
    rw [List.zip_cons_cons]
    refine PySem.W.kat_cons (SeqAt.EqAt.int_int x t x' t' prog w _ _ ?_)
    refine PySem.W.kat_go (fun q => ?_) (fun q => ?_)
    · have ex : x = x' := by simpa using q
      refine PySem.W.kat_yes (kat_rows us us' ns ns' (i + 1) h h' (by simpa using l) ?_)
      rw [e]
      simp only [lexL, ex, if_true]
    · have ex : ¬ x = x' := by simpa using q
      have e3 : R = decide (x < x') := by
        rw [e]
        simp only [lexL, ex, if_false]
      refine PySem.W.kat_no ?_
      cases i with
      | zero => exact oneLt_int ⟨rfl, e3.symm⟩
      | succ i => exact PySem.W.kat_one _ _ (PyProof.Rows.lt_int (Q := PySem.W.BoolBack _) ⟨rfl, e3.symm⟩)
  | [], _, _ :: _, _, _, h, _, _, _ => h.elim
  | _ :: _, _, [], _, _, h, _, _, _ => h.elim
  | _, [], _, _ :: _, _, _, h, _, _ => h.elim
  | _, _ :: _, _, [], _, _, h, _, _ => h.elim
abbrev ltR (k : Value → List Int) (v u : Value) : Bool := lex3 (key3 (k v)) (key3 (k u))
theorem lex3_no {p q : Int × Int × Int} : lex3 p q = false ↔ ¬ (p.1 < q.1 ∨ (p.1 = q.1 ∧ (p.2.1 < q.2.1 ∨ (p.2.1 = q.2.1 ∧ p.2.2 < q.2.2)))) := decide_eq_false_iff_not
theorem swoR (k : Value → List Int) : SrtO.Swo (ltR k) := by
  refine ⟨fun x y h => ?_, fun x y z h1 h2 => ?_⟩
  · have h' := of_decide_eq_true h
    refine lex3_no.mpr ?_
    omega
  · have a := lex3_no.mp h1
    have b := lex3_no.mp h2
    refine lex3_no.mpr ?_
    omega
theorem rows_cmp {vs : List Value} {k : Value → List Int} {d : Nat} (hd : d ≤ 3) (hp : ∀ v ∈ vs, IsRow s.heap v (k v) ∧ (k v).length = d) : SrtO.Cmp prog w A s (tuples' true) (fun p => p.1 ∈ vs) (SrtO.lt2 (ltR k)) := by
  intro p q hm hm'
  obtain ⟨h1, l1⟩ := hp _ hm
  obtain ⟨h2, l2⟩ := hp _ hm'
  show wpAny (model prog w) A (keyLt' (tuples' true) p.1 q.1) (fun r s' => s' = s ∧ r = lex3 (key3 (k p.1)) (key3 (k q.1))) (fun _ _ => False) s
  rw [← lex_eq _ _ (l1.trans l2.symm) (by omega)]
  obtain ⟨a, o, us, n, e, ho, hc, hdt, r⟩ := h1
  obtain ⟨a', o', us', n', e', ho', hc', hdt', r'⟩ := h2
  have lu : ∀ {us : List Value} {ns : List Int}, RowV us ns → us.length = ns.length := fun {us ns} => by
    induction us generalizing ns with
    | nil => cases ns with
      | nil => intro _; rfl
      | cons _ _ => intro h; exact h.elim
    | cons u us ih => cases ns with
      | nil => intro h; exact h.elim
      | cons n ns => intro h; rw [List.length_cons, List.length_cons, ih h.2]
  have e0 : keyLt' (tuples' true) p.1 q.1 = keyLt' (tuples' true) (.ref a) (.ref a') := by rw [e, e']
  rw [e0]
  refine PySem.W.kat_lt ho hdt ho' hdt' ?_
  have z : decide (us.toArray.size < us'.toArray.size) = false := by
    rw [List.size_toArray, List.size_toArray, lu r, lu r', l1, l2]
    exact decide_eq_false (Nat.lt_irrefl _)
  rw [z]
  exact kat_rows us us' _ _ 0 r r' (l1.trans l2.symm) rfl
theorem firstsR {h : Heap} {k : Value → List Int} {d : Nat} (hd : 1 ≤ d) : ∀ {vs : List Value}, (∀ v ∈ vs, IsRow h v (k v) ∧ (k v).length = d) → ∃ fs : List Value, PySem.W.KatTups h vs fs ∧ fs.length = vs.length ∧ ∀ f ∈ fs, ∃ x t, f = Value.int x t
  | [], _ => ⟨[], PySem.W.KatTups.nil, rfl, fun _ hm => by simp at hm⟩
  | v :: vs, hp => by
    obtain ⟨fs, h1, h2, h3⟩ := firstsR hd (vs := vs) fun v' hm => hp v' (List.mem_cons_of_mem _ hm)
    obtain ⟨⟨a, o, us, n, e, ho, hc, hdt, r⟩, l⟩ := hp v List.mem_cons_self
    subst e
    generalize k (.ref a) = ns at r l
    cases us with
    | nil => cases ns with
      | nil => simp only [List.length_nil] at l; omega
      | cons _ _ => exact r.elim
    | cons u us => cases ns with
      | nil => exact r.elim
      | cons m ns =>
        obtain ⟨⟨t, rfl⟩, r⟩ := r
        refine ⟨.int m t :: fs, PySem.W.KatTups.cons ho hc hdt rfl h1, by rw [List.length_cons, List.length_cons, h2], fun f hm => ?_⟩
        rcases List.mem_cons.mp hm with rfl | hm
        · exact ⟨m, t, rfl⟩
        · exact h3 f hm
theorem rows_sortable {a : Addr} {vs : List Value} {k : Value → List Int} {d : Nat} (h0 : 0 < vs.length) (hd1 : 1 ≤ d) (hd : d ≤ 3) (hp : ∀ v ∈ vs, IsRow s.heap v (k v) ∧ (k v).length = d) (ha : ∀ o, s.heap.get? a = some o → o.cls ≠ .type "tuple") : SrtO.SortableO prog w A s a vs (ltR k) := by
  intro h' keep
  have hp' : ∀ v ∈ vs, IsRow h' v (k v) ∧ (k v).length = d := fun v hm => ⟨(hp v hm).1.keeps fun b o e c => keep b o (fun z => by subst z; exact ha o e c) e, (hp v hm).2⟩
  obtain ⟨fs, h1, h2, h3⟩ := firstsR hd1 hp'
  refine ⟨tuples' true, fun Q E hq => ?_, rows_cmp hd hp'⟩
  refine PySem.W.kat_kind (T := .type "int") h1 (by omega) (fun f hm => ?_) (by rfl) ?_
  · obtain ⟨x, t, rfl⟩ := h3 f hm
    exact PySem.W.Looks.now
  · have e : (Value.type "int" != Value.type "tuple") = true := by first | decide +kernel | rfl | decide
    rw [e]
    exact hq
theorem collect_tup {l : Addr} {vs : List Value} {Q : List Value → Shared → Prop} (hl : IsTup s.heap l vs.toArray)
    (h : Q vs { s with heap := (s.heap.push (seqObj "list" #[] 0)).update s.heap.objs.size (Obj.mapSeq (· ++ vs.toArray)) }) (hsz : vs.length ≤ sizeLine) :
    wpAny (model prog w) A (collect (.ref l)) Q E s := by
  obtain ⟨o, ho, hc, n, hd⟩ := id hl
  unfold collect
  refine wpAny_bind (wpAny_runValue (codeAny_builtin entry_proto_collect' ?_))
  show wpAny _ _ (do again (.builtin "list.__iadd__" ⟨[← newList [], .ref l], []⟩)) _ _ s
  refine wpAny_bind (wpAny_newList (wpAny_pure ⟨Code.quiet_builtin _ (by decide +kernel), codeAny_builtin entry_list_iadd' ?_⟩))
  show wpAny _ _ (Builtin.List.listExtendWith (.ref s.heap.objs.size) (.ref l) (.ref s.heap.objs.size)) _ _ { s with heap := s.heap.push (seqObj "list" #[] 0) }
  unfold Builtin.List.listExtendWith
  have ho' : (s.heap.push (seqObj "list" #[] 0)).get? l = some o := Heap.get?_push_of_some _ ho
  refine wpAny_bind (wpAny_typeOf (T := "tuple") ⟨o, ho', hc⟩ ?_)
  have ht : (Value.type "tuple" == Value.type "tuple") = true := by rfl
  rw [if_pos (by rw [ht]; simp)]
  refine wpAny_bind (listItems_at ho' hd ?_)
  refine wpAny_bind (listItems_at (xs := #[]) (n := 0) (Heap.get?_push_size _ rfl) rfl ?_)
  rw [if_neg (by simp)]
  refine wpAny_bind (listUpdate_at (xs := #[]) (n := 0) (Heap.get?_push_size _ rfl) rfl ?_ (Nat.zero_le _) (by show (#[] ++ vs.toArray).size ≤ sizeLine + 1; simp only [Array.size_append, List.size_toArray, List.length_nil]; omega))
  refine wpAny_pure ?_
  show wpAny (model prog w) A (do
      let o ← load s.heap.objs.size
      match o.data with
      | .seq xs _ => pure xs.toList
      | _ => unsupported "internal:collect") Q E { s with heap := (s.heap.push (seqObj "list" #[] 0)).update s.heap.objs.size (Obj.mapSeq (· ++ vs.toArray)) }
  refine wpAny_bind (wpAny_load (get?_update_seq (Heap.get?_push_size _ rfl) _) ?_)
  show wpAny _ _ (pure ((#[] : Array Value) ++ vs.toArray).toList) Q E _
  rw [show ((#[] : Array Value) ++ vs.toArray).toList = vs by simp]
  exact wpAny_pure h
theorem sorted_tup {l : Addr} {vs : List Value} {ltv : Value → Value → Bool} {Q : Value → Shared → Prop} (O : SrtO.Swo ltv) (hl : IsTup s.heap l vs.toArray) (hz : vs.length ≤ sizeLine)
    (hS : 2 ≤ vs.length → ∀ (h₁ : Heap) (a : Addr), h₁.get? a = some (seqObj "list" vs.toArray 0) → (∀ b o, s.heap.get? b = some o → b ≠ a ∧ h₁.get? b = some o) → SrtO.SortableO prog w A.in1.in1 { s with heap := h₁ } a vs ltv)
    (h : ∀ out : List Value, SrtO.Srtd ltv out → SrtO.Stb ltv out vs → Q (.ref (s.heap.objs.size + 1)) { s with heap := sortedAll s.heap vs out.toArray }) :
    wpAny (model prog w) A (call (.builtin "sorted") [.ref l]) Q E s := by
  refine Calls.call_function_entry kind_sorted plain_sorted entry_sorted (args_sorted1 _) ?_
  unfold Builtin.«sorted»
  refine wpAny_bind (m := checkCount "sorted" 1 1 _) (wpAny_pure ?_)
  refine wpAny_bind (collect_tup hl ?_ hz)
  refine wpAny_bind (wpAny_newList ?_ hz)
  have hsz : ((s.heap.push (seqObj "list" #[] 0)).update s.heap.objs.size (Obj.mapSeq (· ++ vs.toArray))).objs.size = s.heap.objs.size + 1 := by
    rw [Heap.size_update, size_push']
  have hoL : (((s.heap.push (seqObj "list" #[] 0)).update s.heap.objs.size (Obj.mapSeq (· ++ vs.toArray))).push (seqObj "list" vs.toArray 0)).get? (s.heap.objs.size + 1) = some (seqObj "list" vs.toArray 0) := by
    rw [← hsz]; exact Heap.get?_push_size _ rfl
  have keep : ∀ b o, s.heap.get? b = some o → b ≠ s.heap.objs.size + 1 ∧ (((s.heap.push (seqObj "list" #[] 0)).update s.heap.objs.size (Obj.mapSeq (· ++ vs.toArray))).push (seqObj "list" vs.toArray 0)).get? b = some o := fun b o q => by
    have hlt : b < s.heap.objs.size := Heap.lt_size q
    refine ⟨Nat.ne_of_lt (Nat.lt_succ_of_lt hlt), Heap.get?_push_of_some _ ?_⟩
    rw [Heap.get?_update_ne _ _ _ _ (Nat.ne_of_lt hlt)]
    exact Heap.get?_push_of_some _ q
  show wpAny _ _ _ _ _ { s with heap := ((s.heap.push (seqObj "list" #[] 0)).update s.heap.objs.size (Obj.mapSeq (· ++ vs.toArray))).push (seqObj "list" vs.toArray 0) }
  rw [hsz]
  refine wpAny_bind (wpAny_holding (wpAny_call_entry slot_list_sort ⟨_, hoL, rfl⟩ entry_list_sort (SrtO.list_sort_ord O hoL hz (fun h2 => hS h2 _ _ hoL keep) fun out hs hb => ⟨_, rfl, ?_⟩) (args_list_sort _)))
  exact wpAny_pure ⟨_, rfl, h out hs hb⟩
theorem sorted_rows {l : Addr} {vs : List Value} {k : Value → List Int} {d : Nat} {Q : Value → Shared → Prop} (hl : s.heap.IsList l vs.toArray ∨ IsTup s.heap l vs.toArray) (hz : vs.length ≤ sizeLine) (hd1 : 1 ≤ d) (hd : d ≤ 3) (hp : ∀ v ∈ vs, IsRow s.heap v (k v) ∧ (k v).length = d)
    (h : ∀ (h' : Heap) (D : Addr) (out : List Value), SrtO.Srtd (ltR k) out → SrtO.Stb (ltR k) out vs → (∀ b o, s.heap.get? b = some o → h'.get? b = some o) → s.heap.objs.size ≤ D → (∃ n, h'.get? D = some (seqObj "list" out.toArray n)) → Q (.ref D) { s with heap := h' }) :
    wpAny (model prog w) A (call (.builtin "sorted") [.ref l]) Q E s := by
  have hS : 2 ≤ vs.length → ∀ (h₁ : Heap) (a : Addr), h₁.get? a = some (seqObj "list" vs.toArray 0) → (∀ b o, s.heap.get? b = some o → b ≠ a ∧ h₁.get? b = some o) → SrtO.SortableO prog w A.in1.in1 { s with heap := h₁ } a vs (ltR k) := fun h2 h₁ a ha kk => by
    refine rows_sortable (s := { s with heap := h₁ }) (by omega) hd1 hd (fun v hm => ⟨(hp v hm).1.keeps fun b o e _ => (kk b o e).2, (hp v hm).2⟩) fun o e => ?_
    have e' : some o = some (seqObj "list" vs.toArray 0) := e.symm.trans ha
    cases e'
    intro c
    exact absurd (Value.type.inj c) (by decide)
  have fin : ∀ out : List Value, SrtO.Srtd (ltR k) out → SrtO.Stb (ltR k) out vs → Q (.ref (s.heap.objs.size + 1)) { s with heap := sortedAll s.heap vs out.toArray } := fun out hs hb =>
    h _ _ out hs hb (fun b o e => sortedAll_old e) (Nat.le_succ _) (sortedAll_at s.heap vs out.toArray)
  rcases hl with hl | hl
  · exact SrtO.sorted_ord (swoR k) hl hz hS fin
  · exact sorted_tup (swoR k) hl hz hS fin
end
/-! ### the rule -/
def rSortedR (K : PySem.W.Frag) : List V → Hp → VK → Prop := fun vs H Q => ∃ (a : Addr) (xs : List V) (rows : List (List Int)) (d : Nat), vs = [V.ref a] ∧ (SqL K H a xs ∨ SqT K H a xs) ∧ (1 ≤ d ∧ d ≤ 3) ∧ Paired (fun (x : V) (r : List Int) => r.length = d ∧ ∃ t, x = V.ref t ∧ SqT K H t (r.map V.int)) xs rows ∧
  ∀ (out : List (V × List Int)) (p : Addr), out.Perm (xs.zip rows) → out.Pairwise (fun x y => lex3 (key3 y.2) (key3 x.2) = false) → H p = none → Q (.ref p) (upd H p (.lst (out.map (·.1))))
theorem isRow_of {X : Cx} {pins : List (Addr × Obj)} {σ : L2.St} {H : Hp} {s : Shared} (I : Inv X pins σ H s) {t : Addr} {r : List Int} (h : SqT X.K H t (r.map V.int)) : IsRow s.heap (.ref t) r := by
  obtain ⟨its, rv, ⟨o, ho, hc, n, hd⟩, _⟩ := I.tuple h
  exact ⟨t, o, its, n, rfl, ho, hc, hd, rowV_of rv⟩
theorem rows_back {X : Cx} {pins : List (Addr × Obj)} {σ : L2.St} {H : Hp} {s : Shared} {d : Nat} (I : Inv X pins σ H s) : ∀ {xs : List V} {rows : List (List Int)} {us : List Value}, Paired (fun (x : V) (r : List Int) => r.length = d ∧ ∃ t, x = V.ref t ∧ SqT X.K H t (r.map V.int)) xs rows → Vals xs us →
    xs.zip rows = us.map (fun u => (backV u, rowOf s.heap u)) ∧ ∀ u ∈ us, (∃ a, u = Value.ref a) ∧ IsRow s.heap u (rowOf s.heap u) ∧ (rowOf s.heap u).length = d
  | _, _, _, .nil, .nil => ⟨rfl, fun u hu => by simp at hu⟩
  | x :: xs, r :: rows, _ :: us, .cons p t, .cons v vs => by
    obtain ⟨l, a, rfl, hq⟩ := p
    cases v
    obtain ⟨e1, e2⟩ := rows_back I t vs
    have ir := isRow_of I hq
    refine ⟨?_, fun u hu => ?_⟩
    · rw [List.zip_cons_cons, e1, List.map_cons, ir.row]
      rfl
    · rcases List.mem_cons.mp hu with rfl | hu
      · exact ⟨⟨a, rfl⟩, by rw [ir.row]; exact ir, by rw [ir.row]; exact l⟩
      · exact e2 u hu
theorem cr_sortedR {X : Cx} : CallR X (.builtin "sorted") (rSortedR X.K) := by
  intro pins s σ H vs us Q I r h
  obtain ⟨a, xs, rows, d, rfl, hs, ⟨d1, d3⟩, hx, q⟩ := h
  have hseq : ∃ its, Vals xs its ∧ (s.heap.IsList a its.toArray ∨ IsTup s.heap a its.toArray) ∧ xs.length ≤ sizeLine := by
    rcases hs with hs | hs
    · obtain ⟨its, rv, hl, hz⟩ := I.list hs
      exact ⟨its, rv, .inl hl.isList, hz⟩
    · obtain ⟨its, rv, hl, hz⟩ := I.tuple hs
      exact ⟨its, rv, .inr hl, hz⟩
  obtain ⟨its, rv, hl, hz⟩ := hseq
  obtain ⟨u, rfl, ru⟩ := vals1 r
  obtain rfl : u = Value.ref a := ru
  obtain ⟨e1, e2⟩ := rows_back I hx rv
  refine sorted_rows (k := rowOf s.heap) hl (by rw [← rv.length]; exact hz) d1 d3 (fun v hv => (e2 v hv).2) fun h' D out h1 h2 kp hd hn => ?_
  have h3 : ∀ u ∈ out, ∃ a, u = Value.ref a := fun u hu => (e2 u (h2.perm.mem_iff.mp hu)).1
  obtain ⟨n, hn⟩ := hn
  have hp : (out.map fun u => (backV u, rowOf s.heap u)).Perm (xs.zip rows) := by
    rw [e1]
    exact h2.perm.map _
  have hw : (out.map fun u => (backV u, rowOf s.heap u)).Pairwise (fun x y => lex3 (key3 y.2) (key3 x.2) = false) := List.pairwise_map.mpr h1
  have e3 : (out.map fun u => (backV u, rowOf s.heap u)).map (·.1) = out.map backV := by
    rw [List.map_map]
    rfl
  have q' := q _ D hp hw (I.hok.fresh hd)
  rw [e3] at q'
  refine ⟨.ref D, upd H D (.lst (out.map backV)), I.laid (t' := s.toks) kp hd ⟨?_, out, n, vals_back h3, hn⟩, rfl, q'⟩
  rw [List.length_map, h2.perm.length_eq, ← rv.length]
  exact hz
def rowD (r : List Int) : D := .tup (r.map D.int)
def sortedRD : List D → (D → Prop) → Prop
  | [.lst ds], k => ∃ (rows : List (List Int)) (d : Nat), ds = rows.map rowD ∧ (1 ≤ d ∧ d ≤ 3 ∧ ∀ r ∈ rows, r.length = d) ∧ ∀ out : List (List Int), out.Perm rows → out.Pairwise (fun x y => lex3 (key3 y) (key3 x) = false) → k (.lst (out.map rowD))
  | [.tup ds], k => ∃ (rows : List (List Int)) (d : Nat), ds = rows.map rowD ∧ (1 ≤ d ∧ d ≤ 3 ∧ ∀ r ∈ rows, r.length = d) ∧ ∀ out : List (List Int), out.Perm rows → out.Pairwise (fun x y => lex3 (key3 y) (key3 x) = false) → k (.lst (out.map rowD))
  | _, _ => False
theorem rows_is {K : PySem.W.Frag} {S H : Hp} {d : Nat} (e : Sub S H) : ∀ {rows : List (List Int)} {vs : List V}, IsL K S (rows.map rowD) vs → (∀ r ∈ rows, r.length = d) →
    Paired (fun (x : V) (r : List Int) => r.length = d ∧ ∃ t, x = V.ref t ∧ SqT K H t (r.map V.int)) vs rows ∧ ∀ p ∈ vs.zip rows, Is K S (rowD p.2) p.1
  | [], vs, h, _ => by
    have h' : vs = [] := h
    subst h'
    exact ⟨.nil, fun p hp => by simp at hp⟩
  | r :: rows, vs, h, hd => by
    obtain ⟨v, us, rfl, h1, h2⟩ := h
    obtain ⟨i1, i2⟩ := rows_is e h2 fun r hr => hd r (List.mem_cons_of_mem _ hr)
    have h1' := h1
    obtain ⟨a, ws, rfl, hs, is⟩ := h1
    have e2 := IsL.ints is
    subst e2
    refine ⟨.cons ⟨hd r List.mem_cons_self, a, rfl, e.t hs⟩ i1, fun p hp => ?_⟩
    rw [List.zip_cons_cons] at hp
    rcases List.mem_cons.mp hp with rfl | hp
    · exact h1'
    · exact i2 p hp
theorem isL_out {K : PySem.W.Frag} {S : Hp} : ∀ {out : List (V × List Int)}, (∀ p ∈ out, Is K S (rowD p.2) p.1) → IsL K S ((out.map (·.2)).map rowD) (out.map (·.1))
  | [], _ => rfl
  | p :: out, h => ⟨p.1, out.map (·.1), rfl, h p List.mem_cons_self, isL_out fun q hq => h q (List.mem_cons_of_mem _ hq)⟩
theorem zip_snd : ∀ {xs : List V} {rows : List (List Int)}, xs.length = rows.length → (xs.zip rows).map (·.2) = rows
  | [], [], _ => rfl
  | x :: xs, r :: rows, h => by
    rw [List.zip_cons_cons, List.map_cons, zip_snd (by simpa using h)]
  | [], _ :: _, h => by simp at h
  | _ :: _, [], h => by simp at h
theorem c_sortedR {K : PySem.W.Frag} : Cl K (rSortedR K) sortedRD := by
  intro S H as cs ds vs k Q r hv h q
  have go : ∀ (a : Addr) (us : List V) (rows : List (List Int)) (d : Nat), (SqL K H a us ∨ SqT K H a us) → IsL K S (rows.map rowD) us → (1 ≤ d ∧ d ≤ 3 ∧ ∀ r ∈ rows, r.length = d) → (∀ out : List (List Int), out.Perm rows → out.Pairwise (fun x y => lex3 (key3 y) (key3 x) = false) → k (.lst (out.map rowD))) → rSortedR K [V.ref a] H Q := fun a us rows d hs is ⟨d1, d3, hd⟩ hk => by
    obtain ⟨i1, i2⟩ := rows_is r.sub is hd
    have hlen : us.length = rows.length := by
      have := is.len
      rw [List.length_map] at this
      exact this
    refine ⟨a, us, rows, d, rfl, hs, ⟨d1, d3⟩, i1, fun out p hp hw hpn => ?_⟩
    have iso := isL_out (K := K) (S := S) (out := out) fun z hz => i2 z (hp.mem_iff.mp hz)
    have hn := Sub.new (o := .lst (out.map (·.1))) (r.sub.free hpn)
    refine q (.lst _) _ _ _ hn (r.lay hpn _) ⟨p, _, rfl, upd_same, IsL.mono hn _ _ iso⟩ (hk _ ?_ (List.pairwise_map.mpr hw))
    have := hp.map (·.2)
    rwa [zip_snd hlen] at this
  unfold sortedRD at h
  split at h
  · obtain ⟨v, rfl, a, us, rfl, hs, is⟩ := shL_one hv
    obtain ⟨rows, d, rfl, hd, hk⟩ := h
    exact go a us rows d (.inl (SqL.of hs)) is hd hk
  · obtain ⟨v, rfl, a, us, rfl, hs, is⟩ := shL_one hv
    obtain ⟨rows, d, rfl, hd, hk⟩ := h
    exact go a us rows d (.inr (r.sub.t hs)) is hd hk
  · exact h.elim
theorem e_srtl (ds : List D) (k : D → Prop) : sortedRD [.lst ds] k = ∃ (rows : List (List Int)) (d : Nat), ds = rows.map rowD ∧ (1 ≤ d ∧ d ≤ 3 ∧ ∀ r ∈ rows, r.length = d) ∧ ∀ out : List (List Int), out.Perm rows → out.Pairwise (fun x y => lex3 (key3 y) (key3 x) = false) → k (.lst (out.map rowD)) := nd rfl
theorem e_srtt (ds : List D) (k : D → Prop) : sortedRD [.tup ds] k = ∃ (rows : List (List Int)) (d : Nat), ds = rows.map rowD ∧ (1 ≤ d ∧ d ≤ 3 ∧ ∀ r ∈ rows, r.length = d) ∧ ∀ out : List (List Int), out.Perm rows → out.Pairwise (fun x y => lex3 (key3 y) (key3 x) = false) → k (.lst (out.map rowD)) := nd rfl
end DL
set_option Elab.async false
set_option linter.all false
set_option maxRecDepth 100000
set_option maxHeartbeats 2000000
set_option autoImplicit false
/-! DLQ: instances of own classes: fields read and stored, made -/
namespace DL
open PySem PySem.Spec PyProof.Rows L2
/-! names and values of fields -/
def putN (f : Str) : List Str → List Str
  | [] => [f]
  | n :: ns => if n = f then n :: ns else n :: putN f ns
def putD {α : Type} (f : Str) (d : α) : List Str → List α → List α
  | [], _ => [d]
  | _ :: _, [] => []
  | n :: ns, x :: xs => if n = f then d :: xs else x :: putD f d ns xs
theorem putF_zip (f : Str) (v : V) : ∀ (ns : List Str) (vs : List V), ns.length = vs.length → putF f v (ns.zip vs) = (putN f ns).zip (putD f v ns vs)
  | [], [], _ => rfl
  | n :: ns, x :: vs, h => by
    rw [List.zip_cons_cons]
    show (if n = f then (n, v) :: ns.zip vs else (n, x) :: putF f v (ns.zip vs)) = _
    unfold putN putD
    by_cases e : n = f
    · rw [if_pos e, if_pos e, if_pos e, List.zip_cons_cons]
    · rw [if_neg e, if_neg e, if_neg e, List.zip_cons_cons, putF_zip f v ns vs (by simpa using h)]
  | [], _ :: _, h => by simp at h
  | _ :: _, [], h => by simp at h
theorem put_len {α : Type} (f : Str) (d : α) : ∀ (ns : List Str) (ds : List α), ns.length = ds.length → (putN f ns).length = (putD f d ns ds).length
  | [], [], _ => rfl
  | n :: ns, x :: ds, h => by
    unfold putN putD
    by_cases e : n = f
    · rw [if_pos e, if_pos e]
      simpa using h
    · rw [if_neg e, if_neg e, List.length_cons, List.length_cons, put_len f d ns ds (by simpa using h)]
  | [], _ :: _, h => by simp at h
  | _ :: _, [], h => by simp at h
theorem isL_put {K : PySem.W.Frag} {S : Hp} {d : D} {v : V} (hd : Is K S d v) (f : Str) : ∀ (ns : List Str) (ds : List D) (vs : List V), ns.length = ds.length → IsL K S ds vs → IsL K S (putD f d ns ds) (putD f v ns vs)
  | [], [], vs, _, h => by
    have h' : vs = [] := h
    subst h'
    exact ⟨v, [], rfl, hd, rfl⟩
  | n :: ns, x :: ds, vs, l, h => by
    obtain ⟨y, r, rfl, h1, h2⟩ := h
    unfold putD
    by_cases e : n = f
    · rw [if_pos e, if_pos e]
      exact ⟨v, r, rfl, hd, h2⟩
    · rw [if_neg e, if_neg e]
      exact ⟨y, _, rfl, h1, isL_put hd f ns ds r (by simpa using l) h2⟩
  | [], _ :: _, _, h, _ => by simp at h
  | _ :: _, [], _, h, _ => by simp at h
theorem isL_look {K : PySem.W.Frag} {S : Hp} {f : Str} {d : D} : ∀ (ns : List Str) (ds : List D) (vs : List V), ns.length = ds.length → IsL K S ds vs → (ns.zip ds).lookup f = some d → ∃ v, (ns.zip vs).lookup f = some v ∧ Is K S d v
  | [], [], _, _, _, e => by simp at e
  | n :: ns, x :: ds, vs, l, h, e => by
    obtain ⟨y, r, rfl, h1, h2⟩ := h
    rw [List.zip_cons_cons, List.lookup_cons] at e ⊢
    cases q : f == n with
    | true =>
      rw [q] at e
      cases e
      exact ⟨y, rfl, h1⟩
    | false =>
      rw [q] at e
      exact isL_look ns ds r (by simpa using l) h2 e
  | [], _ :: _, _, h, _, _ => by simp at h
  | _ :: _, [], _, h, _, _ => by simp at h
section
variable {X : Cx} {pos : Pos}
/-- o.f -/
def dFld (C : Addr) (f : Str) (o : DE) : DE := fun en cs k => o en cs fun z cs1 => withD cs1 z fun d => match d with
  | .ob C' ns ds => C' = C ∧ ∃ x, (ns.zip ds).lookup f = some x ∧ k (.d x) cs1
  | _ => False
theorem q_fld {C : Addr} {f : Str} {o : Expr} {to : TE} {od : DE} (c : Cls X.K C) (na : NoAttr X.K C f) (ho : QE X o to od) (hb : attributeBase o f X.env (eval o X.env) = eval o X.env := by rfl) : QE X (.Attribute o f pos) (tFld X.K to f) (dFld C f od) := by
  refine ⟨pe_fld ho.pe hb, ?_⟩
  intro σ H S as en cs k Q r e q p
  refine ho.sem.use r e q fun z v S1 H1 as1 cs1 e1 r1 v1 q1 => ?_
  obtain ⟨d, l1, q1⟩ := withD_look q1
  have hx := look_sh r1 v1 l1
  split at q1
  · obtain ⟨rfl, x, hl, q1⟩ := q1
    obtain ⟨a, dx, vs, rfl, ha, hd, hn, is⟩ := hx
    obtain ⟨u, hu, iu⟩ := isL_look _ _ _ hn is hl
    exact ⟨a, _, dx, _, u, rfl, ha, c, na, hu, p (.d x) u S1 H1 as1 cs1 e1 r1 iu q1⟩
  · exact q1.elim
/-- self.f = value, self a cell -/
def dSetF (C : Addr) (f : Str) (o v : DE) : DS := fun D en cs => v en cs fun y cs1 => o en cs1 fun x cs2 => match x, y with
  | .c n, .d d => (match cs2[n]? with
    | some (.ob C' ns ds) => C' = C ∧ ns.length < 1000 ∧ D.nx en (cs2.set n (.ob C (putN f ns) (putD f d ns ds)))
    | _ => False)
  | _, _ => False
theorem qs_setF {C : Addr} {f : Str} {o value : Expr} {to tv : TE} {od vd : DE} {pos' : Pos} (c : Cls X.K C) (na : NoAttr X.K C f) (ho : QE X o to od) (hv : QE X value tv vd) (hs : swapsWith value (some (.Attribute o f pos')) pos.line X.env = pure false := by rfl) :
    QS X (.Assign [.Attribute o f pos'] value pos) (sFld X.K to tv f) (dSetF C f od vd) := by
  refine ⟨ps_fld ho.pe hv.pe hs, ?_⟩
  intro σ H S as en cs D E r e q p
  refine hv.sem.use r e q fun z v S1 H1 as1 cs1 e1 r1 v1 q1 => ?_
  refine ho.sem.use r1 (e.mono e1) q1 fun z2 v2 S2 H2 as2 cs2 e2 r2 w2 q2 => ?_
  split at q2
  · rename_i n d
    split at q2
    · rename_i C' ns ds hc
      obtain ⟨rfl, hn, q2⟩ := q2
      obtain ⟨a, ha, rfl⟩ := w2
      obtain ⟨hS, dx, vs, hH, hd, hl, is⟩ := r2.cel n a _ ha hc
      have vd' : Is X.K S2 d v := Is.mono e2.sub _ _ v1
      have lv : ns.length = vs.length := hl.trans is.len.symm
      refine ⟨a, _, dx, _, rfl, hH, c, na, by rw [List.length_zip, lv, Nat.min_self, ← lv]; exact hn, ?_⟩
      rw [putF_zip f v ns vs lv]
      refine p.nx σ S2 _ as2 en _ (e1.trans e2) (r2.put ha (c := .ob _ (putN f ns) (putD f d ns ds)) ⟨hS, dx, _, upd_same, hd, put_len f d ns ds hl, isL_put vd' f ns ds vs hl is⟩ hS) (e.mono (e1.trans e2)) q2
    · exact q2.elim
  · exact q2.elim
end
end DL
set_option Elab.async false
set_option linter.all false
set_option maxRecDepth 100000
set_option maxHeartbeats 2000000
set_option autoImplicit false
/-! DLR: a new instance of an own class -/
namespace DL
open PySem PySem.Spec PyProof.Rows L2
section
variable {X : Cx} {k : Nat} {f C : Addr} {fd : FuncData} {ps : List Str} {sp : DSpec} {x : Str} {p pos : Pos} {e : Expr} {es : List Expr} {ta : TA} {da : DA}
theorem run_makeD {pins : List (Addr × Obj)} {σ : L2.St} {H : Hp} {s : Shared} {Q : VK} {us : List Value} {vs : List V} (M : Mk X.K C f) (F : FnD X.prog X.w X.K X.mg X.base k f fd ps sp) (hr : Room (k + 1) X.A) (hg : X.A.guards = some []) (hb : L2.Binds X.K fd ps [])
    (I : Inv X pins σ H s) (r : Vals vs us)
    (h : ∀ x dx, H x = none → H dx = none → dx ≠ x → spD X.K sp (.ref x :: vs) (upd (upd H dx (.own x)) x (.ins C dx [])) (fun v H2 => v = .non ∧ Q (.ref x) H2)) :
    wpAny (model X.prog X.w) X.A (call (.ref C) us) (EP X pins σ Q) X.xe s := by
  have hq := h (s.heap.objs.size + 1) s.heap.objs.size (I.hok.fresh (Nat.le_succ _)) (I.hok.fresh (Nat.le_refl _)) (Nat.ne_of_lt (Nat.lt_succ_self _))
  have I2 := Inv.made (C := C) I
  have r2 : Vals (V.ref (s.heap.objs.size + 1) :: vs) (Value.ref (s.heap.objs.size + 1) :: us) := .cons rfl r
  have hl : (Value.ref (s.heap.objs.size + 1) :: us ++ []).length = ps.length := by
    obtain ⟨S, as, zs, cs, q, a1, a2, a3, a4⟩ := hq
    rw [List.append_nil, ← r2.length, a2.len, F.len _ _ _ a3]
  have b := hb _ (Value.ref (s.heap.objs.size + 1) :: us) I2.kIn hl
  rw [List.append_nil] at b
  refine wpAny_call (make_map (f := f) I.kIn M.makes M.init (beq_iff_eq.mp M.fn) (codeAny_mono (F.run _ X.stack _ _ ⟨Value.ref (s.heap.objs.size + 1) :: us, []⟩ (Value.ref (s.heap.objs.size + 1) :: us) _ _ (hr.make C us []) hg
    (I2.env0.make C us []) b r2 hq) fun r s' hq' => ?_))
  cases r with
  | error e => exact hq'.elim
  | ok fl =>
    cases fl with
    | ret u =>
      obtain ⟨v, H', I3, rv, ev, q3⟩ := I2.after hq'
      subst ev
      exact ⟨rv, ⟨V.ref (s.heap.objs.size + 1), H', I3, rfl, q3⟩⟩
    | next => exact False.elim hq'
    | brk => exact False.elim hq'
    | cont => exact False.elim hq'
def tMakeD (K : PySem.W.Frag) (C : Addr) (sp : DSpec) (t : TA) : TE := fun σ H Q => t σ H fun vs H1 => ∀ x dx, H1 x = none → H1 dx = none → dx ≠ x → spD K sp (.ref x :: vs) (upd (upd H1 dx (.own x)) x (.ins C dx [])) (fun v H2 => v = .non ∧ Q (.ref x) H2)
/-- C(..): the new instance is a cell while its __init__ runs -/
def dMake (C : Addr) (sp : DSpec) (a : DA) : DE := fun en cs k => a en cs fun zs cs1 => sp (.c cs1.length :: zs) (cs1 ++ [.ob C [] []]) fun z cs2 => z = .d .non ∧ ∃ ns ds, cs2[cs1.length]? = some (.ob C ns ds) ∧ (k (.d (.ob C ns ds)) (cs2.take cs1.length) ∨ k (.c cs1.length) cs2)
theorem q_make (F : FnD X.prog X.w X.K X.mg X.base k f fd ps sp) (M : Mk X.K C f) (hr : Room (k + 1) X.A) (hgd : X.A.guards = some []) (hm : X.mg x = some (.ref C)) (hb : L2.Binds X.K fd ps []) (ha : QA X (e :: es) ta da) (hg : Gl X x := by rfl)
    (hdb : (x == ("__debug__" : Str)) = false := by decide) (he : starEach (e :: es) X.env = (false, eval e X.env) :: starEach es X.env := by rfl) (hpl : (backTo pos (starEach es X.env)).any (·.1) = false := by rfl) :
    QE X (.Call (.Name x p) (e :: es) [] pos) (tMakeD X.K C sp ta) (dMake C sp da) := by
  refine ⟨⟨fun pins s σ H Q I h => ?_⟩, ?_⟩
  · refine wpAny_Call_Name_kw (ld_glob I hg hm ?_ hdb)
    refine PySem.W.callWith_K (h₀ := X.base) I.ok.mod.kin M.kp (thn (ha.pa.run pos pins s σ H _ I h) fun us s1 ⟨vs, H1, I1, r, q⟩ => ⟨I1.kIn, ?_⟩) he hpl
    exact run_makeD M F hr hgd hb I1 r q
  · intro σ H S as en cs k Q rp ev q pq
    refine ha.sem σ H S as en cs _ _ rp ev q fun zs vs S1 H1 as1 cs1 e1 r1 v1 q1 => ?_
    intro y dx hy hdx ne
    have rl := r1.lay hdx (.own y)
    have hy2 : (upd H1 dx (.own y)) y = none := by rw [upd_ne (Ne.symm ne)]; exact hy
    have rc := rl.cell hy2 (o := .ins C dx []) (c := .ob C [] []) ⟨rl.sub.free hy2, dx, [], upd_same, upd_same, rfl, rfl⟩
    have ex : Ext S1 as1 (upd S1 dx (.own y)) (as1 ++ [y]) := ⟨Sub.new (r1.sub.free hdx), [y], rfl⟩
    have gy : (as1 ++ [y])[cs1.length]? = some y := by
      rw [← r1.len, List.getElem?_append_right (Nat.le_refl _), Nat.sub_self]
      rfl
    refine ⟨_, _, .c cs1.length :: zs, _, _, rc, ⟨.ref y, vs, rfl, ⟨y, gy, rfl⟩, v1.mono ex⟩, q1, fun z v S' H' as' cs' e' r' vz hk => ?_⟩
    obtain ⟨rfl, ns, ds, hc, hk⟩ := hk
    refine ⟨vz, ?_⟩
    have gy' := e'.get gy
    rcases hk with hk | hk
    · have c := r'.cel _ y _ gy' hc
      obtain ⟨o, h1, h2, h3⟩ := c.obj (fun b e => D.noConfusion e)
      have rt := r'.take cs1.length
      have np : y ∉ as'.take cs1.length := fun hz => by
        obtain ⟨i, hi, ei⟩ := List.getElem_of_mem hz
        rw [List.getElem_take] at ei
        have hl : i < cs1.length := by
          have := hi
          rw [List.length_take] at this
          omega
        have := nd_ix r'.nod (i := i) (j := cs1.length) (by rw [← ei]; exact List.getElem?_eq_getElem _) gy'
        omega
      refine pq (.d (.ob C ns ds)) (.ref y) (upd S' y o) H' (as'.take cs1.length) (cs'.take cs1.length) ?_ (rt.freeze np h1 h2) h3 hk
      obtain ⟨m1, em1⟩ := e1.pre
      obtain ⟨m2, em2⟩ := e'.pre
      refine ⟨((e1.sub.trans ex.sub).trans e'.sub).trans (Sub.new h2), m1, ?_⟩
      rw [em2, ← r1.len, List.append_assoc, List.take_left, em1]
    · exact pq (.c cs1.length) (.ref y) S' H' as' cs' ((e1.trans ex).trans e') r' ⟨y, gy', rfl⟩ hk
end
end DL
set_option Elab.async false
set_option linter.all false
set_option maxRecDepth 100000
set_option maxHeartbeats 2000000
set_option autoImplicit false
/-! DLS: methods called, calls without arguments -/
namespace DL
open PySem PySem.Spec PyProof.Rows L2
theorem look_none {α β : Type} {f : Str} : ∀ (ns : List Str) (ds : List α) (vs : List β), ds.length = vs.length → (ns.zip ds).lookup f = none → (ns.zip vs).lookup f = none
  | [], _, _, _, _ => rfl
  | _ :: _, [], [], _, _ => rfl
  | n :: ns, x :: ds, y :: vs, l, e => by
    rw [List.zip_cons_cons, List.lookup_cons] at e ⊢
    cases q : f == n with
    | true => rw [q] at e; cases e
    | false =>
      rw [q] at e
      exact look_none ns ds vs (by simpa using l) e
  | _ :: _, [], _ :: _, l, _ => by simp at l
  | _ :: _, _ :: _, [], l, _ => by simp at l
section
variable {X : Cx} {k : Nat} {f C : Addr} {fd : FuncData} {ps : List Str} {sp : DSpec} {x m : Str} {p pos apos : Pos} {o e : Expr} {es : List Expr} {to : TE} {od : DE} {ta : TA} {da : DA}
def tMethD (K : PySem.W.Frag) (C : Addr) (m : Str) (sp : DSpec) (ta : TE) (t : TA) : TE := fun σ H Q => ta σ H fun x H1 => ∃ a dx fs, x = .ref a ∧ H1 a = some (.ins C dx fs) ∧ fs.lookup m = none ∧ t σ H1 fun vs H2 => spD K sp (x :: vs) H2 Q
/-- o.m(..), o an instance of the class at C -/
def dMeth (C : Addr) (m : Str) (sp : DSpec) (o : DE) (a : DA) : DE := fun en cs k => o en cs fun z cs1 => withD cs1 z fun d => match d with
  | .ob C' ns ds => C' = C ∧ (ns.zip ds).lookup m = none ∧ a en cs1 fun zs cs2 => sp (z :: zs) cs2 k
  | _ => False
theorem sem_meth (ho : SemE X.K to od) (ha : SemA X.K ta da) : SemE X.K (tMethD X.K C m sp to ta) (dMeth C m sp od da) := by
  intro σ H S as en cs k Q r e q pq
  refine ho.use r e q fun z v S1 H1 as1 cs1 e1 r1 v1 q1 => ?_
  obtain ⟨d, l1, q1⟩ := withD_look q1
  have hx := look_sh r1 v1 l1
  split at q1
  · obtain ⟨rfl, hl, q1⟩ := q1
    obtain ⟨a, dx, vs, rfl, hH, hd, hn, is⟩ := hx
    refine ⟨a, dx, _, rfl, hH, look_none _ _ vs is.len.symm hl, ?_⟩
    refine ha σ H1 S1 as1 en cs1 _ _ r1 (e.mono e1) q1 fun zs us S2 H2 as2 cs2 e2 r2 v2 q2 => ?_
    exact ⟨S2, as2, z :: zs, cs2, k, r2, ⟨.ref a, us, rfl, v1.mono e2, v2⟩, q2, pq.mono (e1.trans e2)⟩
  · exact q1.elim
theorem q_meth {pl : Sem Bool} (F : FnD X.prog X.w X.K X.mg X.base k f fd ps sp) (c : Cls X.K C) (hm : Meth X.K C m f) (hr : Room k X.A) (hgd : X.A.guards = some []) (hb : L2.Binds X.K fd ps []) (ho : QE X o to od) (ha : QA X (e :: es) ta da)
    (hst : starEach (e :: es) X.env = (false, eval e X.env) :: starEach es X.env := by rfl) (hpl : (backTo pos (starEach es X.env)).any (·.1) = false := by rfl)
    (ht : eval (.Call (.Attribute o m apos) (e :: es) [] pos) X.env = (do
      let ov ← eval o X.env
      standAt apos.atName
      let (f, first) ← holding [ov] (getMethod ov m pl)
      callWith pos f first (backTo pos (starEach (e :: es) X.env)) (backToKw pos (keywordEach [] X.env))) := by rfl) :
    QE X (.Call (.Attribute o m apos) (e :: es) [] pos) (tMethD X.K C m sp to ta) (dMeth C m sp od da) := by
  refine ⟨⟨fun pins s σ H Q I h => ?_⟩, sem_meth ho.sem ha.sem⟩
  refine PySem.W.methodCall_KW (pl := pl) (thn (ho.pe.run pins s σ H _ I h) fun u s1 ⟨x, H1, I1, rx, a, dx, fs, ex, ea, l, q⟩ => ?_) ht
  subst ex
  obtain rfl : u = Value.ref a := rx
  refine getmeth_ok I1 ea c hm l ?_
  refine PySem.W.callWith_K (first := [.ref a]) (h₀ := X.base) I.ok.mod.kin hm.kp (thn (ha.pa.run pos pins s1 σ H1 _ I1 q) fun us s2 ⟨vs, H2, I2, r, q2⟩ => ⟨I2.kIn, ?_⟩) hst hpl
  exact run_fnD (us := .ref a :: us) (vs := .ref a :: vs) F hr hgd hb I2 (.cons rfl r) q2
theorem q_meth0 {pl : Sem Bool} (F : FnD X.prog X.w X.K X.mg X.base k f fd ps sp) (c : Cls X.K C) (hm : Meth X.K C m f) (hr : Room k X.A) (hgd : X.A.guards = some []) (hb : L2.Binds X.K fd ps []) (ho : QE X o to od)
    (ht : eval (.Call (.Attribute o m apos) [] [] pos) X.env = (do
      let ov ← eval o X.env
      standAt apos.atName
      let (f, first) ← holding [ov] (getMethod ov m pl)
      callWith pos f first (backTo pos (starEach [] X.env)) (backToKw pos (keywordEach [] X.env))) := by rfl) :
    QE X (.Call (.Attribute o m apos) [] [] pos) (tMethD X.K C m sp to tNil) (dMeth C m sp od dNil) := by
  refine ⟨⟨fun pins s σ H Q I h => ?_⟩, sem_meth ho.sem qa_nil.sem⟩
  refine PySem.W.methodCall_KW (pl := pl) (thn (ho.pe.run pins s σ H _ I h) fun u s1 ⟨x, H1, I1, rx, a, dx, fs, ex, ea, l, q⟩ => ?_) ht
  subst ex
  obtain rfl : u = Value.ref a := rx
  refine getmeth_ok I1 ea c hm l ?_
  exact PySem.W.callWith_K0 (first := [.ref a]) I1.kIn hm.kp (run_fnD (us := [.ref a]) (vs := [.ref a]) F hr hgd hb I1 (.cons rfl .nil) q)
/-- f() -/
theorem q_call0 (F : FnD X.prog X.w X.K X.mg X.base k f fd ps sp) (hr : Room k X.A) (hgd : X.A.guards = some []) (hm : X.mg x = some (.ref f)) (hk : PySem.W.keepIn X.K (.ref f) = true) (hb : L2.Binds X.K fd ps []) (hg : Gl X x := by rfl)
    (hdb : (x == ("__debug__" : Str)) = false := by decide) : QE X (.Call (.Name x p) [] [] pos) (tCallD X.K sp tNil) (dCall sp dNil) := by
  refine ⟨⟨fun pins s σ H Q I h => ?_⟩, ?_⟩
  · refine wpAny_Call_Name_kw (ld_glob I hg hm ?_ hdb)
    exact PySem.W.callWith_K0 I.kIn hk (run_fnD (us := []) F hr hgd hb I .nil h)
  · intro σ H S as en cs k Q rp ev q pq
    refine qa_nil.sem σ H S as en cs _ _ rp ev q fun zs vs S1 H1 as1 cs1 e1 r1 v1 q1 => ?_
    exact ⟨S1, as1, zs, cs1, k, r1, v1, q1, pq.mono e1⟩
end
end DL
set_option Elab.async false
set_option linter.all false
set_option maxRecDepth 100000
set_option maxHeartbeats 2000000
set_option autoImplicit false
/-! DLT: properties read -/
namespace DL
open PySem PySem.Spec PyProof.Rows L2
section
variable {X : Cx} {k : Nat} {C p g a dx : Addr} {fs : List (Str × V)} {f : Str} {fd : FuncData} {ps : List Str} {sp : DSpec} {e : Expr} {pos : Pos} {ta : TE} {od : DE}
theorem getpropD {pins : List (Addr × Obj)} {σ : L2.St} {H : Hp} {s : Shared} {Q : VK} {b : Bool} {E' : Value → Shared → Prop} (I : Inv X pins σ H s) (ea : H a = some (.ins C dx fs)) (c : Cls X.K C) (hp : PropOf X.K C f p g)
    (F : FnD X.prog X.w X.K X.mg X.base k g fd ps sp) (hr : Room (k + 1) X.A) (hg : X.A.guards = some []) (hb : L2.Binds X.K fd ps []) (h : spD X.K sp [.ref a] H Q) :
    wpAny (model X.prog X.w) X.A (getAttr (.ref a) f b) (EP X pins σ Q) E' s := by
  obtain ⟨mA, O, _, _, _, _⟩ := ins_get I.hok ea
  obtain ⟨od, J, _⟩ := O.look
  obtain ⟨rest, hrec⟩ := hp.rec_
  have I1 := I.tok (s.toks + 1)
  have hl : ([Value.ref a] ++ []).length = ps.length := by
    obtain ⟨S, as, zs, cs, q, a1, a2, a3, a4⟩ := h
    have := F.len _ _ _ a3
    have l2 := a2.len
    simp only [List.length_cons, List.length_nil, List.length_append] at l2 ⊢
    omega
  have hc : (PySem.W.clsIn X.K C).isSome = true := by
    obtain ⟨cd, hc, _⟩ := PySem.W.any_some c.hd
    rw [hc]
    rfl
  have bd := hb { s with toks := s.toks + 1 } [.ref a] I1.kIn hl
  rw [List.append_nil] at bd
  refine PySem.W.get_bind I.kIn J (PySem.W.plainGet_of (c.get f)).1 (PySem.W.findObj_data hc hp.at_ hp.get hp.tak) (PySem.W.plainGet_of (c.get f)).2 (wpAny_call (PySem.W.prop_get (s := { s with toks := s.toks + 1 }) I.kIn hrec ?_))
  refine codeAny_mono (F.run X.A.in1 X.stack { s with toks := s.toks + 1 } H ⟨[.ref a], []⟩ [.ref a] [.ref a] Q hr.in1 hg I1.env0.in1 bd (.cons rfl .nil) h) fun r s' hq => ?_
  cases r with
  | error er => exact hq.elim
  | ok fl =>
    cases fl with
    | ret u =>
      obtain ⟨v, H', I3, rv, q3⟩ := I1.after hq
      show wpAny _ _ (handedOut u) _ _ _
      rw [PySem.W.handedOut_of (handed_of rv)]
      exact wpAny_pure ⟨v, H', I3, rv, q3⟩
    | next => exact False.elim hq
    | brk => exact False.elim hq
    | cont => exact False.elim hq
def tPropD (K : PySem.W.Frag) (C : Addr) (sp : DSpec) (ta : TE) : TE := fun σ H Q => ta σ H fun x H1 => ∃ a dx fs, x = .ref a ∧ H1 a = some (.ins C dx fs) ∧ spD K sp [.ref a] H1 Q
/-- o.f, a property -/
def dProp (C : Addr) (sp : DSpec) (o : DE) : DE := fun en cs k => o en cs fun z cs1 => withD cs1 z fun d => match d with
  | .ob C' _ _ => C' = C ∧ sp [z] cs1 k
  | _ => False
theorem q_prop (F : FnD X.prog X.w X.K X.mg X.base k g fd ps sp) (c : Cls X.K C) (hp : PropOf X.K C f p g) (hr : Room (k + 1) X.A) (hg : X.A.guards = some []) (hb : L2.Binds X.K fd ps []) (he : QE X e ta od) (hab : attributeBase e f X.env (eval e X.env) = eval e X.env := by rfl) :
    QE X (.Attribute e f pos) (tPropD X.K C sp ta) (dProp C sp od) := by
  refine ⟨⟨fun pins s σ H Q I h => ?_⟩, ?_⟩
  · refine attr_of hab (thn (he.pe.run pins s σ H _ I h) fun u s1 ⟨x, H1, I1, rx, a, dx, fs, ex, ea, q⟩ => ?_)
    subst ex
    obtain rfl : u = Value.ref a := rx
    exact getpropD I1 ea c hp F hr hg hb q
  · intro σ H S as en cs k Q r ev q pq
    refine he.sem.use r ev q fun z v S1 H1 as1 cs1 e1 r1 v1 q1 => ?_
    obtain ⟨d, l1, q2⟩ := withD_look q1
    have hx := look_sh r1 v1 l1
    split at q2
    · obtain ⟨rfl, q3⟩ := q2
      obtain ⟨a, dx, vs, rfl, hH, hd, hn, is⟩ := hx
      exact ⟨a, dx, _, rfl, hH, S1, as1, [z], cs1, k, r1, ⟨.ref a, [], rfl, v1, rfl⟩, q3, pq.mono e1⟩
    · exact q2.elim
end
end DL
set_option Elab.async false
set_option linter.all false
set_option maxRecDepth 100000
set_option maxHeartbeats 2000000
set_option autoImplicit false
/-! DLU: operators, == and != by own defs, instances called, isinstance with own classes -/
namespace DL
open PySem PySem.Spec PyProof.Rows L2 PySem.W
section
variable {prog : Program} {w : World} {A : Around} {E : Value → Shared → Prop} {s : Shared} {K : Frag} {x C L f : Addr} {h₀ : Heap} {m : Str → Option Value} {ox : Obj} {od : Option Obj} {b tb : Value}
/-- != of an own class without its own __ne__ -/
theorem ne_K {Q : Value → Shared → Prop} (hu : A.units + 2 < cLine) (F : Fr h₀ L s.heap m) (X₀ : K.In h₀) (I : InstAt s.heap x ox C od) (hb : Looks (model prog w) s.heap (typeOf b) tb) (hn : notFirst K C tb = true)
    (hs : findIn K (.ref C) "__ne__" = some (some (.builtin "object.__ne__"))) (he : findIn K (.ref C) "__eq__" = some (some (.ref f))) (hf : isFn K (.ref f) = true) (hp : plainOver K C = true)
    (h : wpAny (model prog w) A.in1 (call (.ref f) [.ref x, b]) (fun v s' => ∃ q, v = .bool q ∧ Q (.bool (!q)) s') E s) : wpAny (model prog w) A (richCompare .NotEq (.ref x) b) Q E s := by
  have X := X₀.keeps F.keep
  obtain ⟨cd, hc, ho⟩ := any_some hp
  have ne : cd.mro.isEmpty = false := by cases q : cd.mro with | nil => rw [q] at ho; cases ho | cons _ _ => rfl
  have sub : Looks (model prog w) s.heap (isInstance (.ref x) (.type "object")) true := I.type.andThen (looks_mroIn X (by unfold mroIn; rw [hc, Option.bind_some, if_neg (by rw [ne]; decide), only_has ho]))
  have bnd := PySem.F.cmp_object.ne.bind (.ref x)
  have callne : wpAny (model prog w) A (call (.builtin "object.__ne__") [.ref x, b]) (fun v s' => ∃ q, v = .bool q ∧ Q (.bool q) s') E s := by
    refine wpAny_call (codeAny_call_builtin PySem.F.cmp_object.ne.plain PySem.F.cmpEntry_ne (@check_slot (model prog w) _ _ s "object.__ne__" "object" "__ne__" (.ref x) [b] [] _ PySem.F.cmpKind_ne PySem.F.cmpSplit_ne sub (PySem.F.cmpArgs_ne (.ref x) b) ?_))
    unfold Builtin.«object.__ne__»
    refine wpAny_bind (wpAny_pure ?_)
    refine wpAny_bind (wpAny_cRoomFor (show A.in1.units < cLine from Nat.lt_of_succ_lt hu) ?_)
    refine wpAny_bind (ifBound_K X I he hf (wpAny_mono h (fun v s' hv => ?_) fun _ _ e => e))
    obtain ⟨q, rfl, hv⟩ := hv
    refine wpAny_bind (wpAny_truthy_bool ?_)
    exact wpAny_pure ⟨_, rfl, hv⟩
  have one : wpAny (model prog w) A (tryCompare (.ref x) "__ne__" b) (fun r s' => ∃ q, r = some (.bool q) ∧ Q (.bool q) s') E s := by
    unfold tryCompare
    refine wpAny_bind ?_
    simp only [callSpecialIfBound?, bindSpecialIfBound?]
    refine wpAny_holding (wpAny_bind (wpAny_bind (wpAny_bind (I.type.here ((looks_findIn X hs).here ?_)))))
    simp only [bnd]
    refine wpAny_bind (wpAny_askSetting (wpAny_ite ?_))
    have fin : wpAny (model prog w) A (call (.builtin "object.__ne__") ([.ref x] ++ [b]) >>= fun v => pure (some v)) (fun r s' => wpAny (model prog w) A (match r with
        | some .notImplemented | none => pure none
        | some v => pure (some v) : Sem (Option Value)) (fun r s' => ∃ q, r = some (.bool q) ∧ Q (.bool q) s') E s') E s := by
      refine wpAny_bind (wpAny_mono callne (fun v s' hv => ?_) fun _ _ e => e)
      obtain ⟨q, rfl, hv⟩ := hv
      exact wpAny_pure (wpAny_pure ⟨_, rfl, hv⟩)
    split
    · exact wpAny_bind (wpAny_pure (wpAny_pure (by exact fin)))
    · exact wpAny_tryCatch (wpAny_bind (wpAny_pure (wpAny_pure (by exact fin))))
  unfold richCompare
  simp only [oneThing_ref]
  refine wpAny_holding (wpAny_bind (wpAny_cRoomFor (Nat.lt_of_succ_lt (Nat.lt_of_succ_lt hu)) ?_))
  refine wpAny_bind (I.type.here (wpAny_bind (hb.here ?_)))
  rw [cmpInfo_NotEq]
  dsimp only
  split
  · rename_i q
    have e : subIn K tb (.ref C) = some false := by
      rcases Bool.or_eq_true_iff.mp hn with e | e
      · rw [beq_iff_eq.mp e] at q; simp at q
      · exact beq_iff_eq.mp e
    refine wpAny_bind ((looks_subIn X e).here ?_)
    simp only [Bool.false_eq_true, if_false]
    refine wpAny_bind (wpAny_mono one (fun r s' z => ?_) fun _ _ e => e)
    obtain ⟨v, rfl, hq⟩ := z
    exact wpAny_pure hq
  · refine wpAny_bind (wpAny_pure ?_)
    simp only [Bool.false_eq_true, if_false]
    refine wpAny_bind (wpAny_mono one (fun r s' z => ?_) fun _ _ e => e)
    obtain ⟨v, rfl, hq⟩ := z
    exact wpAny_pure hq
end
end DL
set_option Elab.async false
set_option linter.all false
set_option maxRecDepth 100000
set_option maxHeartbeats 2000000
set_option autoImplicit false
/-! DLV: readings of operators, == and != of own classes; instances called; isinstance -/
namespace DL
open PySem PySem.Spec PyProof.Rows L2
/-- what the text says of an own class -/
structure ClsD (K : PySem.W.Frag) (C : Addr) : Prop where
  cl : Cls K C
  ca : PySem.W.findIn K (.ref C) "__class__" = some (some (.builtin "object.__class__"))
  cn : PySem.W.specialIn K (.builtin "object.__class__") "__get__" = some (some (.builtin "getset_descriptor.__get__"))
  ct : PySem.W.takesIn K (.builtin "object.__class__") = some true
  cm : PySem.W.mroIn K C (.type "object") = some true
  sf : PySem.W.selfFirst K C = true
  kc : PySem.W.typeIn K (.ref C) = some (.type "type")
  kp : PySem.W.keepIn K (.ref C) = true
theorem mro_ty {n : String} {l : List String} (h : PySem.fastBuiltinMro n = some (l.map Value.type)) (C : Addr) : (PySem.fastBuiltinMro n).map (·.contains (.ref C)) = some false := by
  rw [h, Option.map_some]
  congr 1
  rw [← Bool.not_eq_true, List.contains_iff_mem]
  intro q
  obtain ⟨_, _, e⟩ := List.mem_map.mp q
  cases e
def tyNames : List String := ["NoneType", "bool", "int", "str", "tuple", "list", "dict"]
theorem sub_ty {K : PySem.W.Frag} {n : String} (h : n ∈ tyNames) (C : Addr) : PySem.W.subIn K (.type n) (.ref C) = some false := by
  show (PySem.fastBuiltinMro n).map (·.contains (.ref C)) = some false
  simp only [tyNames, List.mem_cons, List.not_mem_nil, or_false] at h
  rcases h with rfl | rfl | rfl | rfl | rfl | rfl | rfl
  · exact mro_ty (l := ["NoneType", "object"]) (by kernel_rfl) C
  · exact mro_ty (l := ["bool", "int", "object"]) (by kernel_rfl) C
  · exact mro_ty (l := ["int", "object"]) (by kernel_rfl) C
  · exact mro_ty (l := ["str", "object"]) (by kernel_rfl) C
  · exact mro_ty (l := ["tuple", "object"]) (by kernel_rfl) C
  · exact mro_ty (l := ["list", "object"]) (by kernel_rfl) C
  · exact mro_ty (l := ["dict", "object"]) (by kernel_rfl) C
/-- plain data of a built-in type -/
def isBt : D → Bool
  | .ty _ => false
  | .obj _ => false
  | .ob _ _ _ => false
  | _ => true
theorem bt_names {d : D} (h : isBt d = true) : tyD d ∈ tyNames := by
  cases d <;> first | (exact absurd h Bool.false_ne_true) | simp [tyD, tyNames]
theorem sh_bt {K : PySem.W.Frag} {S H : Hp} {d : D} {v : V} (e : Sub S H) (h : Sh K S H d v) (hb : isBt d = true) : TyX K H v (.type (tyD d)) := by
  cases d with
  | non => rw [sh_non h]; exact .base .non
  | bl b => rw [sh_bl h]; exact .base (.bl b)
  | int i => rw [sh_int h]; exact .base (.int i)
  | str x => rw [sh_str h]; exact .base (.str x)
  | tup ds =>
    obtain ⟨a, vs, rfl, hs, _⟩ := h
    rcases e.t hs with (h1 | ⟨o, h1⟩) | ⟨o, its, n, h1, h2, _⟩
    · exact .base (.tup h1)
    · exact .fTuple h1
    · exact .kTuple h1 h2
  | lst ds =>
    obtain ⟨a, vs, rfl, hs, _⟩ := h
    exact .base (.lst hs)
  | scr ns =>
    obtain ⟨a, rfl, hs⟩ := h
    rcases e.l hs with (h1 | ⟨o, h1⟩) | ⟨o, its, n, h1, h2, _⟩
    · exact .base (.lst h1)
    · exact .base (.frz h1)
    · exact .kList h1 h2
  | dic ds =>
    obtain ⟨a, vs, rfl, hs, _⟩ := h
    exact .base (.dK hs)
  | ty m => cases hb
  | obj a => cases hb
  | ob a b c => cases hb
theorem sh_ob {K : PySem.W.Frag} {S H : Hp} {C : Addr} {ns : List Str} {ds : List D} {v : V} (c : ClsD K C) (h : Sh K S H (.ob C ns ds) v) : TyX K H v (.ref C) := by
  obtain ⟨a, dx, vs, rfl, hH, _⟩ := h
  exact .base (.ins hH c.cl c.ca c.cn c.ct c.cm)
/-! isinstance(x, C): Cs the other own classes that may come -/
def isiO (C : Addr) (Cs : List Addr) (d : D) (k : Bool → Prop) : Prop := match d with
  | .ob C' _ _ => (C' = C ∧ k true) ∨ (C' ∈ Cs ∧ k false)
  | d => isBt d = true ∧ k false
structure Oth (K : PySem.W.Frag) (C C' : Addr) : Prop where
  c : ClsD K C'
  ne : PySem.W.subIn K (.ref C') (.ref C) = some false
  df : C' ≠ C
theorem kit_own {K : PySem.W.Frag} {C : Addr} (c : ClsD K C) {t : Value} (h : t ≠ .ref C) (hs : PySem.W.subIn K t (.ref C) = some false) : PySem.W.kitOne K t (.ref C) = some false := by
  unfold PySem.W.kitOne
  rw [if_neg (by simpa using h)]
  unfold PySem.W.kitCls
  have hc : (PySem.W.clsIn K C).isSome = true := by
    obtain ⟨cd, hc, _⟩ := PySem.W.any_some c.cl.hd
    rw [hc]
    rfl
  simp only [hc, c.kc, hs, beq_self_eq_true, Bool.and_self, if_true]
theorem isi_at {X : Cx} {C : Addr} {Cs : List Addr} (c : ClsD X.K C) (o : ∀ C' ∈ Cs, Oth X.K C C') {S H : Hp} {d : D} {v : V} {k : Bool → Prop} (e : Sub S H) (h : Sh X.K S H d v) (q : isiO C Cs d k) : ∃ t b, TyX X.K H v t ∧ PySem.W.kitOne X.K t (.ref C) = some b ∧ k b := by
  unfold isiO at q
  split at q
  · rcases q with ⟨rfl, q⟩ | ⟨m, q⟩
    · exact ⟨_, true, sh_ob c h, by unfold PySem.W.kitOne; rw [if_pos (by simp)], q⟩
    · have ot := o _ m
      exact ⟨_, false, sh_ob ot.c h, kit_own c (by
        intro z
        exact ot.df (Value.ref.inj z)) ot.ne, q⟩
  · exact ⟨_, false, sh_bt e h q.1, kit_own c (fun z => nomatch z) (sub_ty (bt_names q.1) C), q.2⟩
section
variable {X : Cx} {pos : Pos} {k : Nat} {f C : Addr} {fd : FuncData} {ps : List Str} {sp : DSpec} {a b e : Expr} {es : List Expr} {ta tb te : TE} {da db de : DE} {tl : TA} {dl : DA} {x y : Str} {p p2 : Pos}
def tIsiO (K : PySem.W.Frag) (C : Addr) (ta : TE) : TE := tCB (rIsi K) (tCons ta (tCons (tC (.ref C)) tNil))
def dIsiO (C : Addr) (Cs : List Addr) (a : DE) : DE := fun en cs k => a en cs fun z cs1 => withD cs1 z fun d => isiO C Cs d fun q => k (.d (.bl q)) cs1
theorem q_isiO {Cs : List Addr} (c : ClsD X.K C) (o : ∀ C' ∈ Cs, Oth X.K C C') (hm : X.mg "isinstance" = none) (hC : X.mg y = some (.ref C)) (ha : QE X a ta da) (hg : Gl X "isinstance" := by rfl) (hg2 : Gl X y := by rfl) (hdb2 : (y == ("__debug__" : Str)) = false := by decide)
    (he : starEach [a, .Name y p2] X.env = (false, eval a X.env) :: starEach [.Name y p2] X.env := by rfl) (he2 : starEach [.Name y p2] X.env = (false, eval (.Name y p2) X.env) :: starEach [] X.env := by rfl)
    (hpl : (backTo pos (starEach [.Name y p2] X.env)).any (·.1) = false := by rfl) :
    QE X (.Call (.Name "isinstance" p) [a, .Name y p2] [] pos) (tIsiO X.K C ta) (dIsiO C Cs da) := by
  have hn : PE X (.Name y p2) (tC (.ref C)) := ⟨fun pins s σ H Q I h => ld_glob I hg2 hC ⟨.ref C, H, I, rfl, h⟩ hdb2⟩
  refine ⟨pe_callB (p := p) (pos := pos) call_isi hg hm PyProof.Rows.boot_isinstance (pa_cons ha.pe (pa_cons hn pa_nil he2) he) (by decide) (by decide) he hpl, ?_⟩
  · intro σ H S as en cs k Q r ev q pq
    refine ha.sem.use r ev q fun z v S1 H1 as1 cs1 e1 r1 v1 q1 => ?_
    obtain ⟨d, l1, q2⟩ := withD_look q1
    obtain ⟨t, b, h1, h2, h3⟩ := isi_at c o r1.sub (look_sh r1 v1 l1) q2
    exact ⟨v, .ref C, t, .ref C, b, rfl, .own C, h1, h2, pq (.d (.bl b)) (.bl b) S1 H1 as1 cs1 e1 r1 rfl h3⟩
end
end DL
set_option Elab.async false
set_option linter.all false
set_option maxRecDepth 100000
set_option maxHeartbeats 2000000
set_option autoImplicit false
/-! DLW: operators, == and != by own defs; instances called; what callers know of methods -/
namespace DL
open PySem PySem.Spec PyProof.Rows L2
/-- what callers know of a method -/
def GotM (P : Program) (w : World) (K : PySem.W.Frag) (mg : Str → Option Value) (base : Heap) (C : Addr) (m : Str) (k : Nat) (ps : List Str) (sp : DSpec) : Prop :=
  ∃ (f : Addr) (fd : FuncData), Meth K C m f ∧ PySem.W.fnIn K f = true ∧ L2.Binds K fd ps [] ∧ FnD P w K mg base k f fd ps sp
/-- .. of a property -/
def GotP (P : Program) (w : World) (K : PySem.W.Frag) (mg : Str → Option Value) (base : Heap) (C : Addr) (m : Str) (k : Nat) (ps : List Str) (sp : DSpec) : Prop :=
  ∃ (p f : Addr) (fd : FuncData), PropOf K C m p f ∧ L2.Binds K fd ps [] ∧ FnD P w K mg base k f fd ps sp
/-- .. of a class and its __init__ -/
def GotI (P : Program) (w : World) (K : PySem.W.Frag) (mg : Str → Option Value) (base : Heap) (C : Addr) (x : Str) (k : Nat) (ps : List Str) (sp : DSpec) : Prop :=
  ∃ (f : Addr) (fd : FuncData), mg x = some (.ref C) ∧ Mk K C f ∧ L2.Binds K fd ps [] ∧ FnD P w K mg base k f fd ps sp
section
variable {X : Cx} {pos : Pos} {k : Nat} {f C : Addr} {fd : FuncData} {ps : List Str} {sp : DSpec} {a b e fe : Expr} {es : List Expr} {ta tb te tf : TE} {da db de df : DE} {tl : TA} {dl : DA} {x y m : Str} {p p2 : Pos}
theorem ins_of {S H : Hp} {s : Shared} {pins : List (Addr × Obj)} {σ : L2.St} {ns : List Str} {ds : List D} {v : V} (I : Inv X pins σ H s) (h : Sh X.K S H (.ob C ns ds) v) : ∃ q ox od, v = .ref q ∧ PySem.W.InstAt s.heap q ox C (some od) ∧ ox.data = .plain := by
  obtain ⟨a, dx, vs, rfl, hH, _⟩ := h
  obtain ⟨mA, O, _⟩ := ins_get I.hok hH
  obtain ⟨od, J, _⟩ := O.look
  exact ⟨a, _, od, rfl, J, rfl⟩
/-! ### a op b -/
def rOwnB (K : PySem.W.Frag) (C : Addr) (sp : DSpec) : R2 := fun x y H Q => ∃ S ns ds ns' ds', Sh K S H (.ob C ns ds) x ∧ Sh K S H (.ob C ns' ds') y ∧ spD K sp [x, y] H Q
theorem op_ownB {op : Operator} (c : ClsD X.K C) (hm : Meth X.K C (PySem.dunder op.info.2) f) (F : FnD X.prog X.w X.K X.mg X.base k f fd ps sp) (hr : Room k X.A) (hgd : X.A.guards = some []) (hb : L2.Binds X.K fd ps []) : OpR X (binaryOp op) (rOwnB X.K C sp) := by
  intro pins s σ H x y v u Q I rx ry h
  obtain ⟨S, ns, ds, ns', ds', hx, hy, q⟩ := h
  obtain ⟨a, ox, od, rfl, J, _⟩ := ins_of I hx
  obtain ⟨b, ox', od', rfl, J', _⟩ := ins_of I hy
  cases (show v = Value.ref a from rx)
  cases (show u = Value.ref b from ry)
  obtain ⟨m, hF⟩ := I.fr
  refine PySem.W.binop_K hF I.ok.mod.kin J J'.type c.sf hm.at_ hm.fn ?_
  refine wpAny_mono (run_fnD (us := [.ref a, .ref b]) (vs := [.ref a, .ref b]) F hr hgd hb I (.cons rfl (.cons rfl .nil)) q) (fun w s' z => ?_) fun _ _ x => x
  obtain ⟨z', H', I', rz, qz⟩ := z
  exact SlX.cmpback rz ⟨z', H', I', rz, qz⟩
def isC (C : Addr) (d : D) : Prop := match d with
  | .ob C' _ _ => C' = C
  | _ => False
theorem isC_ob {C : Addr} {d : D} (h : isC C d) : ∃ ns ds, d = .ob C ns ds := by
  cases d with
  | ob C' ns ds => exact ⟨ns, ds, by rw [show C' = C from h]⟩
  | _ => exact h.elim
def dOwn (C : Addr) (sp : DSpec) (a b : DE) : DE := fun en cs k => a en cs fun x cs1 => b en cs1 fun y cs2 => withD cs2 x fun dx => withD cs2 y fun dy => isC C dx ∧ isC C dy ∧ sp [x, y] cs2 k
theorem q_own {op : Operator} (c : ClsD X.K C) (G : GotM X.prog X.w X.K X.mg X.base C (PySem.dunder op.info.2) k ps sp) (hr : Room k X.A) (hgd : X.A.guards = some []) (ha : QE X a ta da) (hb : QE X b tb db) :
    QE X (.BinOp a op b pos) (tOp (rOwnB X.K C sp) ta tb) (dOwn C sp da db) := by
  obtain ⟨f, fd, hm, _, hbd, F⟩ := G
  refine ⟨pe_op (op_ownB c hm F hr hgd hbd) ha.pe hb.pe, ?_⟩
  intro σ H S as en cs kk Q rp e q pq
  refine ha.sem.use rp e q fun z v S1 H1 as1 cs1 e1 r1 v1 q1 => ?_
  refine hb.sem.use r1 (e.mono e1) q1 fun z2 v2 S2 H2 as2 cs2 e2 r2 w2 q2 => ?_
  obtain ⟨dx, l1, q3⟩ := withD_look q2
  obtain ⟨dy, l2, q4⟩ := withD_look q3
  obtain ⟨cx, cy, q5⟩ := q4
  obtain ⟨n1, d1, rfl⟩ := isC_ob cx
  obtain ⟨n2, d2, rfl⟩ := isC_ob cy
  exact ⟨S2, n1, d1, n2, d2, look_sh r2 (v1.mono e2) l1, look_sh r2 w2 l2, S2, as2, [z, z2], cs2, kk, r2, ⟨v, [v2], rfl, v1.mono e2, v2, [], rfl, w2, rfl⟩, q5, pq.mono (e1.trans e2)⟩
/-! ### == and != -/
/-- what stands on the right -/
def rgt (C : Addr) (d : D) : Prop := match d with
  | .ob C' _ _ => C' = C
  | d => isBt d = true
theorem rgt_ty {S H : Hp} {s : Shared} {pins : List (Addr × Obj)} {σ : L2.St} {d : D} {v : V} {u : Value} (c : ClsD X.K C) (I : Inv X pins σ H s) (e : Sub S H) (h : Sh X.K S H d v) (ru : RelV v u) (q : rgt C d) :
    ∃ tb, PySem.W.Looks (model X.prog X.w) s.heap (typeOf u) tb ∧ PySem.W.notFirst X.K C tb = true := by
  unfold rgt at q
  split at q
  · subst q
    obtain ⟨P, Z, p, _⟩ := kit_of I ru (sh_ob c h)
    exact ⟨.ref _, Z.ty _ _ I.kIn p, by unfold PySem.W.notFirst; simp⟩
  · obtain ⟨P, Z, p, _⟩ := kit_of I ru (sh_bt e h q)
    exact ⟨_, Z.ty _ _ I.kIn p, by unfold PySem.W.notFirst; rw [sub_ty (bt_names q)]; simp⟩
def rOwnE (K : PySem.W.Frag) (C : Addr) (neg : Bool) (sp : DSpec) : R2 := fun x y H Q => ∃ S ns ds d, Sub S H ∧ Sh K S H (.ob C ns ds) x ∧ Sh K S H d y ∧ rgt C d ∧ spD K sp [x, y] H fun v H' => ∃ q, v = .bl q ∧ Q (.bl (if neg = true then !q else q)) H'
theorem op_ownEq (c : ClsD X.K C) (hm : Meth X.K C "__eq__" f) (F : FnD X.prog X.w X.K X.mg X.base k f fd ps sp) (hr : Room k X.A) (hgd : X.A.guards = some []) (hb : L2.Binds X.K fd ps []) : OpR X (compareOp .Eq) (rOwnE X.K C false sp) := by
  intro pins s σ H x y v u Q I rx ry h
  obtain ⟨S, ns, ds, d, e, hx, hy, hd, q⟩ := h
  obtain ⟨a, ox, od, rfl, J, _⟩ := ins_of I hx
  cases (show v = Value.ref a from rx)
  obtain ⟨tb, L, hn⟩ := rgt_ty c I e hy ry hd
  obtain ⟨m, hF⟩ := I.fr
  show wpAny _ _ (richCompare .Eq (.ref a) u) _ _ _
  refine PySem.W.cmp_K (op := .Eq) (tb := tb) hr.units0 hF I.ok.mod.kin J L hn hm.at_ hm.fn ?_
  refine wpAny_mono (run_fnD (us := [.ref a, u]) (vs := [.ref a, y]) F hr hgd hb I (.cons rfl (.cons ry .nil)) q) (fun w s' z => ?_) fun _ _ x => x
  obtain ⟨z', H', I', rz, b, rfl, qz⟩ := z
  exact SlX.cmpback rz ⟨.bl b, H', I', rz, by simpa using qz⟩
theorem op_ownNe (c : ClsD X.K C) (hne : PySem.W.findIn X.K (.ref C) "__ne__" = some (some (.builtin "object.__ne__"))) (hm : Meth X.K C "__eq__" f) (F : FnD X.prog X.w X.K X.mg X.base k f fd ps sp) (hr : Room (k + 1) X.A) (hgd : X.A.guards = some []) (hb : L2.Binds X.K fd ps []) :
    OpR X (compareOp .NotEq) (rOwnE X.K C true sp) := by
  intro pins s σ H x y v u Q I rx ry h
  obtain ⟨S, ns, ds, d, e, hx, hy, hd, q⟩ := h
  obtain ⟨a, ox, od, rfl, J, _⟩ := ins_of I hx
  cases (show v = Value.ref a from rx)
  obtain ⟨tb, L, hn⟩ := rgt_ty c I e hy ry hd
  obtain ⟨m, hF⟩ := I.fr
  show wpAny _ _ (richCompare .NotEq (.ref a) u) _ _ _
  have hu : X.A.units + 2 < cLine := by
    have := hu_of hr
    have h2 := hr.units
    omega
  refine ne_K hu hF I.ok.mod.kin J L hn hne hm.at_ hm.fn c.cl.po ?_
  have hl : ([Value.ref a, u] ++ []).length = ps.length := by
    obtain ⟨S, as, zs, cs, q, a1, a2, a3, a4⟩ := q
    have := F.len _ _ _ a3
    have l2 := a2.len
    simp only [List.length_cons, List.length_nil, List.length_append] at l2 ⊢
    omega
  have bd := hb s [.ref a, u] I.kIn hl
  rw [List.append_nil] at bd
  refine wpAny_call (codeAny_mono (F.run X.A.in1 X.stack s H ⟨[.ref a, u], []⟩ [.ref a, u] [.ref a, y] _ hr.in1 hgd I.env0.in1 bd (.cons rfl (.cons ry .nil)) q) fun r s' hq => ?_)
  cases r with
  | error er => exact hq.elim
  | ok fl =>
    cases fl with
    | ret u =>
      obtain ⟨v, H', I3, rv, b, rfl, q3⟩ := I.after hq
      refine ⟨b, rv, .bl (!b), H', I3, rfl, by simpa using q3⟩
    | next => exact False.elim hq
    | brk => exact False.elim hq
    | cont => exact False.elim hq
def dOwnE (C : Addr) (neg : Bool) (sp : DSpec) (a b : DE) : DE := fun en cs k => a en cs fun x cs1 => b en cs1 fun y cs2 => withD cs2 x fun dx => withD cs2 y fun dy => isC C dx ∧ rgt C dy ∧ sp [x, y] cs2 fun z cs3 => ∃ q, z = .d (.bl q) ∧ k (.d (.bl (if neg = true then !q else q))) cs3
theorem sem_ownE {neg : Bool} (ha : SemE X.K ta da) (hb : SemE X.K tb db) : SemE X.K (tOp (rOwnE X.K C neg sp) ta tb) (dOwnE C neg sp da db) := by
  intro σ H S as en cs kk Q rp e q pq
  refine ha.use rp e q fun z v S1 H1 as1 cs1 e1 r1 v1 q1 => ?_
  refine hb.use r1 (e.mono e1) q1 fun z2 v2 S2 H2 as2 cs2 e2 r2 w2 q2 => ?_
  obtain ⟨dx, l1, q3⟩ := withD_look q2
  obtain ⟨dy, l2, q4⟩ := withD_look q3
  obtain ⟨cx, cy, q5⟩ := q4
  obtain ⟨n1, d1, rfl⟩ := isC_ob cx
  refine ⟨S2, n1, d1, dy, r2.sub, look_sh r2 (v1.mono e2) l1, look_sh r2 w2 l2, cy, S2, as2, [z, z2], cs2, _, r2, ⟨v, [v2], rfl, v1.mono e2, v2, [], rfl, w2, rfl⟩, q5, ?_⟩
  intro z v S' H' as' cs' e' r' vz hk
  obtain ⟨b, rfl, hk⟩ := hk
  exact ⟨b, vz, pq (.d (.bl _)) _ S' H' as' cs' ((e1.trans e2).trans e') r' rfl hk⟩
theorem q_ownEq (c : ClsD X.K C) (G : GotM X.prog X.w X.K X.mg X.base C "__eq__" k ps sp) (hr : Room k X.A) (hgd : X.A.guards = some []) (ha : QE X a ta da) (hb : QE X b tb db) (hm : behindInMarks .Eq b = false := by rfl) :
    QE X (.Compare a [.Eq] [b] pos) (tOp (rOwnE X.K C false sp) ta tb) (dOwnE C false sp da db) := by
  obtain ⟨f, fd, hme, _, hbd, F⟩ := G
  exact ⟨pe_cmpR (op_ownEq c hme F hr hgd hbd) ha.pe hb.pe hm, sem_ownE ha.sem hb.sem⟩
theorem q_ownNe (c : ClsD X.K C) (hne : PySem.W.findIn X.K (.ref C) "__ne__" = some (some (.builtin "object.__ne__"))) (G : GotM X.prog X.w X.K X.mg X.base C "__eq__" k ps sp) (hr : Room (k + 1) X.A) (hgd : X.A.guards = some []) (ha : QE X a ta da) (hb : QE X b tb db) (hm : behindInMarks .NotEq b = false := by rfl) :
    QE X (.Compare a [.NotEq] [b] pos) (tOp (rOwnE X.K C true sp) ta tb) (dOwnE C true sp da db) := by
  obtain ⟨f, fd, hme, _, hbd, F⟩ := G
  exact ⟨pe_cmpR (op_ownNe c hne hme F hr hgd hbd) ha.pe hb.pe hm, sem_ownE ha.sem hb.sem⟩
theorem tst_of {r : R2} {d : DE} (h : SemE X.K (tOp r ta tb) d) : SemT X.K (tTest (tOp r ta tb)) (dB d) := by
  intro σ H S as en cs k Q rp e q p
  refine h.use rp e q fun z v S1 H1 as1 cs1 e1 r1 v1 q1 => ?_
  obtain ⟨b, rfl, q1⟩ := q1
  exact ⟨b, v1, p b S1 H1 as1 cs1 e1 r1 q1⟩
theorem q_ownEqT (c : ClsD X.K C) (G : GotM X.prog X.w X.K X.mg X.base C "__eq__" k ps sp) (hr : Room k X.A) (hgd : X.A.guards = some []) (ha : QE X a ta da) (hb : QE X b tb db) (hm : behindInMarks .Eq b = false := by rfl) :
    QT X (.Compare a [.Eq] [b] pos) (tTest (tOp (rOwnE X.K C false sp) ta tb)) (dB (dOwnE C false sp da db)) := by
  obtain ⟨f, fd, hme, _, hbd, F⟩ := G
  exact ⟨pt_cmpR (op_ownEq c hme F hr hgd hbd) ha.pe hb.pe hm, tst_of (sem_ownE ha.sem hb.sem)⟩
theorem q_ownNeT (c : ClsD X.K C) (hne : PySem.W.findIn X.K (.ref C) "__ne__" = some (some (.builtin "object.__ne__"))) (G : GotM X.prog X.w X.K X.mg X.base C "__eq__" k ps sp) (hr : Room (k + 1) X.A) (hgd : X.A.guards = some []) (ha : QE X a ta da) (hb : QE X b tb db) (hm : behindInMarks .NotEq b = false := by rfl) :
    QT X (.Compare a [.NotEq] [b] pos) (tTest (tOp (rOwnE X.K C true sp) ta tb)) (dB (dOwnE C true sp da db)) := by
  obtain ⟨f, fd, hme, _, hbd, F⟩ := G
  exact ⟨pt_cmpR (op_ownNe c hne hme F hr hgd hbd) ha.pe hb.pe hm, tst_of (sem_ownE ha.sem hb.sem)⟩
/-! ### o(..) -/
theorem code_fnD {pins : List (Addr × Obj)} {σ : L2.St} {H : Hp} {s : Shared} {Q : VK} {us : List Value} {vs : List V} (F : FnD X.prog X.w X.K X.mg X.base k f fd ps sp) (hr : Room k X.A) (hg : X.A.guards = some []) (hb : L2.Binds X.K fd ps [])
    (I : Inv X pins σ H s) (r : Vals vs us) (h : spD X.K sp vs H Q) : codeAny (model X.prog X.w) X.A (.call (.ref f) ⟨us, []⟩) (fun r s' => match r with | .ok (.ret v) => EP X pins σ Q v s' | .ok _ => False | .error e => X.xe e s') s := by
  have hl : (us ++ []).length = ps.length := by
    obtain ⟨S, as, zs, cs, q, a1, a2, a3, a4⟩ := h
    rw [List.append_nil, ← r.length, a2.len, F.len _ _ _ a3]
  have b := hb s us I.kIn hl
  rw [List.append_nil] at b
  refine codeAny_mono (F.run X.A X.stack s H ⟨us, []⟩ us vs Q hr hg I.env0 b r h) fun r s' hq => ?_
  cases r with
  | error e => exact hq.elim
  | ok fl =>
    cases fl with
    | ret u => exact I.after hq
    | next => exact False.elim hq
    | brk => exact False.elim hq
    | cont => exact False.elim hq
def tCallI (K : PySem.W.Frag) (C : Addr) (sp : DSpec) (tf : TE) (t : TA) : TE := fun σ H Q => tf σ H fun y H1 => ∃ a, y = .ref a ∧ t σ H1 fun vs H2 => ∃ S ns ds, Sh K S H2 (.ob C ns ds) y ∧ spD K sp (y :: vs) H2 Q
def dCallI (C : Addr) (sp : DSpec) (o : DE) (a : DA) : DE := fun en cs k => o en cs fun z cs1 => withD cs1 z fun d => isC C d ∧ a en cs1 fun zs cs2 => withD cs2 z fun d => isC C d ∧ sp (z :: zs) cs2 k
theorem q_callI (G : GotM X.prog X.w X.K X.mg X.base C "__call__" k ps sp) (hr : Room k X.A) (hgd : X.A.guards = some []) (hf : QE X fe tf df) (ha : QA X (e :: es) tl dl)
    (ht : eval (.Call fe (e :: es) [] pos) X.env = (do callWith pos (← eval fe X.env) [] (backTo pos (starEach (e :: es) X.env)) (backToKw pos (keywordEach [] X.env))) := by rfl)
    (he : starEach (e :: es) X.env = (false, eval e X.env) :: starEach es X.env := by rfl) (hpl : (backTo pos (starEach es X.env)).any (·.1) = false := by rfl) : QE X (.Call fe (e :: es) [] pos) (tCallI X.K C sp tf tl) (dCallI C sp df dl) := by
  obtain ⟨f, fd, hm, hfi, hbd, F⟩ := G
  refine ⟨⟨fun pins s σ H Q I h => ?_⟩, ?_⟩
  · refine Call_ (thn (hf.pe.run pins s σ H _ I h) fun u s1 ⟨y, H1, I1, ry, a, ey, q⟩ => ?_) ht
    subst ey
    obtain rfl : u = Value.ref a := ry
    refine StX.callO_with (thn (ha.pa.run pos pins s1 σ H1 _ I1 q) fun us s2 ⟨vs, H2, I2, r, S, ns, ds, hi, q2⟩ => ?_) he hpl
    obtain ⟨a', ox, od, e', J, hd⟩ := ins_of I2 hi
    cases e'
    exact ⟨⟨C, ox, _, J, hd⟩, wpAny_call (PySem.W.kco_code I2.kIn J hd hm.at_ hm.fn hfi (code_fnD (us := .ref a :: us) (vs := .ref a :: vs) F hr hgd hbd I2 (.cons rfl r) q2))⟩
  · intro σ H S as en cs k Q r ev q pq
    refine hf.sem.use r ev q fun z v S1 H1 as1 cs1 e1 r1 v1 q1 => ?_
    obtain ⟨d, l1, cx, q2⟩ := withD_look q1
    obtain ⟨n1, d1, rfl⟩ := isC_ob cx
    have hx := look_sh r1 v1 l1
    obtain ⟨a, dx, vs0, rfl, _⟩ := hx
    refine ⟨a, rfl, ha.sem σ H1 S1 as1 en cs1 _ _ r1 (ev.mono e1) q2 fun zs vs S2 H2 as2 cs2 e2 r2 v2 q3 => ?_⟩
    obtain ⟨d', l2, cy, q4⟩ := withD_look q3
    obtain ⟨n2, d2, rfl⟩ := isC_ob cy
    exact ⟨S2, n2, d2, look_sh r2 (v1.mono e2) l2, S2, as2, z :: zs, cs2, k, r2, ⟨.ref a, vs, rfl, v1.mono e2, v2⟩, q4, pq.mono (e1.trans e2)⟩
end
end DL
set_option Elab.async false
set_option linter.all false
set_option maxRecDepth 100000
set_option maxHeartbeats 2000000
set_option autoImplicit false
/-! DLX: methods, properties and __init__ by their bodies; their calls by name -/
namespace DL
open PySem PySem.Spec PyProof.Rows L2
def clsBody (s : Stmt) : List Stmt := match s with
  | .ClassDef _ _ _ b _ _ _ _ _ _ _ => b
  | _ => []
def methS (s : Stmt) (j : Nat) : Stmt := (clsBody s).getD j (.Pass ⟨0, 0, 0, 0⟩)
def MethT (K : PySem.W.Frag) (C : Addr) (m qual : Str) (st : Stmt) (ps : List Str) : Prop :=
  ∃ (f : Addr) (fd : FuncData), Fun K m qual st f fd ∧ Meth K C m f ∧ PySem.W.fnIn K f = true ∧ L2.Binds K fd ps []
def PropT (K : PySem.W.Frag) (C : Addr) (m qual : Str) (st : Stmt) (ps : List Str) : Prop :=
  ∃ (p f : Addr) (fd : FuncData), Fun K m qual st f fd ∧ PropOf K C m p f ∧ L2.Binds K fd ps []
def InitT (K : PySem.W.Frag) (mg : Str → Option Value) (C : Addr) (x qual : Str) (st : Stmt) (ps : List Str) : Prop :=
  ∃ (f : Addr) (fd : FuncData), Fun K "__init__" qual st f fd ∧ mg x = some (.ref C) ∧ Mk K C f ∧ L2.Binds K fd ps []
section
variable {P : Program} {w : World} {K : PySem.W.Frag} {mg : Str → Option Value} {base : Heap} {C : Addr} {m qual x : Str} {k : Nat} {ps : List Str} {sp : DSpec} {st : Stmt} {N : List Str}
theorem GotM.mk (T : MethT K C m qual st ps) (S : FnScope N ps (defScope st)) (len : ∀ zs cs q, sp zs cs q → zs.length = ps.length) (t : DS)
    (der : ∀ (f : Addr) (cdv : Value) (A : Around) (outer : List Env) (s : Shared) (H : Hp), Room k (A.deeper (envOfC qual (defScope st) s.heap.objs.size f cdv)) → (A.deeper (envOfC qual (defScope st) s.heap.objs.size f cdv)).guards = some [] →
      ∃ ts : TS, QSs (cxOf CX0 P w K mg base N qual (defScope st) f cdv A outer s H E0).nox (defBody st) ts t)
    (rd : ∀ zs cs q, sp zs cs q → t (endD cs.length q) (startD N zs) cs) : GotM P w K mg base C m (k + 1) ps sp := by
  obtain ⟨f, fd, F, M, fi, b⟩ := T
  exact ⟨f, fd, M, fi, b, fn_D F S len t (der f) rd⟩
theorem GotP.mk (T : PropT K C m qual st ps) (S : FnScope N ps (defScope st)) (len : ∀ zs cs q, sp zs cs q → zs.length = ps.length) (t : DS)
    (der : ∀ (f : Addr) (cdv : Value) (A : Around) (outer : List Env) (s : Shared) (H : Hp), Room k (A.deeper (envOfC qual (defScope st) s.heap.objs.size f cdv)) → (A.deeper (envOfC qual (defScope st) s.heap.objs.size f cdv)).guards = some [] →
      ∃ ts : TS, QSs (cxOf CX0 P w K mg base N qual (defScope st) f cdv A outer s H E0).nox (defBody st) ts t)
    (rd : ∀ zs cs q, sp zs cs q → t (endD cs.length q) (startD N zs) cs) : GotP P w K mg base C m (k + 1) ps sp := by
  obtain ⟨p, f, fd, F, M, b⟩ := T
  exact ⟨p, f, fd, M, b, fn_D F S len t (der f) rd⟩
theorem GotI.mk (T : InitT K mg C x qual st ps) (S : FnScope N ps (defScope st)) (len : ∀ zs cs q, sp zs cs q → zs.length = ps.length) (t : DS)
    (der : ∀ (f : Addr) (cdv : Value) (A : Around) (outer : List Env) (s : Shared) (H : Hp), Room k (A.deeper (envOfC qual (defScope st) s.heap.objs.size f cdv)) → (A.deeper (envOfC qual (defScope st) s.heap.objs.size f cdv)).guards = some [] →
      ∃ ts : TS, QSs (cxOf CX0 P w K mg base N qual (defScope st) f cdv A outer s H E0).nox (defBody st) ts t)
    (rd : ∀ zs cs q, sp zs cs q → t (endD cs.length q) (startD N zs) cs) : GotI P w K mg base C x (k + 1) ps sp := by
  obtain ⟨f, fd, F, mgC, M, b⟩ := T
  exact ⟨f, fd, mgC, M, b, fn_D F S len t (der f) rd⟩
section
variable {h : Heap} {f p : Addr} {oc : Value} {od an : Option Addr} {osl : Array (Option Value)} {kV doc pm cdv ct : Value}
theorem methT_mk (a : PySem.W.findIn K (.ref C) m = some (some (.ref f))) (l : K.lookup f = some ⟨oc, od, .func (PySem.W.fnOf m qual (defArgs st) (defBody st) (defScope st) .none kV doc pm an cdv ct), osl⟩)
    (c : PySem.W.codeIn K cdv qual = true) (kp : PySem.W.keepIn K (.ref f) = true) (fn : PySem.W.isFn K (.ref f) = true)
    (hb : ∀ (kV doc pm : Value) (an : Option Addr) (cdv ct : Value) (us : List Value), us.length = ps.length → bindArgs (PySem.W.fnOf m qual (defArgs st) (defBody st) (defScope st) .none kV doc pm an cdv ct) ⟨us, []⟩ = pure (ps.zip us)) : MethT K C m qual st ps :=
  ⟨f, _, fun_mk l c kp, ⟨a, fn, kp⟩, by unfold PySem.W.fnIn; rw [l], (fun_mk l c kp).binds hb⟩
theorem propT_mk (a : PySem.W.findIn K (.ref C) m = some (some (.ref p))) (g : PySem.W.specialIn K (.ref p) "__get__" = some (some (.builtin "property.__get__"))) (tk : PySem.W.takesIn K (.ref p) = some true) (rc : ∃ rest, PySem.W.recIn K p "property" = some (.ref f :: rest))
    (l : K.lookup f = some ⟨oc, od, .func (PySem.W.fnOf m qual (defArgs st) (defBody st) (defScope st) .none kV doc pm an cdv ct), osl⟩)
    (c : PySem.W.codeIn K cdv qual = true) (kp : PySem.W.keepIn K (.ref f) = true)
    (hb : ∀ (kV doc pm : Value) (an : Option Addr) (cdv ct : Value) (us : List Value), us.length = ps.length → bindArgs (PySem.W.fnOf m qual (defArgs st) (defBody st) (defScope st) .none kV doc pm an cdv ct) ⟨us, []⟩ = pure (ps.zip us)) : PropT K C m qual st ps :=
  ⟨p, f, _, fun_mk l c kp, ⟨a, g, tk, rc⟩, (fun_mk l c kp).binds hb⟩
theorem initT_mk (X : K.In h) (G : h.Ns mainGlobals mg) (a : PySem.W.nsIn K mainGlobals x = some (some (.ref C))) (mk : PySem.W.makesIn K C = true) (i : PySem.W.findIn K (.ref C) "__init__" = some (some (.ref f))) (fn : PySem.W.isFn K (.ref f) = true) (kc : PySem.W.keepIn K (.ref C) = true)
    (l : K.lookup f = some ⟨oc, od, .func (PySem.W.fnOf "__init__" qual (defArgs st) (defBody st) (defScope st) .none kV doc pm an cdv ct), osl⟩)
    (c : PySem.W.codeIn K cdv qual = true) (kp : PySem.W.keepIn K (.ref f) = true)
    (hb : ∀ (kV doc pm : Value) (an : Option Addr) (cdv ct : Value) (us : List Value), us.length = ps.length → bindArgs (PySem.W.fnOf "__init__" qual (defArgs st) (defBody st) (defScope st) .none kV doc pm an cdv ct) ⟨us, []⟩ = pure (ps.zip us)) : InitT K mg C x qual st ps :=
  ⟨f, _, fun_mk l c kp, PySem.W.mg_of X G a, ⟨mk, i, fn, kc⟩, (fun_mk l c kp).binds hb⟩
end
end
section
variable {X : Cx} {pos p apos : Pos} {x m : Str} {k : Nat} {C : Addr} {ps : List Str} {sp : DSpec} {o e : Expr} {es : List Expr} {to : TE} {od : DE} {ta : TA} {da : DA}
theorem qm_make (G : GotI X.prog X.w X.K X.mg X.base C x k ps sp) (hr : Room (k + 1) X.A) (hgd : X.A.guards = some []) (ha : QA X (e :: es) ta da) (hg : Gl X x := by rfl)
    (hdb : (x == ("__debug__" : Str)) = false := by decide) (he : starEach (e :: es) X.env = (false, eval e X.env) :: starEach es X.env := by rfl) (hpl : (backTo pos (starEach es X.env)).any (·.1) = false := by rfl) :
    QE X (.Call (.Name x p) (e :: es) [] pos) (tMakeD X.K C sp ta) (dMake C sp da) := by
  obtain ⟨f, fd, a, M, b, F⟩ := G
  exact q_make F M hr hgd a b ha hg hdb he hpl
theorem qm_prop {m : Str} (G : GotP X.prog X.w X.K X.mg X.base C m k ps sp) (c : ClsD X.K C) (hr : Room (k + 1) X.A) (hgd : X.A.guards = some []) (he : QE X e to od) (hab : attributeBase e m X.env (eval e X.env) = eval e X.env := by rfl) :
    QE X (.Attribute e m pos) (tPropD X.K C sp to) (dProp C sp od) := by
  obtain ⟨p, f, fd, M, b, F⟩ := G
  exact q_prop F c.cl M hr hgd b he hab
theorem qm_meth {pl : Sem Bool} (G : GotM X.prog X.w X.K X.mg X.base C m k ps sp) (c : ClsD X.K C) (hr : Room k X.A) (hgd : X.A.guards = some []) (ho : QE X o to od) (ha : QA X (e :: es) ta da)
    (hst : starEach (e :: es) X.env = (false, eval e X.env) :: starEach es X.env := by rfl) (hpl : (backTo pos (starEach es X.env)).any (·.1) = false := by rfl)
    (ht : eval (.Call (.Attribute o m apos) (e :: es) [] pos) X.env = (do
      let ov ← eval o X.env
      standAt apos.atName
      let (f, first) ← holding [ov] (getMethod ov m pl)
      callWith pos f first (backTo pos (starEach (e :: es) X.env)) (backToKw pos (keywordEach [] X.env))) := by rfl) :
    QE X (.Call (.Attribute o m apos) (e :: es) [] pos) (tMethD X.K C m sp to ta) (dMeth C m sp od da) := by
  obtain ⟨f, fd, M, _, b, F⟩ := G
  exact q_meth F c.cl M hr hgd b ho ha hst hpl ht
theorem qm_meth0 {pl : Sem Bool} (G : GotM X.prog X.w X.K X.mg X.base C m k ps sp) (c : ClsD X.K C) (hr : Room k X.A) (hgd : X.A.guards = some []) (ho : QE X o to od)
    (ht : eval (.Call (.Attribute o m apos) [] [] pos) X.env = (do
      let ov ← eval o X.env
      standAt apos.atName
      let (f, first) ← holding [ov] (getMethod ov m pl)
      callWith pos f first (backTo pos (starEach [] X.env)) (backToKw pos (keywordEach [] X.env))) := by rfl) :
    QE X (.Call (.Attribute o m apos) [] [] pos) (tMethD X.K C m sp to tNil) (dMeth C m sp od dNil) := by
  obtain ⟨f, fd, M, _, b, F⟩ := G
  exact q_meth0 F c.cl M hr hgd b ho ht
theorem qm_fld {f : Str} (c : ClsD X.K C) (na : NoAttr X.K C f) (ho : QE X o to od) (hb : attributeBase o f X.env (eval o X.env) = eval o X.env := by rfl) : QE X (.Attribute o f pos) (tFld X.K to f) (dFld C f od) := q_fld c.cl na ho hb
theorem qc0 (G : Got X.prog X.w X.K X.mg X.base x k ps sp) (hr : Room k X.A) (hgd : X.A.guards = some []) (hg : Gl X x := by rfl)
    (hdb : (x == ("__debug__" : Str)) = false := by decide) : QE X (.Call (.Name x p) [] [] pos) (tCallD X.K sp tNil) (dCall sp dNil) := by
  obtain ⟨f, fd, a, b, c, d⟩ := G
  exact q_call0 d hr hgd a b c hg hdb
end
/-! ### readings, row by row -/
section
variable {k : Z → Cs → Prop} {cs : Cs} {C : Addr} {sp : DSpec}
theorem e_isC (C' : Addr) (ns : List Str) (ds : List D) : isC C (.ob C' ns ds) = (C' = C) := nd rfl
theorem e_rgO (C' : Addr) (ns : List Str) (ds : List D) : rgt C (.ob C' ns ds) = (C' = C) := nd rfl
theorem e_rgn : rgt C .non = True := by simp [rgt, isBt]
theorem e_rgi (i : Int) : rgt C (.int i) = True := by simp [rgt, isBt]
theorem e_rgs (i : Str) : rgt C (.str i) = True := by simp [rgt, isBt]
theorem e_rgb (i : Bool) : rgt C (.bl i) = True := by simp [rgt, isBt]
theorem e_rgt (i : List D) : rgt C (.tup i) = True := by simp [rgt, isBt]
theorem e_rgl (i : List D) : rgt C (.lst i) = True := by simp [rgt, isBt]
theorem e_isO (Cs : List Addr) (ns : List Str) (ds : List D) (kk : Bool → Prop) : isiO C Cs (.ob C ns ds) kk = (kk true ∨ (C ∈ Cs ∧ kk false)) := by simp [isiO]
end
end DL
namespace DL
open PySem PySem.Spec PyProof.Rows L2
section
variable {X : Cx} {pos : Pos} {k : Nat} {C : Addr} {ps : List Str} {sp : DSpec} {a b : Expr} {ta tb : TE} {da db : DE}
theorem dn_add : PySem.dunder (Operator.Add).info.2 = "__add__" := by decide +kernel
theorem dn_or : PySem.dunder (Operator.BitOr).info.2 = "__or__" := by decide +kernel
theorem dn_and : PySem.dunder (Operator.BitAnd).info.2 = "__and__" := by decide +kernel
theorem q_oAdd (c : ClsD X.K C) (G : GotM X.prog X.w X.K X.mg X.base C "__add__" k ps sp) (hr : Room k X.A) (hgd : X.A.guards = some []) (ha : QE X a ta da) (hb : QE X b tb db) :
    QE X (.BinOp a .Add b pos) (tOp (rOwnB X.K C sp) ta tb) (dOwn C sp da db) := q_own c (by rw [dn_add]; exact G) hr hgd ha hb
theorem q_oOr (c : ClsD X.K C) (G : GotM X.prog X.w X.K X.mg X.base C "__or__" k ps sp) (hr : Room k X.A) (hgd : X.A.guards = some []) (ha : QE X a ta da) (hb : QE X b tb db) :
    QE X (.BinOp a .BitOr b pos) (tOp (rOwnB X.K C sp) ta tb) (dOwn C sp da db) := q_own c (by rw [dn_or]; exact G) hr hgd ha hb
theorem q_oAnd (c : ClsD X.K C) (G : GotM X.prog X.w X.K X.mg X.base C "__and__" k ps sp) (hr : Room k X.A) (hgd : X.A.guards = some []) (ha : QE X a ta da) (hb : QE X b tb db) :
    QE X (.BinOp a .BitAnd b pos) (tOp (rOwnB X.K C sp) ta tb) (dOwn C sp da db) := q_own c (by rw [dn_and]; exact G) hr hgd ha hb
end
end DL
set_option Elab.async false
set_option linter.all false
set_option maxRecDepth 100000
set_option maxHeartbeats 4000000
set_option autoImplicit false
/-! DLY: sorted(set(ints)), sorted(ints), of any length -/
namespace DL
open PySem PySem.Spec PyProof.Rows L2
/-- a set as it is made, still without members -/
abbrev bareSet (w : World) : Obj := { cls := .type "set", dict := none, data := .set #[] 0 (.fresh 0 0 (!w.params.followText "set-order")) }
section
variable {P : Program} {w : World} {A : Around} {E : Value → Shared → Prop} {s : Shared}
/-- what stands behind the making of a set of ints -/
def SetMade (w : World) (s : Shared) (S : Addr) (ns : List Int) (s2 : Shared) : Prop :=
  ∃ h' tk c, s2 = { s with heap := h', toks := tk } ∧ SetR w h' S (fun j => decide (j ∈ ns)) c ∧ c ≤ ns.length ∧ ∀ b o, s.heap.get? b = some o → h'.get? b = some o
/-- its members put in, one after the other -/
theorem fill_set {l : Addr} {items : Array Value} {ns : List Int} (hh : A.handled = none) (hl : s.heap.IsList l items) (hit : IntsAre items.toList ns) (hb : ns.length + 1 < scanBound) {R : Result → Shared → Prop}
    (hR : ∀ s2, SetMade w s s.heap.objs.size ns s2 → R (.ok (.ret .none)) s2) :
    codeAny (model P w) A (.builtin "set.update.loop" ⟨[.ref s.heap.objs.size, .ref (s.heap.push (bareSet w)).objs.size], []⟩) R
      { s with heap := (s.heap.push (bareSet w)).push { cls := .type "list_iterator", data := .fields #[.ref l, .int 0 0] } } := by
  have len : items.size = ns.length := by
    have := IntsAre.length hit
    simpa using this
  obtain ⟨ol, hol, _, _, _⟩ := id hl
  have below : l < s.heap.objs.size := Heap.lt_size hol
  have up : (s.heap.push (bareSet w)).objs.size = s.heap.objs.size + 1 := Heap.size_push ..
  have far : l ≠ (s.heap.push (bareSet w)).objs.size := Nat.ne_of_lt (by rw [up]; exact Nat.lt_succ_of_lt below)
  have out : s.heap.objs.size ∉ [(s.heap.push (bareSet w)).objs.size, l] := by
    rw [up]
    simp only [List.mem_cons, List.not_mem_nil, or_false, not_or]
    exact ⟨Nat.ne_of_lt (Nat.lt_succ_self _), Nat.ne_of_gt below⟩
  have vals : ∀ (i : Nat) (v : Value), items[i]? = some v → ∃ k t, ns[i]? = some k ∧ v = .int k t := fun i v hv => by
    have hi : i < ns.length := by
      have := (Array.getElem?_eq_some_iff.mp hv).1
      omega
    obtain ⟨t, e⟩ := PyProof.Rows.IntsAre.int_at hit i v (by simpa using hv)
    refine ⟨ns[i], t, List.getElem?_eq_getElem hi, ?_⟩
    rw [e, List.getD_eq_getElem?_getD, List.getElem?_eq_getElem hi] <;> rfl
  have hA : A.in1.handled = none := by simp [hh]
  have st0 : ∃ c, c ≤ 0 ∧ SetR w ((s.heap.push (bareSet w)).push { cls := .type "list_iterator", data := .fields #[.ref l, .int 0 0] }) s.heap.objs.size (fun j => decide (j ∈ ns.take 0)) c :=
    ⟨0, Nat.le_refl 0, setR_new_at (Heap.get?_push_of_some _ (Heap.get?_push_size _ rfl))⟩
  have fin : ∀ (s' : Shared) (c : Nat), Moved [s.heap.objs.size, (s.heap.push (bareSet w)).objs.size] (fun g g' => g' = g) { s with heap := (s.heap.push (bareSet w)).push { cls := .type "list_iterator", data := .fields #[.ref l, .int 0 0] } } s' →
      c ≤ items.size → SetR w s'.heap s.heap.objs.size (fun j => decide (j ∈ ns)) c → R (.ok (.ret .none)) s' := by
    intro s' c hm hc hS
    obtain ⟨h', g', d', tk', os'⟩ := s'
    obtain rfl : g' = s.gens := hm.gens
    obtain rfl : d' = s.drawn := hm.drawn
    obtain rfl : os' = s.os := hm.os
    refine hR _ ⟨h', tk', c, rfl, hS, by omega, fun b o e => ?_⟩
    have lt := Heap.lt_size e
    refine hm.heap b o ?_ (Heap.get?_push_of_some _ (Heap.get?_push_of_some _ e))
    simp only [List.mem_cons, List.not_mem_nil, or_false, not_or]
    exact ⟨Nat.ne_of_lt lt, Nat.ne_of_lt (by rw [up]; exact Nat.lt_succ_of_lt lt)⟩
  exact set_update_ints ((Walks.list hA _ l far items).toS) s.heap.objs.size out ns len hb vals (items.size - 0) 0 _ (by omega) (Nat.zero_le _) ⟨⟨_, Heap.get?_push_size _ rfl, rfl, rfl⟩, (hl.push _).push _⟩ st0 fin
/-- set(l), l a list of ints -/
theorem set_of_list {l : Addr} {items : Array Value} {ns : List Int} {Q : Value → Shared → Prop} (hh : A.handled = none) (hl : s.heap.IsList l items) (hit : IntsAre items.toList ns) (hb : ns.length + 1 < scanBound)
    (hQ : ∀ s2, SetMade w s s.heap.objs.size ns s2 → Q (.ref s.heap.objs.size) s2) : wpAny (model P w) A (call (.type "set") [.ref l]) Q E s := by
  have CS := F.called_set
  obtain ⟨mc, mt, mro⟩ := CS.mro
  have made := CS.made
  have ssub := CS.sub
  have nty := CS.notType
  have can := CS.canCreate
  have chk := F.typeCall_set_1 (.ref l)
  have ini := CS.init.lookup
  have bnd := CS.init.bind (.ref s.heap.objs.size)
  apply wpAny_call
  apply codeAny_of_tree
  show wpAny _ _ (callAny (.type "set") ⟨[.ref l], []⟩) _ _ _
  apply wpAny_pure
  refine ⟨Code.quiet_builtin _ (by decide +kernel), ?_⟩
  apply codeAny_builtin F.entry_type_call
  rw [Around.under_plain (weight_type_call_type "set" [.ref l] []) rfl]
  repeat (any_goals (first | assumption | wp_step))
  refine codeAny_mono (code_set_led1 (.ref l) (E := E) (Q₁ := fun v s1 => v = .ref s.heap.objs.size ∧ s1 = { s with heap := s.heap.push (bareSet w) }) ⟨rfl, rfl⟩) ?_
  intro r s1 h1
  cases r with
  | error e => exact h1
  | ok fl =>
    cases fl <;> first | exact h1.elim | skip
    obtain ⟨rfl, rfl⟩ := h1
    have at0 : (s.heap.push (bareSet w)).get? s.heap.objs.size = some (bareSet w) := Heap.get?_push_size _ rfl
    have ty0 : Shared.TypeIs { s with heap := s.heap.push (bareSet w) } (.ref s.heap.objs.size) "set" := ⟨_, at0, rfl⟩
    repeat (any_goals (first | assumption | wp_step))
    refine codeAny_mono (codeAny_call_builtin (R := wants (fun v s2 => v = .none ∧ SetMade w s s.heap.objs.size ns s2) E) CS.init.plain F.entry_set_init (check_set_init_1 ty0 ?_)) ?_
    · obtain ⟨⟨c0, d0, data0, sl0⟩, hol, hcl, n0, hdl⟩ := hl
      simp only at hcl hdl
      subst hcl hdl
      have hl1 : (s.heap.push (bareSet w)).IsList l items := ⟨_, Heap.get?_push_of_some _ hol, rfl, n0, rfl⟩
      have n1 := F.sub_list_set
      have n2 := F.sub_list_frozenset
      have n3 : (Value.type "list" == Value.type "dict") = false := by decide
      have hol1 := Heap.get?_push_of_some (bareSet w) hol
      unfold Builtin.«set.__init__» noKeywords Builtin.Frozenset.updateFrom
      generalize hp : pyIter = PI
      wp_walk
      subst hp
      refine wpAny_pyIter_list hl1 ?_
      apply wpAny_bind
      apply wpAny_runValue
      refine fill_set (by simp [hh]) ⟨_, hol, rfl, n0, rfl⟩ hit hb fun s2 h2 => ?_
      show wpAny _ _ _ _ _ _
      apply wpAny_pure
      show wpAny _ _ (ret Value.none) _ _ _
      exact wpAny_pure ⟨rfl, h2⟩
    · intro r2 s2 h2
      cases r2 with
      | error e => exact h2
      | ok fl2 =>
        cases fl2 <;> first | exact h2.elim | skip
        obtain ⟨rfl, h3⟩ := h2
        repeat (any_goals (first | assumption | wp_step))
        exact hQ _ h3
/-- sorted(a set of ints), of any size -/
theorem sorted_of_set {a : Addr} {S : Int → Bool} {n : Nat} {Q : Value → Shared → Prop} (R : SetR w s.heap a S n) (hh : A.handled = none)
    (hQ : ∀ (h' : Heap) (g' : Array GenState) (d' : Drawn) (tk : Nat) (p : Addr) (out : List Value) (ns : List Int), (∀ b o, s.heap.get? b = some o → h'.get? b = some o) → g' = s.gens → s.heap.objs.size ≤ p → (∃ c, h'.get? p = some (seqObj "list" out.toArray c)) → IntsAre out ns → ns.Pairwise (· < ·) → (∀ k, k ∈ ns ↔ S k = true) →
      ns.length = n → Q (.ref p) { s with heap := h', gens := g', drawn := d', toks := tk }) : wpAny (model P w) A (call (.builtin "sorted") [.ref a]) Q E s := by
  obtain ⟨o, es, ep, t, ho, ex, hd, good, nd, mem, bound, fits, count, ris, led⟩ := R
  apply Calls.call_function_entry kind_sorted plain_sorted entry_sorted (args_sorted1 _)
  unfold Builtin.«sorted»
  apply wpAny_bind
  apply wpAny_pure
  refine wpAny_bind (collect_set (A := A.in1) hh ⟨o, ho, ex.1, hd⟩ fits bound ris led ?_)
  rintro ⟨h1, g1, d1, t1, o1⟩ vs keep sz hg ho1 perm
  obtain rfl : o1 = s.os := ho1
  have lv : vs.length = n := by rw [perm.length_eq, List.length_map]; simpa using count
  have isI : ∀ v ∈ vs, ∃ k tk, v = Value.int k tk := fun v hv => by
    obtain ⟨e, he, q⟩ := List.mem_map.mp (perm.mem_iff.mp hv)
    obtain ⟨k, tk, e1, _⟩ := good e he
    exact ⟨k, tk, q ▸ e1⟩
  have hI : IntsAre vs (vs.map SrtO.iv) := SrtO.ints_iv isI
  have pk : (vs.map SrtO.iv).Perm (es.toList.map keyOf) := by
    have q := perm.map SrtO.iv
    rw [List.map_map] at q
    rw [show es.toList.map keyOf = es.toList.map (SrtO.iv ∘ fun x => x.2) from List.map_congr_left fun e he => by
      obtain ⟨k, tk, e1, _⟩ := good e he
      show keyOf e = SrtO.iv e.2
      unfold keyOf
      rw [e1] <;> rfl]
    exact q
  have hz : vs.length ≤ sizeLine := by
    have := bound
    unfold scanBound at this
    rw [lv, ← count, sizeLine_eq]
    omega
  refine wpAny_bind (wpAny_newList ?_ hz)
  have hoL : (h1.push (seqObj "list" vs.toArray 0)).get? h1.objs.size = some (seqObj "list" vs.toArray 0) := Heap.get?_push_size _ rfl
  refine wpAny_bind (wpAny_holding (wpAny_call_entry slot_list_sort ⟨_, hoL, rfl⟩ entry_list_sort (SrtO.list_sort_ord SrtO.swo_int hoL hz (fun h2 => SrtO.ints_sortable hI h2) fun out hs hb => ⟨_, rfl, ?_⟩) (args_list_sort _)))
  obtain ⟨k1, k2, k3⟩ := SrtO.ints_out hI hs hb
  apply wpAny_pure
  refine ⟨_, rfl, ?_⟩
  have pn := k2.trans pk
  obtain ⟨c, hc⟩ := sortedHeap_at (vs := vs) (out := out.toArray) hoL
  refine hQ _ g1 d1 _ h1.objs.size out _ (fun b u e => ?_) hg sz ⟨c, hc⟩ k1 (lt_of_le_nodup _ k3 (pn.nodup_iff.mpr nd)) (fun k => by rw [pn.mem_iff, ← mem k]) ?_
  · have q := keep b u e
    have lt := Heap.lt_size q
    show (sortedHeap (h1.push (seqObj "list" vs.toArray 0)) h1.objs.size vs out.toArray).get? b = some u
    rw [sortedHeap_old (Nat.ne_of_lt lt) (by rw [size_push']; exact Nat.lt_succ_of_lt lt)]
    exact Heap.get?_push_of_some _ q
  · rw [pn.length_eq, List.length_map]
    simpa using count
end
/-! ### the rules -/
section
variable {X : Cx}
def rSetL (K : PySem.W.Frag) (w : World) : List V → Hp → VK → Prop := fun xs H Q => ∃ (l : Addr) (ns : List Int), xs = [.ref l] ∧ SqL K H l (ns.map V.int) ∧ ns.length ≤ 4000 ∧
  ∀ p n, H p = none → n ≤ ns.length → Q (.ref p) (upd H p (SetO w p (fun j => decide (j ∈ ns)) n))
theorem cr_setL (hc : X.calm = true) : CallR X (.type "set") (rSetL X.K X.w) := by
  intro pins s σ H xs us Q I r h
  obtain ⟨l, ns, rfl, hs, hl, q⟩ := h
  rw [Vals.ref1 r]
  obtain ⟨its, rv, hL, hz⟩ := I.list hs
  refine set_of_list (P := X.prog) (I.ok.hd hc) hL.isList (by simpa using rv.ints) (by unfold scanBound; omega) fun s2 h2 => ?_
  obtain ⟨h', tk, c, rfl, R, hcn, kp⟩ := h2
  have hn : H s.heap.objs.size = none := I.hok.fresh (Nat.le_refl _)
  exact ⟨.ref _, upd H s.heap.objs.size (SetO X.w s.heap.objs.size (fun j => decide (j ∈ ns)) c), I.laid (t' := tk) kp (Nat.le_refl _) (setO_new R), rfl, q _ c hn hcn⟩
def rSortedSetW (w : World) : List V → Hp → VK → Prop := fun vs H Q => ∃ (a : Addr) (S : Int → Bool) (n : Nat), vs = [V.ref a] ∧ H a = some (SetO w a S n) ∧ n ≤ 4096 ∧
  ∀ (ns : List Int) (p : Addr), ns.Pairwise (· < ·) → (∀ k : Int, k ∈ ns ↔ S k = true) → ns.length = n → H p = none → Q (.ref p) (upd H p (.lst (ns.map V.int)))
theorem cr_sortedSetW (hc : X.calm = true) : CallR X (.builtin "sorted") (rSortedSetW X.w) := by
  intro pins s σ H vs us Q I r h
  obtain ⟨a, S, n, rfl, ha, hn, q⟩ := h
  rw [Vals.ref1 r]
  refine sorted_of_set (setO_get I ha) (I.ok.hd hc) fun h' g' d' tk p out ns k g hp hg hi hs hm hl => ?_
  have hlen : (ns.map V.int).length ≤ sizeLine := by rw [List.length_map, hl, sizeLine_eq]; omega
  have fr : H p = none := I.hok.fresh hp
  obtain ⟨c, hc'⟩ := hg
  have J : Inv X pins σ (upd H p (.lst (ns.map V.int))) { s with heap := h', gens := g', drawn := d', toks := tk } :=
    I.call (ch := []) (Un.laid k hp fr) (I.hok.laid k hp ⟨hlen, out, c, vals_of_ints hi, hc'⟩) (by rw [g]; exact I.bare) (fun _ z => nomatch z)
  exact ⟨.ref p, _, J, rfl, q ns p hs hm hl fr⟩
/-- sorted(set(a)) of a list of ints -/
def tSortSet (K : PySem.W.Frag) (w : World) (ta : TE) : TE := tCB (rSortedSetW w) (tCons (tCB (rSetL K w) (tCons ta tNil)) tNil)
def dSortSet (a : DE) : DE := fun en cs k => a en cs fun z cs1 => withD cs1 z fun d => ∃ ns : List Int, d = .lst (ns.map D.int) ∧ ns.length ≤ 4000 ∧ ∀ out : List Int, out.Pairwise (· < ·) → (∀ j, j ∈ out ↔ j ∈ ns) → k (.d (.lst (out.map D.int))) cs1
section
variable {a : Expr} {ta : TE} {da : DE} {p p2 q pos : Pos}
theorem q_sortSet (hc : X.calm = true) (hm : X.mg "sorted" = none) (hm2 : X.mg "set" = none) (ha : QE X a ta da) (hg : Gl X "sorted" := by rfl) (hg2 : Gl X "set" := by rfl)
    (he : starEach [a] X.env = (false, eval a X.env) :: starEach [] X.env := by rfl) (he2 : starEach [.Call (.Name "set" p2) [a] [] q] X.env = (false, eval (.Call (.Name "set" p2) [a] [] q) X.env) :: starEach [] X.env := by rfl) :
    QE X (.Call (.Name "sorted" p) [.Call (.Name "set" p2) [a] [] q] [] pos) (tSortSet X.K X.w ta) (dSortSet da) := by
  refine ⟨pe_callB (cr_sortedSetW hc) hg hm (by decide +kernel) (pa_cons (pe_callTy (cr_setL hc) hg2 hm2 PyProof.Rows.boot_set (pa_cons ha.pe pa_nil he) (by decide) (by decide) he rfl) pa_nil he2) (by decide) (by decide) he2 rfl, ?_⟩
  intro σ H S as en cs k Q r ev qq pq
  refine ha.sem.use r ev qq fun z v S1 H1 as1 cs1 e1 r1 v1 q1 => ?_
  obtain ⟨d, l1, ns, rfl, hl, q2⟩ := withD_look q1
  obtain ⟨l, vs, rfl, hH, is⟩ := look_sh r1 v1 l1
  refine ⟨l, ns, rfl, .inl (.inl (by rw [hH, is.ints])), hl, fun p n hp hn => ?_⟩
  have r2 := r1.lay hp (SetO X.w p (fun j => decide (j ∈ ns)) n)
  refine ⟨p, _, n, rfl, upd_same, by omega, fun out p' h1 h2 _ hp' => ?_⟩
  have r3 := r2.lay hp' (.lst (out.map V.int))
  have hS2 := r2.sub.free hp'
  refine pq (.d (.lst (out.map D.int))) _ _ _ as1 cs1 ((e1.trans (r1.ext hp _)).trans (r2.ext hp' _)) r3 ⟨p', _, rfl, upd_same, isL_ints out⟩ (q2 out h1 fun j => by rw [h2]; simp)
end
end
/-! sorted(ints) -/
def sortedID : List D → (D → Prop) → Prop
  | [.lst ds], k => ∃ ns : List Int, ds = ns.map D.int ∧ ∀ out : List Int, out.Perm ns → out.Pairwise (· ≤ ·) → k (.lst (out.map D.int))
  | _, _ => False
theorem c_sortedI {K : PySem.W.Frag} : Cl K (rSortedI K) sortedID := by
  intro S H as cs ds vs k Q r hv h q
  unfold sortedID at h
  split at h
  · obtain ⟨v, rfl, h1⟩ := shL_one hv
    obtain ⟨ns, rfl, h⟩ := h
    obtain ⟨l, us, rfl, hH, is⟩ := h1
    refine ⟨l, ns, rfl, .inl (.inl (by rw [hH, is.ints])), fun out p h1 h2 hp => ?_⟩
    exact q (.lst (out.map D.int)) _ _ _ (Sub.new (r.sub.free hp)) (r.lay hp _) ⟨p, _, rfl, upd_same, isL_ints out⟩ (h out h1 h2)
  · exact h.elim
theorem e_srtI (ds : List D) (k : D → Prop) : sortedID [.lst ds] k = ∃ ns : List Int, ds = ns.map D.int ∧ ∀ out : List Int, out.Perm ns → out.Pairwise (· ≤ ·) → k (.lst (out.map D.int)) := nd rfl
end DL
set_option Elab.async false
set_option linter.all false
set_option maxRecDepth 100000
set_option maxHeartbeats 2000000
set_option autoImplicit false
/-! DLZ: a cell that changes no more becomes data -/
namespace DL
open PySem L2
theorem Rep.frz {K : PySem.W.Frag} {S H : Hp} {as : List Addr} {cs : Cs} (r : Rep K S H as cs) {n : Nat} {a : Addr} {o : HO} (ha : as[n]? = some a) (h1 : H a = some o) (h2 : S a = none) : Rep K (upd S a o) H as (cs.set n (.obj a)) := by
  refine ⟨fun b u e => ?_, by rw [List.length_set]; exact r.len, r.nod, fun m b d e1 e2 => ?_, r.liv⟩
  · by_cases hb : b = a
    · subst hb
      rw [upd_same] at e
      rw [h1]
      exact e
    · rw [upd_ne hb] at e
      exact r.sub b u e
  · by_cases hm : n = m
    · subst hm
      rw [ha] at e1
      cases e1
      have hl : n < cs.length := by rw [← r.len]; exact (List.getElem?_eq_some_iff.mp ha).1
      rw [List.getElem?_set_self hl] at e2
      cases e2
      rfl
    · rw [List.getElem?_set_ne hm] at e2
      have ne : b ≠ a := fun z => by
        subst z
        exact hm (nd_ix r.nod ha e1)
      exact CelAt.mono (Sub.new h2) (fun q => by rw [upd_ne ne]; exact q) rfl (r.cel m b d e1 e2)
def frzOk : D → Bool
  | .lst _ => true
  | .dic _ => true
  | _ => false
def dFrz (i : Nat) (t : DS) : DS := fun E en cs => match en[i]? with
  | some (some (.c n)) => withD cs (.c n) fun d => frzOk d = true ∧ ∀ b, t E (en.set i (some (.d d))) (cs.set n (.obj b))
  | some (some (.d _)) => t E en cs
  | _ => False
theorem qss_frz {X : Cx} {sts : List Stmt} {ts : TS} {t : DS} (i : Nat) (h : QSs X sts ts t) : QSs X sts ts (dFrz i t) := by
  refine ⟨h.pss, ?_⟩
  intro σ H S as en cs D E r e q p
  unfold dFrz at q
  split at q
  · rename_i n hi
    obtain ⟨d, hd, ok, q⟩ := withD_look q
    obtain ⟨v, hv, a, ha, rfl⟩ := e.at_ i _ hi
    have hc : cs[n]? = some d := hd
    have c := r.cel n a d ha hc
    obtain ⟨o, h1, h2, h3⟩ := c.obj (fun b z => by subst z; cases ok)
    have ex : Ext S as (upd S a o) as := Ext.of (Sub.new h2)
    have e2 : EnvOk X.K (upd S a o) as (en.set i (some (.d d))) σ := by
      have e1 := (e.mono ex).set (z := .d d) (v := .ref a) h3 i
      have hs : σ.set i (some (V.ref a)) = σ := by
        refine List.ext_getElem? fun j => ?_
        by_cases hj : i = j
        · subst hj
          have hl := (List.getElem?_eq_some_iff.mp hv).1
          rw [List.getElem?_set_self hl, hv]
        · rw [List.getElem?_set_ne hj]
      rw [hs] at e1
      exact e1
    exact h.sem σ H _ as _ _ D E (r.frz ha h1 h2) e2 (q a) (p.mono ex)
  · exact h.sem σ H S as en cs D E r e q p
  · exact q.elim
theorem e_fz1 (ds : List D) : frzOk (.lst ds) = true := nd rfl
theorem e_fz2 (ds : List (Key × D)) : frzOk (.dic ds) = true := nd rfl
theorem set_snoc0 (cs : Cs) (x y : D) : (cs ++ [x]).set cs.length y = cs ++ [y] := by simp
end DL
namespace DL
open PySem
def cAof (l : List (Str × Addr)) (n : Str) : Addr := (l.lookup n).getD 0
end DL
set_option Elab.async false
set_option linter.all false
set_option maxRecDepth 100000
set_option maxHeartbeats 4000000
set_option autoImplicit false
/-! DLZB: walks over zip and over enumerate of a tuple -/
namespace DL
open PySem PySem.Spec PyProof.Rows L2
/-! ### zip -/
def zipD (ds es : List D) : List D := (ds.zip es).map fun p => D.tup [p.1, p.2]
theorem zipD_len (ds es : List D) : (zipD ds es).length = min ds.length es.length := by unfold zipD; rw [List.length_map, List.length_zip]
theorem zipD_get {ds es : List D} {i : Nat} {x : D} (h : (zipD ds es)[i]? = some x) : ∃ d e, ds[i]? = some d ∧ es[i]? = some e ∧ x = .tup [d, e] := by
  unfold zipD at h
  rw [List.getElem?_map] at h
  cases q : (ds.zip es)[i]? with
  | none => rw [q] at h; cases h
  | some p =>
    rw [q] at h
    obtain ⟨a, b⟩ := List.getElem?_zip_eq_some.mp q
    exact ⟨p.1, p.2, a, b, (Option.some.inj h).symm⟩
def diZip (a b : DE) : DI := fun en cs k => a en cs fun x cs1 => b en cs1 fun y cs2 => match x, y with
  | .d (.lst ds), .d (.lst es) => k (zipD ds es) yes cs2
  | .d (.tup ds), .d (.tup es) => k (zipD ds es) yes cs2
  | _, _ => False
theorem pair_laid {K : PySem.W.Frag} {S H : Hp} {as : List Addr} {cs : Cs} (r : Rep K S H as cs) {T : Addr} {x y : V} {d e : D} (nT : H T = none) (hx : Is K S d x) (hy : Is K S e y) :
    ∃ S', Sub S S' ∧ Rep K S' (upd H T (.tup [x, y])) as cs ∧ Is K S' (.tup [d, e]) (.ref T) := by
  have hn := Sub.new (o := .tup [x, y]) (r.sub.free nT)
  exact ⟨_, hn, r.lay nT _, T, _, rfl, SqT.of upd_same, ⟨_, _, rfl, Is.mono hn _ _ hx, ⟨_, _, rfl, Is.mono hn _ _ hy, rfl⟩⟩⟩
theorem wk_z {K : PySem.W.Frag} {S : Hp} {as : List Addr} {ds es : List D} {a b : Addr} {xs ys : List V} (ha : S a = some (.lst xs)) (hb : S b = some (.lst ys)) (ia : IsL K S ds xs) (ib : IsL K S es ys) : Wk K (Itz K a b) S as (zipD ds es) yes := by
  refine ⟨fun S' H as' cs i e r _ hi => ?_, fun S' H as' cs i d e r _ hi => ?_⟩
  · rw [zipD_len] at hi
    refine ⟨xs, ys, SqL.of (r.sub _ _ (e.sub _ _ ha)), SqL.of (r.sub _ _ (e.sub _ _ hb)), ?_⟩
    rw [ia.len, ib.len]
    omega
  · obtain ⟨d1, d2, h1, h2, rfl⟩ := zipD_get hi
    obtain ⟨v1, hv1, i1⟩ := ia.get h1
    obtain ⟨v2, hv2, i2⟩ := ib.get h2
    have q1 : SqL K H a xs := SqL.of (r.sub _ _ (e.sub _ _ ha))
    have q2 : SqL K H b ys := SqL.of (r.sub _ _ (e.sub _ _ hb))
    refine ⟨⟨xs, ys, v1, v2, q1, q2, hv1, hv2⟩, fun x H' y => ?_⟩
    obtain ⟨T, x1, x2, rfl, nT, rfl, f1, f2⟩ := y
    obtain rfl : v1 = x1 := Option.some.inj (hv1.symm.trans (f1 xs q1))
    obtain rfl : v2 = x2 := Option.some.inj (hv2.symm.trans (f2 ys q2))
    exact pair_laid r nT (Is.mono e.sub _ _ i1) (Is.mono e.sub _ _ i2)
theorem wk_zT {K : PySem.W.Frag} {S : Hp} {as : List Addr} {ds es : List D} {a b : Addr} {xs ys : List V} (ha : SqT K S a xs) (hb : SqT K S b ys) (ia : IsL K S ds xs) (ib : IsL K S es ys) : Wk K (RZ.ItzT K a b) S as (zipD ds es) yes := by
  refine ⟨fun S' H as' cs i e r _ hi => ?_, fun S' H as' cs i d e r _ hi => ?_⟩
  · rw [zipD_len] at hi
    refine ⟨xs, ys, r.sub.t (e.sub.t ha), r.sub.t (e.sub.t hb), ?_⟩
    rw [ia.len, ib.len]
    omega
  · obtain ⟨d1, d2, h1, h2, rfl⟩ := zipD_get hi
    obtain ⟨v1, hv1, i1⟩ := ia.get h1
    obtain ⟨v2, hv2, i2⟩ := ib.get h2
    have q1 : SqT K H a xs := r.sub.t (e.sub.t ha)
    have q2 : SqT K H b ys := r.sub.t (e.sub.t hb)
    refine ⟨⟨xs, ys, v1, v2, q1, q2, hv1, hv2⟩, fun x H' y => ?_⟩
    obtain ⟨T, x1, x2, rfl, nT, rfl, f1, f2⟩ := y
    obtain rfl : v1 = x1 := Option.some.inj (hv1.symm.trans (f1 xs q1))
    obtain rfl : v2 = x2 := Option.some.inj (hv2.symm.trans (f2 ys q2))
    exact pair_laid r nT (Is.mono e.sub _ _ i1) (Is.mono e.sub _ _ i2)
section
variable {X : Cx}
theorem qi_zip {a b : Expr} {elts : List Expr} {kk : Nat} {ta tb : TE} {da db : DE} {p pos tpos : Pos} (hm : X.mg "zip" = none) (ha : QE X a ta da) (hb : QE X b tb db) (hg : Gl X "zip" := by rfl)
    (hs : starEach [a, b] X.env = (false, eval a X.env) :: starEach [b] X.env := by rfl) (hs2 : starEach [b] X.env = (false, eval b X.env) :: starEach [] X.env := by rfl) (hpl : (backTo pos (starEach [b] X.env)).any (·.1) = false := by rfl) :
    QI X (.Tuple elts kk tpos) (.Call (.Name "zip" p) [a, b] [] pos) (RZ.iZipA X.K (tCons ta (tCons tb tNil))) (diZip da db) := by
  refine ⟨RZ.pi_zipA hg hm (pa_cons ha.pe (pa_cons hb.pe pa_nil hs2) hs) hs hpl, fun σ H S as en cs k R r e h p => ?_⟩
  refine ha.sem.use r e h fun z v S1 H1 as1 cs1 e1 r1 v1 q1 => ?_
  refine hb.sem.use r1 (e.mono e1) q1 fun z2 v2 S2 H2 as2 cs2 e2 r2 w2 q2 => ?_
  have w1 := v1.mono e2
  split at q2
  · obtain ⟨x, xs, rfl, hx, ix⟩ := w1
    obtain ⟨y, ys, rfl, hy, iy⟩ := w2
    exact ⟨x, y, xs, ys, rfl, .inl ⟨SqL.of (r2.sub _ _ hx), SqL.of (r2.sub _ _ hy), p _ S2 H2 as2 _ yes cs2 (e1.trans e2) r2 (wk_z hx hy ix iy) q2⟩⟩
  · obtain ⟨x, xs, rfl, hx, ix⟩ := w1
    obtain ⟨y, ys, rfl, hy, iy⟩ := w2
    exact ⟨x, y, xs, ys, rfl, .inr ⟨r2.sub.t hx, r2.sub.t hy, p _ S2 H2 as2 _ yes cs2 (e1.trans e2) r2 (wk_zT hx hy ix iy) q2⟩⟩
  · exact q2.elim
end
/-! ### enumerate of a tuple -/
theorem enumT_end {prog : Program} {w : World} {A : Around} {E : Value → Shared → Prop} {s : Shared} {e it t : Addr} {i : Nat} {items : Array Value} {old : Value} {Q : Option Value → Shared → Prop} (hh : A.handled = none) (he : IsEnum s.heap e it i old) (hit : s.heap.IsTupleIter it t i)
    (ht : s.heap.IsTuple t items) (hx : items[i]? = none) (hQ : ∀ h', Heap.ExtBut it s.heap h' → Q none { s with heap := h' }) : wpAny (model prog w) A (pyNext (.ref e)) Q E s := by
  have ty : s.TypeIs (.ref e) "enumerate" := ⟨_, he, rfl⟩
  unfold pyNext
  apply wpAny_bind
  apply wpAny_attempt
  refine wpAny_callSpecial?_slot (name := Str.ofString "__next__") ty F.slot_enumerate_next ?_
  refine wpAny_call_entry F.slot_enumerate_next ty F.entry_enumerate_next ?_ (F.args_enumerate_next_1 _)
  show wpAny _ _ (field (.ref e) 2 >>= _) _ _ _
  apply wpAny_bind
  refine wpAny_field he rfl (x := .ref it) rfl ?_
  apply wpAny_bind
  refine wpAny_nextOf_tuple_end (by simp [hh]) hit ht hx fun h' y ext hy => ?_
  obtain ⟨o, ho, hc⟩ := hy
  apply wpAny_bind
  refine wpAny_isInstance (T := "StopIteration") (b := true) ⟨o, ho, hc⟩ isSubtype_stop ?_
  exact wpAny_pure (hQ _ ext)
def IteT (K : PySem.W.Frag) (a : Addr) : It :=
  ⟨fun i H => ∃ (xs : List V) (x : V), SqT K H a xs ∧ xs[i]? = some x, fun i H v H' => ∃ T x, v = .ref T ∧ H T = none ∧ H' = upd H T (.tup [.int (i : Nat), x]) ∧ ∀ xs, SqT K H a xs → xs[i]? = some x, fun i H => ∃ xs : List V, SqT K H a xs ∧ xs.length ≤ i⟩
theorem tup_inj {X : Cx} {pins : List (Addr × Obj)} {σ : L2.St} {H : Hp} {s : Shared} (I : Inv X pins σ H s) {a : Addr} {xs ys : List V} (h1 : SqT X.K H a xs) (h2 : SqT X.K H a ys) : xs = ys := I.tuple_inj h1 h2
theorem turn_enumT {P : Program} {w : World} {K : PySem.W.Frag} {elts : List Expr} {kk : Nat} {tpos : Pos} (a e it : Addr) (hai : a ≠ it) :
    Turn P w K (.Tuple elts kk tpos) (IteT K a) [e, it] e (fun i h => (∃ old, IsEnum h e it ((i : Nat) : Int) old) ∧ h.IsTupleIter it a i ∧ e ≠ it ∧ e ≠ a) where
  mem := List.mem_cons_self
  obj := fun i h st b hb => by
    obtain ⟨⟨old, he⟩, ⟨o, ho, hc, hd⟩, _⟩ := st
    rcases List.mem_cons.mp hb with rfl | hb
    · exact ⟨_, he, fun v q => nomatch q⟩
    · obtain rfl := List.mem_singleton.mp hb
      exact ⟨o, ho, fun v q => by rw [hd] at q; cases q⟩
  keep := fun i h h' st k => by
    obtain ⟨⟨old, he⟩, hi, h1, h2⟩ := st
    exact ⟨⟨old, k e (by simp) _ he⟩, hi.at fun o q => k it (by simp) o q, h1, h2⟩
  item := by
    intro X hP hw hK hc i pins s σ H E I hf st hg
    subst hP hw hK
    obtain ⟨⟨old, he⟩, hit, hne, hea⟩ := st
    obtain ⟨xs, x, hq, hx⟩ := hg
    obtain ⟨its, rv, p, hz⟩ := I.tuple hq
    obtain ⟨u, hu, ru⟩ := rv.get hx
    have hel : e < s.heap.objs.size := Heap.lt_size he
    have hil : it < s.heap.objs.size := by
      obtain ⟨_, q, _⟩ := hit
      exact Heap.lt_size q
    have hi : i < its.length := (List.getElem?_eq_some_iff.mp hu).1
    have D := Draws.tuple (prog := X.prog) (w := X.w) (A := X.A.in1) (by simp [I.ok.hd hc]) it a hai its.toArray
    refine wpAny_pyNext_enum_itemD D he ⟨hit, p⟩ (by simpa using hi) hne (by simp [hne, hea]) fun x' h' tk hp ho st' hT hsz hk => ?_
    obtain rfl : x' = u := by
      have : its[i]? = some x' := by simpa using hp
      exact Option.some.inj (this.symm.trans hu)
    refine ⟨_, rfl, wpAny_letOwnedTupleGo_enum (s := { s with heap := h', toks := tk + 1 }) ho fun h'' he' sb => ?_⟩
    have hT2 : h''.get? s.heap.objs.size = some { cls := .type "tuple", data := .seq #[.int i tk, x'] } := (sb.2 _ (Nat.ne_of_gt hel)).trans hT
    have new : ObjOk X.prog X.w (upd H s.heap.objs.size (.tup [.int (i : Nat), x])) h'' s.heap.objs.size (.tup [.int (i : Nat), x]) :=
      ⟨by show 2 ≤ sizeLine; decide, [.int i tk, x'], .cons ⟨_, rfl⟩ (.cons ru .nil), ⟨_, hT2, rfl, _, rfl⟩⟩
    have I1 : Inv X pins σ (upd H s.heap.objs.size (.tup [.int (i : Nat), x])) { s with heap := h'', toks := tk + 1 } :=
      I.turnedNew (ch := [e, it]) (fun b ob hb q => by
        have b1 : b ≠ e := fun z => hb (by simp [z])
        have b2 : b ≠ it := fun z => hb (by simp [z])
        exact (sb.2 b b1).trans (hk b ob b1 b2 q)) hf (Nat.le_refl _) new
    refine ⟨.ref s.heap.objs.size, _, I1, rfl, ⟨_, x, rfl, I.hok.fresh (Nat.le_refl _), rfl, fun ys hy => by rw [tup_inj I hy hq]; exact hx⟩, ⟨⟨x', ?_⟩, st'.1.at fun o q => (sb.2 it (Ne.symm hne)).trans q, hne, hea⟩, fun b hb => ?_⟩
    · rw [show ((i + 1 : Nat) : Int) = (i : Int) + 1 by omega]
      exact he'
    · have lt : b < s.heap.objs.size := by
        rcases List.mem_cons.mp hb with rfl | hb'
        · exact hel
        · obtain rfl := List.mem_singleton.mp hb'
          exact hil
      rw [upd_ne (Nat.ne_of_lt lt)]
      exact (hf b hb).1
  done := by
    intro X hP hw hK hc i pins s σ H E I hf st hg
    subst hP hw hK
    obtain ⟨⟨old, he⟩, hit, hne, hea⟩ := st
    obtain ⟨xs, hq, hx⟩ := hg
    obtain ⟨its, rv, p, hz⟩ := I.tuple hq
    obtain ⟨f0, f1, f2, f3, f4, f5⟩ := hf it (by simp)
    have hl := rv.length
    refine enumT_end (I.ok.hd hc) he hit (show s.heap.IsTuple a its.toArray from p) (by simp; omega) fun h' eb => ?_
    exact ⟨rfl, I.turned (t' := s.toks) (fun b o hb q => eb b o hb q) f0 f1 f3 f4 f5⟩
  self := fun A i s Q E st h => let ⟨⟨_, he⟩, _⟩ := st; wpAny_pyIter_enum he h
section
variable {prog : Program} {w : World} {A : Around} {E : Value → Shared → Prop} {s : Shared}
/-- enumerate(t), t a tuple -/
theorem enumT_new (l : Addr) (items : Array Value) (n : Nat) (dct : Option Addr) (sl : Array (Option Value)) :
    Meets (Builtin.«enumerate.__new__» ⟨[.type "enumerate", .ref l], []⟩) (fun _ R s => s.heap.get? l = some ⟨.type "tuple", dct, .seq items n, sl⟩ ∧
      R (.ok (.ret (.ref (s.heap.push { cls := .type "tuple_iterator", data := .fields #[.ref l, .int 0 0] }).objs.size)))
        { s with heap := (s.heap.push { cls := .type "tuple_iterator", data := .fields #[.ref l, .int 0 0] }).push { cls := .type "enumerate", data := .fields #[.none, .bool false, .ref s.heap.objs.size, rawInt 0, .none, .none] } }) := by
  refine .of_wp fun prog w A R s h => ?_
  obtain ⟨hp, g, d, tk, os⟩ := s
  obtain ⟨hl, h⟩ := h
  have sb := sub_enumerate
  have tp : Heap.IsTuple (Shared.heap ⟨hp, g, d, tk, os⟩) l items := ⟨_, hl, rfl, n, rfl⟩
  wp_walk using wpAny_loadPart' hl
  refine wpAny_stack_any fun st => wpAny_pure ?_
  split
  · rename_i c _ _ _ _ _
    cases (c == Value.type "enumerate") <;>
    · wp_walk using wpAny_loadPart' hl, wpAny_pyIter_tuple tp
      exact ⟨_, rfl, h⟩
  · wp_walk using wpAny_loadPart' hl, wpAny_pyIter_tuple tp
    exact ⟨_, rfl, h⟩
theorem call_enumT {l : Addr} {items : Array Value} {Q : Value → Shared → Prop} (hL : s.heap.IsTuple l items)
    (h : ∀ h', IsEnum h' (s.heap.objs.size + 1) s.heap.objs.size 0 .none → h'.IsTupleIter s.heap.objs.size l 0 → (∀ b o, s.heap.get? b = some o → h'.get? b = some o) → Q (.ref (s.heap.objs.size + 1)) { s with heap := h' }) :
    wpAny (model prog w) A (call (.type "enumerate") [.ref l]) Q E s := by
  obtain ⟨⟨c, dct, dt, sl⟩, hl, hc, n, hd⟩ := hL
  simp only at hc hd
  subst hc hd
  have hz : (s.heap.push { cls := .type "tuple_iterator", data := .fields #[.ref l, .int 0 0] }).objs.size = s.heap.objs.size + 1 := Heap.size_push ..
  refine callType_new F.called_enumerate (by decide) (F.typeCall_enumerate_1 _) (F.newCall_enumerate_1 _) (fun obj => F.args_object_init_2 obj _) F.entry_enumerate_new (enumT_new l items n dct sl) ⟨hl, ?_⟩
  show _ ∧ _
  rw [hz]
  have made := Heap.get?_push_size (s.heap.push { cls := .type "tuple_iterator", data := .fields #[.ref l, .int 0 0] }) (o := { cls := .type "enumerate", data := .fields #[.none, .bool false, .ref s.heap.objs.size, rawInt 0, .none, .none] }) rfl
  rw [hz] at made
  exact ⟨⟨_, made, rfl⟩, h _ made ⟨_, Heap.get?_push_of_some _ (Heap.get?_push_size _ rfl), rfl, rfl⟩ fun b o x => Heap.get?_push_of_some _ (Heap.get?_push_of_some _ x)⟩
end
def iEnumU (K : PySem.W.Frag) (ta : TA) : TI := fun σ H R => ta σ H fun vs H1 => ∃ a, vs = [.ref a] ∧ ((∃ xs, SqL K H1 a xs ∧ R (Ite K a) H1) ∨ ∃ xs, SqT K H1 a xs ∧ R (IteT K a) H1)
theorem pi_enumU {X : Cx} {e : Expr} {ta : TA} {p pos tpos : Pos} {elts : List Expr} {kk : Nat} (hg : Gl X "enumerate") (hm : X.mg "enumerate" = none) (ha : PA X [e] ta) (hs : starEach [e] X.env = [(false, eval e X.env)] := by rfl) :
    PI X (.Tuple elts kk tpos) (.Call (.Name "enumerate" p) [e] [] pos) (iEnumU X.K ta) := by
  refine ⟨fun pins s σ H R I h => ?_⟩
  refine Call_ (ld_blt I hg hm boot_enumerate (PyProof.Rows.callWith_type1 (thn (ha.run pos pins s σ H _ I h) fun us s1 ⟨vs, H1, I1, r1, a, ex, hq⟩ => ?_) hs rfl))
  subst ex
  rw [Vals.ref1 r1]
  have fp : ∀ b, b ∈ [s1.heap.objs.size + 1, s1.heap.objs.size] → FpOk X pins H1 b := fun b hb => by
    have le : s1.heap.objs.size ≤ b := by
      rcases List.mem_cons.mp hb with rfl | hb'
      · exact Nat.le_succ _
      · rw [List.mem_singleton.mp hb']
        exact Nat.le_refl _
    exact I1.fpOk le (I1.hok.fresh le)
  rcases hq with ⟨xs, hq, q⟩ | ⟨xs, hq, q⟩
  · obtain ⟨its, rv, tp, hz⟩ := I1.list hq
    refine call_enumerate_list tp.isList fun h' he hit hsz hk => wpAny_pyIter_enum he ?_
    have I2 : Inv X pins σ H1 { s1 with heap := h' } := I1.kept (t' := s1.toks) hk
    exact ⟨s1.heap.objs.size + 1, [s1.heap.objs.size + 1, s1.heap.objs.size], _, _, H1, rfl, I2, turn_enum a (s1.heap.objs.size + 1) s1.heap.objs.size, ⟨⟨.none, he⟩, hit, Nat.succ_ne_self _⟩, fp, q⟩
  · obtain ⟨its, rv, tp, hz⟩ := I1.tuple hq
    have lt : a < s1.heap.objs.size := by
      obtain ⟨o, ho, _⟩ := tp
      exact Heap.lt_size ho
    refine call_enumT (show s1.heap.IsTuple a its.toArray from tp) fun h' he hit hk => wpAny_pyIter_enum he ?_
    have I2 : Inv X pins σ H1 { s1 with heap := h' } := I1.kept (t' := s1.toks) hk
    exact ⟨s1.heap.objs.size + 1, [s1.heap.objs.size + 1, s1.heap.objs.size], _, _, H1, rfl, I2, turn_enumT a (s1.heap.objs.size + 1) s1.heap.objs.size (Nat.ne_of_lt lt), ⟨⟨.none, he⟩, hit, Nat.succ_ne_self _, Nat.ne_of_gt (Nat.lt_succ_of_lt lt)⟩, fp, q⟩
theorem wk_eT {K : PySem.W.Frag} {S : Hp} {as : List Addr} {ds : List D} {a : Addr} {vs : List V} (h : SqT K S a vs) (is : IsL K S ds vs) : Wk K (IteT K a) S as (enumD ds) yes := by
  refine ⟨fun S' H as' cs i e r _ hi => ?_, fun S' H as' cs i d e r _ hi => ?_⟩
  · rw [enumD_len] at hi
    exact ⟨vs, r.sub.t (e.sub.t h), by rw [is.len]; exact hi⟩
  · obtain ⟨d', hd, rfl⟩ := enumD_get hi
    obtain ⟨v, hv, iv⟩ := is.get hd
    have q : SqT K H a vs := r.sub.t (e.sub.t h)
    refine ⟨⟨vs, v, q, hv⟩, fun x H' y => ?_⟩
    obtain ⟨T, x', rfl, nT, rfl, f⟩ := y
    obtain rfl : v = x' := Option.some.inj (hv.symm.trans (f vs q))
    exact pair_laid r nT rfl (Is.mono e.sub _ _ iv)
def diEnumU (a : DE) : DI := fun en cs k => a en cs fun z cs1 => match z with
  | .d (.tup ds) => k (enumD ds) yes cs1
  | z => seqD cs1 z fun ds keep => k (enumD ds) keep cs1
theorem qi_enumU {X : Cx} {a : Expr} {elts : List Expr} {kk : Nat} {ta : TE} {da : DE} {p tpos pos : Pos} (hm : X.mg "enumerate" = none) (ha : QE X a ta da) (hg : Gl X "enumerate" := by rfl) (hs : starEach [a] X.env = [(false, eval a X.env)] := by rfl) :
    QI X (.Tuple elts kk tpos) (.Call (.Name "enumerate" p) [a] [] pos) (iEnumU X.K (tCons ta tNil)) (diEnumU da) := by
  refine ⟨pi_enumU hg hm (pa_cons ha.pe pa_nil hs) hs, fun σ H S as en cs k R r e h p => ?_⟩
  refine ha.sem.use r e h fun z v S1 H1 as1 cs1 e1 r1 v1 q1 => ?_
  cases z with
  | d x =>
    cases x with
    | tup ds =>
      obtain ⟨a, vs, rfl, hs, is⟩ := v1
      exact ⟨a, rfl, .inr ⟨vs, r1.sub.t hs, p _ S1 H1 as1 _ yes cs1 e1 r1 (wk_eT hs is) q1⟩⟩
    | lst ds =>
      obtain ⟨a, vs, rfl, hs, is⟩ := v1
      exact ⟨a, rfl, .inl ⟨vs, SqL.of (r1.sub _ _ hs), p _ S1 H1 as1 _ yes cs1 e1 r1 (wk_e fun S' H as' cs e r _ => ⟨vs, SqL.of (r.sub _ _ (e.sub _ _ hs)), IsL.mono e.sub _ _ is⟩) q1⟩⟩
    | scr ns =>
      obtain ⟨a, rfl, hs⟩ := v1
      exact ⟨a, rfl, .inl ⟨_, r1.sub.l hs, p _ S1 H1 as1 _ yes cs1 e1 r1 (wk_e fun S' H as' cs e r _ => ⟨_, r.sub.l (e.sub.l hs), isL_ints _⟩) q1⟩⟩
    | _ => exact q1.elim
  | c n =>
    obtain ⟨a, ha, rfl⟩ := v1
    have q1' : (match cs1[n]? with
      | some (.lst ds) => k (enumD ds) (fun c => c[n]? = some (.lst ds)) cs1
      | _ => False) := q1
    split at q1'
    · rename_i ds hc
      obtain ⟨hS, vs, hl, is⟩ := r1.cell_lst ha hc
      refine ⟨a, rfl, .inl ⟨vs, SqL.of hl, p _ S1 H1 as1 _ _ cs1 e1 r1 (wk_e fun S' H as' cs e r kp => ?_) q1'⟩⟩
      obtain ⟨_, vs', hl', is'⟩ := r.cell_lst (e.get ha) kp
      exact ⟨vs', SqL.of hl', is'⟩
    · exact q1'.elim
end DL
set_option Elab.async false
set_option linter.all false
set_option maxRecDepth 100000
set_option maxHeartbeats 2000000
set_option autoImplicit false
/-! DLU2: the readings' definitions as rewrite rows with proofs of their own: what simp does by them the kernel need not find again -/
namespace DL
open PySem L2
def vK (o : Option (Option Z)) (k : Z → Prop) : Prop := match o with
  | some (some z) => k z
  | _ => False
theorem n_vK (z : Z) (k : Z → Prop) : vK (some (some z)) k = k z := nd rfl
theorem u_dVar (i : Nat) (en : En) (cs : Cs) (k : Z → Cs → Prop) : dVar i en cs k = vK en[i]? fun z => k z cs := nd rfl
theorem u_dC (x : D) (b0 : En) (cs : Cs) (k : Z → Cs → Prop) : dC x b0 cs k = (k (.d x) cs) := nd rfl
theorem u_dOp (f : D → D → (D → Prop) → Prop) (a b : DE) (en : En) (cs : Cs) (k : Z → Cs → Prop) : dOp f a b en cs k = (a en cs fun x cs1 => b en cs1 fun y cs2 => withD cs2 x fun dx => withD cs2 y fun dy => f dx dy fun z => k (.d z) cs2) := nd rfl
theorem u_dChain (f g : D → D → (D → Prop) → Prop) (a b c : DE) (en : En) (cs : Cs) (k : Z → Cs → Prop) : dChain f g a b c en cs k = (a en cs fun x cs1 => b en cs1 fun y cs2 => withD cs2 x fun dx => withD cs2 y fun dy => f dx dy fun z => ∃ q, z = .bl q ∧
  if q = true then c en cs2 fun w cs3 => withD cs3 y fun dy => withD cs3 w fun dw => g dy dw fun z => k (.d z) cs3 else k (.d (.bl false)) cs2) := nd rfl
theorem u_dUn (f : D → (D → Prop) → Prop) (a : DE) (en : En) (cs : Cs) (k : Z → Cs → Prop) : dUn f a en cs k = (a en cs fun x cs1 => withD cs1 x fun dx => f dx fun z => k (.d z) cs1) := nd rfl
theorem u_dB (a : DE) (en : En) (cs : Cs) (k : Bool → Cs → Prop) : dB a en cs k = (a en cs fun x cs1 => ∃ b, x = .d (.bl b) ∧ k b cs1) := nd rfl
theorem u_dNot (t : DT) (en : En) (cs : Cs) (k : Bool → Cs → Prop) : dNot t en cs k = (t en cs fun b cs1 => k (!b) cs1) := nd rfl
theorem u_dAnd (t u : DT) (en : En) (cs : Cs) (k : Bool → Cs → Prop) : dAnd t u en cs k = (t en cs fun b cs1 => if b = true then u en cs1 k else k false cs1) := nd rfl
theorem u_dOr (t u : DT) (en : En) (cs : Cs) (k : Bool → Cs → Prop) : dOr t u en cs k = (t en cs fun b cs1 => if b = true then k true cs1 else u en cs1 k) := nd rfl
theorem u_dAndV (a b : DE) (en : En) (cs : Cs) (k : Z → Cs → Prop) : dAndV a b en cs k = (a en cs fun x cs1 => ∃ c, x = .d (.bl c) ∧ if c = true then b en cs1 k else k (.d (.bl false)) cs1) := nd rfl
theorem u_dOrV (a b : DE) (en : En) (cs : Cs) (k : Z → Cs → Prop) : dOrV a b en cs k = (a en cs fun x cs1 => ∃ c, x = .d (.bl c) ∧ if c = true then k (.d (.bl true)) cs1 else b en cs1 k) := nd rfl
theorem u_dNotV (a : DE) (en : En) (cs : Cs) (k : Z → Cs → Prop) : dNotV a en cs k = (a en cs fun x cs1 => ∃ c, x = .d (.bl c) ∧ k (.d (.bl (!c))) cs1) := nd rfl
theorem u_dIf (t : DT) (a b : DE) (en : En) (cs : Cs) (k : Z → Cs → Prop) : dIf t a b en cs k = (t en cs fun c cs1 => if c = true then a en cs1 k else b en cs1 k) := nd rfl
theorem u_dNil (b0 : En) (cs : Cs) (k : List Z → Cs → Prop) : dNil  b0 cs k = (k [] cs) := nd rfl
theorem u_dCons (a : DE) (r : DA) (en : En) (cs : Cs) (k : List Z → Cs → Prop) : dCons a r en cs k = (a en cs fun x cs1 => r en cs1 fun xs cs2 => k (x :: xs) cs2) := nd rfl
theorem u_dTup (a : DA) (en : En) (cs : Cs) (k : Z → Cs → Prop) : dTup a en cs k = (a en cs fun zs cs1 => datL zs fun ds => ds.length ≤ LIM ∧ k (.d (.tup ds)) cs1) := nd rfl
theorem u_dLst (a : DA) (en : En) (cs : Cs) (k : Z → Cs → Prop) : dLst a en cs k = (a en cs fun zs cs1 => datL zs fun ds => ds.length ≤ LIM ∧ k (.d (.lst ds)) cs1) := nd rfl
theorem u_dLstC (a : DA) (en : En) (cs : Cs) (k : Z → Cs → Prop) : dLstC a en cs k = (a en cs fun zs cs1 => datL zs fun ds => ds.length ≤ LIM ∧ k (.c cs1.length) (cs1 ++ [.lst ds])) := nd rfl
theorem u_dCB (f : List D → (D → Prop) → Prop) (a : DA) (en : En) (cs : Cs) (k : Z → Cs → Prop) : dCB f a en cs k = (a en cs fun zs cs1 => withL cs1 zs fun ds => f ds fun z => k (.d z) cs1) := nd rfl
theorem u_dInK (neg : Bool) (a b : DE) (en : En) (cs : Cs) (k : Z → Cs → Prop) : dInK neg a b en cs k = (a en cs fun x cs1 => b en cs1 fun y cs2 => withD cs2 x fun dx => withD cs2 y fun dy =>
  match dy with
  | .dic kvs => keyD dx fun key => k (.d (.bl (if neg = true then !(getK kvs key).isSome else (getK kvs key).isSome))) cs2
  | _ => False) := nd rfl
theorem u_dGetK (a b : DE) (en : En) (cs : Cs) (k : Z → Cs → Prop) : dGetK a b en cs k = (a en cs fun x cs1 => b en cs1 fun y cs2 => withD cs2 x fun dx => withD cs2 y fun dy =>
  match dx with
  | .dic kvs => keyD dy fun key => match getK kvs key with
    | some d => k (.d d) cs2
    | none => False
  | _ => False) := nd rfl
theorem u_dDicC (b0 : En) (cs : Cs) (k : Z → Cs → Prop) : dDicC  b0 cs k = (k (.c cs.length) (cs ++ [.dic []])) := nd rfl
theorem u_dNoPart (b0 : En) (cs : Cs) (k : Option Int → Cs → Prop) : dNoPart  b0 cs k = (k none cs) := nd rfl
theorem u_dPart (a : DE) (en : En) (cs : Cs) (k : Option Int → Cs → Prop) : dPart a en cs k = (a en cs fun z cs1 => ∃ i, z = .d (.int i) ∧ k (some i) cs1) := nd rfl
theorem u_dSl (a : DE) (lo hi : DO) (en : En) (cs : Cs) (k : Z → Cs → Prop) : dSl a lo hi en cs k = (a en cs fun x cs1 => lo en cs1 fun l cs2 => hi en cs2 fun h cs3 => withD cs3 x fun dx => sliceD dx l h fun z => k (.d z) cs3) := nd rfl
theorem u_dBits (a : DE) (en : En) (cs : Cs) (k : Z → Cs → Prop) : dBits a en cs k = (a en cs fun z cs1 => ∃ i, z = .d (.int i) ∧ k (.d (.int (Builtin.Int.intBits i : Nat))) cs1) := nd rfl
theorem u_dgName (i : Nat) (z : Z) (en : En) (cs : Cs) (k : En → Cs → Prop) : dgName i z en cs k = (k (en.set i (some z)) cs) := nd rfl
theorem u_dgsNil (ds : List D) (en : En) (cs : Cs) (k : En → Cs → Prop) : dgsNil  ds en cs k = (ds = [] ∧ k en cs) := nd rfl
theorem u_dgsCons (g : DG) (r : DGs) (ds : List D) (en : En) (cs : Cs) (k : En → Cs → Prop) : dgsCons g r ds en cs k = (match ds with
  | d :: ds => g (.d d) en cs fun en1 cs1 => r ds en1 cs1 k
  | [] => False) := nd rfl
theorem u_dgTup (n : Nat) (g : DGs) (z : Z) (en : En) (cs : Cs) (k : En → Cs → Prop) : dgTup n g z en cs k = (match z with
  | .d (.tup ds) => ds.length = n ∧ g ds en cs k
  | _ => False) := nd rfl
theorem u_dgSet (o i : DE) (z : Z) (en : En) (cs : Cs) (k : En → Cs → Prop) : dgSet o i z en cs k = (o en cs fun x cs1 => i en cs1 fun y cs2 => match x, y, z with
  | .c n, .d (.int j), .d d => match cs2[n]? with
    | some (.lst ds) => ∃ m, ixN ds.length j = some m ∧ k en (cs2.set n (.lst (ds.set m d)))
    | _ => False
  | _, _, _ => False) := nd rfl
theorem u_diSeq (a : DE) (en : En) (cs : Cs) (k : List D → (Cs → Prop) → Cs → Prop) : diSeq a en cs k = (a en cs fun z cs1 => seqD cs1 z fun ds keep => k ds keep cs1) := nd rfl
theorem u_diR1 (a : DE) (en : En) (cs : Cs) (k : List D → (Cs → Prop) → Cs → Prop) : diR1 a en cs k = (a en cs fun z cs1 => ∃ j, z = .d (.int j) ∧ Rg j ∧ k (rgD 0 j.toNat) yes cs1) := nd rfl
theorem u_diEnum (a : DE) (en : En) (cs : Cs) (k : List D → (Cs → Prop) → Cs → Prop) : diEnum a en cs k = (a en cs fun z cs1 => match z with
  | .d (.tup _) => False
  | z => seqD cs1 z fun ds keep => k (enumD ds) keep cs1) := nd rfl
theorem u_dYes (b0 : En) (cs : Cs) (k : Bool → Cs → Prop) : dYes  b0 cs k = (k true cs) := nd rfl
theorem u_dNext (D0 : DEnds) (en : En) (cs : Cs) : dNext  D0 en cs = (D0.nx en cs) := nd rfl
theorem u_dSeq (t u : DS) (D0 : DEnds) (en : En) (cs : Cs) : dSeq t u D0 en cs = (t { D0 with nx := u D0 } en cs) := nd rfl
theorem u_dBreak (D0 : DEnds) (en : En) (cs : Cs) : dBreak  D0 en cs = (D0.bk en cs) := nd rfl
theorem u_dCont (D0 : DEnds) (en : En) (cs : Cs) : dCont  D0 en cs = (D0.ct en cs) := nd rfl
theorem u_dDrop (a : DE) (D0 : DEnds) (en : En) (cs : Cs) : dDrop a D0 en cs = (a en cs fun _ cs1 => D0.nx en cs1) := nd rfl
theorem u_dRet (a : DE) (D0 : DEnds) (en : En) (cs : Cs) : dRet a D0 en cs = (a en cs D0.rt) := nd rfl
theorem u_dRetN (D0 : DEnds) (b1 : En) (cs : Cs) : dRetN  D0 b1 cs = (D0.rt (.d .non) cs) := nd rfl
theorem u_dIfS (c : DT) (t u : DS) (D0 : DEnds) (en : En) (cs : Cs) : dIfS c t u D0 en cs = (c en cs fun b cs1 => if b = true then t D0 en cs1 else u D0 en cs1) := nd rfl
theorem u_dNever (b0 : DEnds) (b1 : En) (b2 : Cs) : dNever  b0 b1 b2 = (False) := nd rfl
theorem u_dAsg (a : DE) (g : DG) (D0 : DEnds) (en : En) (cs : Cs) : dAsg a g D0 en cs = (a en cs fun z cs1 => g z en cs1 D0.nx) := nd rfl
theorem u_dPar (i j : Nat) (a : DA) (D0 : DEnds) (en : En) (cs : Cs) : dPar i j a D0 en cs = (a en cs fun zs cs1 => match zs with
  | [z, w] => D0.nx ((en.set i (some z)).set j (some w)) cs1
  | _ => False) := nd rfl
theorem u_dPutK (a b c : DE) (D0 : DEnds) (en : En) (cs : Cs) : dPutK a b c D0 en cs = (c en cs fun z cs1 => a en cs1 fun x cs2 => b en cs2 fun y cs3 => match x, y, z with
  | .c n, .d dy, .d dz => (match cs3[n]? with
    | some (.dic kvs) => keyD dy fun key => kvs.length < LIM ∧ D0.nx en (cs3.set n (.dic (setK kvs key dz)))
    | _ => False)
  | _, _, _ => False) := nd rfl
theorem u_dAppend (o v : DE) (en : En) (cs : Cs) (k : Z → Cs → Prop) : dAppend o v en cs k = (o en cs fun x cs1 => match x with
  | .c n => (match cs1[n]? with
    | some (.lst _) => v en cs1 fun y cs2 => (match y with
      | .d d => (match cs2[n]? with
        | some (.lst ds) => ds.length < LIM ∧ k (.d .non) (cs2.set n (.lst (ds ++ [d])))
        | _ => False)
      | _ => False)
    | _ => False)
  | _ => False) := nd rfl
theorem u_dExtend (o v : DE) (en : En) (cs : Cs) (k : Z → Cs → Prop) : dExtend o v en cs k = (o en cs fun x cs1 => match x with
  | .c n => (match cs1[n]? with
    | some (.lst _) => v en cs1 fun y cs2 => withD cs2 y fun dy => (match dy with
      | .lst es => (match cs2[n]? with
        | some (.lst ds) => ds.length + es.length < LIM ∧ k (.d .non) (cs2.set n (.lst (ds ++ es)))
        | _ => False)
      | _ => False)
    | _ => False)
  | _ => False) := nd rfl
theorem u_dCall (sp : DSpec) (a : DA) (en : En) (cs : Cs) (k : Z → Cs → Prop) : dCall sp a en cs k = (a en cs fun zs cs1 => sp zs cs1 k) := nd rfl
theorem u_dRev (a : DE) (en : En) (cs : Cs) (k : Z → Cs → Prop) : dRev a en cs k = (a en cs fun x cs1 => withD cs1 x fun dx => revD dx fun z => k (.d z) cs1) := nd rfl
theorem u_dOpC (f : D → D → (List D → Prop) → Prop) (a b : DE) (en : En) (cs : Cs) (k : Z → Cs → Prop) : dOpC f a b en cs k = (a en cs fun x cs1 => b en cs1 fun y cs2 => withD cs2 x fun dx => withD cs2 y fun dy => f dx dy fun ds => k (.c cs2.length) (cs2 ++ [.lst ds])) := nd rfl
theorem u_dSlC (a : DE) (lo hi : DO) (en : En) (cs : Cs) (k : Z → Cs → Prop) : dSlC a lo hi en cs k = (a en cs fun x cs1 => lo en cs1 fun l cs2 => hi en cs2 fun h cs3 => withD cs3 x fun dx => ∃ ds, dx = .lst ds ∧ k (.c cs3.length) (cs3 ++ [.lst (cutG ds l h)])) := nd rfl
theorem u_dListC (a : DE) (en : En) (cs : Cs) (k : Z → Cs → Prop) : dListC a en cs k = (a en cs fun x cs1 => withD cs1 x fun dx => lstOfC dx fun ds => k (.c cs1.length) (cs1 ++ [.lst ds])) := nd rfl
theorem u_dFld (C : Addr) (f : Str) (o : DE) (en : En) (cs : Cs) (k : Z → Cs → Prop) : dFld C f o en cs k = (o en cs fun z cs1 => withD cs1 z fun d => match d with
  | .ob C' ns ds => C' = C ∧ ∃ x, (ns.zip ds).lookup f = some x ∧ k (.d x) cs1
  | _ => False) := nd rfl
theorem u_dMake (C : Addr) (sp : DSpec) (a : DA) (en : En) (cs : Cs) (k : Z → Cs → Prop) : dMake C sp a en cs k = (a en cs fun zs cs1 => sp (.c cs1.length :: zs) (cs1 ++ [.ob C [] []]) fun z cs2 => z = .d .non ∧ ∃ ns ds, cs2[cs1.length]? = some (.ob C ns ds) ∧ (k (.d (.ob C ns ds)) (cs2.take cs1.length) ∨ k (.c cs1.length) cs2)) := nd rfl
theorem u_dMeth (C : Addr) (m : Str) (sp : DSpec) (o : DE) (a : DA) (en : En) (cs : Cs) (k : Z → Cs → Prop) : dMeth C m sp o a en cs k = (o en cs fun z cs1 => withD cs1 z fun d => match d with
  | .ob C' ns ds => C' = C ∧ (ns.zip ds).lookup m = none ∧ a en cs1 fun zs cs2 => sp (z :: zs) cs2 k
  | _ => False) := nd rfl
theorem u_dProp (C : Addr) (sp : DSpec) (o : DE) (en : En) (cs : Cs) (k : Z → Cs → Prop) : dProp C sp o en cs k = (o en cs fun z cs1 => withD cs1 z fun d => match d with
  | .ob C' _ _ => C' = C ∧ sp [z] cs1 k
  | _ => False) := nd rfl
theorem u_dIsiO (C : Addr) (Ks : List Addr) (a : DE) (en : En) (cs : Cs) (k : Z → Cs → Prop) : dIsiO C Ks a en cs k = (a en cs fun z cs1 => withD cs1 z fun d => isiO C Ks d fun q => k (.d (.bl q)) cs1) := nd rfl
theorem u_dOwn (C : Addr) (sp : DSpec) (a b : DE) (en : En) (cs : Cs) (k : Z → Cs → Prop) : dOwn C sp a b en cs k = (a en cs fun x cs1 => b en cs1 fun y cs2 => withD cs2 x fun dx => withD cs2 y fun dy => isC C dx ∧ isC C dy ∧ sp [x, y] cs2 k) := nd rfl
theorem u_dOwnE (C : Addr) (neg : Bool) (sp : DSpec) (a b : DE) (en : En) (cs : Cs) (k : Z → Cs → Prop) : dOwnE C neg sp a b en cs k = (a en cs fun x cs1 => b en cs1 fun y cs2 => withD cs2 x fun dx => withD cs2 y fun dy => isC C dx ∧ rgt C dy ∧ sp [x, y] cs2 fun z cs3 => ∃ q, z = .d (.bl q) ∧ k (.d (.bl (if neg = true then !q else q))) cs3) := nd rfl
theorem u_dCallI (C : Addr) (sp : DSpec) (o : DE) (a : DA) (en : En) (cs : Cs) (k : Z → Cs → Prop) : dCallI C sp o a en cs k = (o en cs fun z cs1 => withD cs1 z fun d => isC C d ∧ a en cs1 fun zs cs2 => withD cs2 z fun d => isC C d ∧ sp (z :: zs) cs2 k) := nd rfl
theorem u_dSortSet (a : DE) (en : En) (cs : Cs) (k : Z → Cs → Prop) : dSortSet a en cs k = (a en cs fun z cs1 => withD cs1 z fun d => ∃ ns : List Int, d = .lst (ns.map D.int) ∧ ns.length ≤ 4000 ∧ ∀ out : List Int, out.Pairwise (· < ·) → (∀ j, j ∈ out ↔ j ∈ ns) → k (.d (.lst (out.map D.int))) cs1) := nd rfl
theorem u_dFrz (i : Nat) (t : DS) (E : DEnds) (en : En) (cs : Cs) : dFrz i t E en cs = (match en[i]? with
  | some (some (.c n)) => withD cs (.c n) fun d => frzOk d = true ∧ ∀ b, t E (en.set i (some (.d d))) (cs.set n (.obj b))
  | some (some (.d _)) => t E en cs
  | _ => False) := nd rfl
theorem u_diZip (a b : DE) (en : En) (cs : Cs) (k : List D → (Cs → Prop) → Cs → Prop) : diZip a b en cs k = (a en cs fun x cs1 => b en cs1 fun y cs2 => match x, y with
  | .d (.lst ds), .d (.lst es) => k (zipD ds es) yes cs2
  | .d (.tup ds), .d (.tup es) => k (zipD ds es) yes cs2
  | _, _ => False) := nd rfl
theorem u_diEnumU (a : DE) (en : En) (cs : Cs) (k : List D → (Cs → Prop) → Cs → Prop) : diEnumU a en cs k = (a en cs fun z cs1 => match z with
  | .d (.tup ds) => k (enumD ds) yes cs1
  | z => seqD cs1 z fun ds keep => k (enumD ds) keep cs1) := nd rfl
end DL
set_option Elab.async false
set_option linter.all false
set_option maxRecDepth 100000
set_option maxHeartbeats 2000000
set_option autoImplicit false
/-! DLZC: three names at once -/
namespace DL
open PySem L2
section
variable {X : Cx} {pos : Pos}
/-- a, b, c = x, y, z -/
def dPar3 (i j l : Nat) (a : DA) : DS := fun D en cs => a en cs fun zs cs1 => match zs with
  | [z, w, y] => D.nx (((en.set i (some z)).set j (some w)).set l (some y)) cs1
  | _ => False
theorem u_dPar3 (i j l : Nat) (a : DA) (D0 : DEnds) (en : En) (cs : Cs) : dPar3 i j l a D0 en cs = (a en cs fun zs cs1 => match zs with
  | [z, w, y] => D0.nx (((en.set i (some z)).set j (some w)).set l (some y)) cs1
  | _ => False) := nd rfl
theorem qs_par3 (i j l : Nat) {x y z : Str} {a b c : Expr} {ta : TA} {da : DA} {px py pz pt : Pos} {kt k2 pt2} (hN : X.N.Nodup) (ha : QA X [a, b, c] ta da) (hi : X.N[i]? = some x := by rfl) (hj : X.N[j]? = some y := by rfl) (hl : X.N[l]? = some z := by rfl)
    (hij : i ≠ j := by decide) (hil : i ≠ l := by decide) (hjl : j ≠ l := by decide)
    (hx : X.env.scope.names.lookup x = some .local := by rfl) (hy : X.env.scope.names.lookup y = some .local := by rfl) (hz : X.env.scope.names.lookup z = some .local := by rfl)
    (hw : swappedStores [.Tuple [.Name x px, .Name y py, .Name z pz] kt pt] (.Tuple [a, b, c] k2 pt2) X.env = pure (some [x, y, z]) := by rfl)
    (hs : swapsWithSole [.Tuple [.Name x px, .Name y py, .Name z pz] kt pt] (.Tuple [a, b, c] k2 pt2) pos.line X.env = pure false := by rfl) (hc : X.calm = true := by rfl) :
    QS X (.Assign [.Tuple [.Name x px, .Name y py, .Name z pz] kt pt] (.Tuple [a, b, c] k2 pt2) pos) (tPar3 i j l ta) (dPar3 i j l da) := by
  refine ⟨ps_par3 hc hN hi hj hl hij hil hjl hx hy hz ha.pa hw hs, ?_⟩
  intro σ H S as en cs D E r e q p
  refine ha.sem σ H S as en cs _ _ r e q fun zs vs S1 H1 as1 cs1 e1 r1 v1 q1 => ?_
  split at q1
  · obtain ⟨v, _, rfl, h1, u, _, rfl, h2, t, _, rfl, h3, h4⟩ := v1
    exact ⟨v, u, t, by rw [h4], p.nx _ S1 H1 as1 _ cs1 e1 r1 ((((e.mono e1).set h1 i).set h2 j).set h3 l) q1⟩
  · exact q1.elim
end
end DL
set_option Elab.async false
set_option linter.all false
set_option maxRecDepth 100000
set_option maxHeartbeats 2000000
set_option autoImplicit false
/-! DLZD: min of a list of pairs of ints -/
namespace DL
open PySem PySem.Spec PyProof.Rows L2
open PySem.W (dataLt dataLt_ii AlikeAll min_list_data alike_unique readsAll_at reads_keeps)
abbrev pairP (p : Int × Int) : PyData := .tuple [.int p.1, .int p.2]
def ltP (p q : Int × Int) : Prop := p.1 < q.1 ∨ (p.1 = q.1 ∧ p.2 < q.2)
theorem lt_pairP (p q : Int × Int) : dataLt (pairP p) (pairP q) = decide (p.1 < q.1 ∨ (p.1 = q.1 ∧ p.2 < q.2)) := dataLt_ii _ _ _ _
theorem minD_pairs : ∀ (ps : List (Int × Int)) (p : Int × Int), ∃ q ∈ p :: ps, PySem.W.minD (pairP p) (ps.map pairP) = pairP q ∧ ∀ r ∈ p :: ps, ¬ ltP r q
  | [], p => ⟨p, List.mem_cons_self, rfl, fun r hr => by
    have : r = p := by simpa using hr
    subst this
    unfold ltP
    omega⟩
  | y :: ys, p => by
    have e : PySem.W.minD (pairP p) ((y :: ys).map pairP) = PySem.W.minD (if dataLt (pairP y) (pairP p) then pairP y else pairP p) (ys.map pairP) := rfl
    rw [e, lt_pairP]
    by_cases h : y.1 < p.1 ∨ (y.1 = p.1 ∧ y.2 < p.2)
    · rw [if_pos (decide_eq_true h)]
      obtain ⟨q, hq, e2, m⟩ := minD_pairs ys y
      refine ⟨q, List.mem_cons_of_mem _ hq, e2, fun r hr => ?_⟩
      rcases List.mem_cons.mp hr with rfl | hr
      · have := m y List.mem_cons_self
        unfold ltP at this ⊢
        omega
      · exact m r hr
    · rw [if_neg (by simpa using h)]
      obtain ⟨q, hq, e2, m⟩ := minD_pairs ys p
      refine ⟨q, ?_, e2, fun r hr => ?_⟩
      · rcases List.mem_cons.mp hq with rfl | hq
        · exact List.mem_cons_self
        · exact List.mem_cons_of_mem _ (List.mem_cons_of_mem _ hq)
      · rcases List.mem_cons.mp hr with rfl | hr
        · exact m _ List.mem_cons_self
        · rcases List.mem_cons.mp hr with rfl | hr
          · have := m p List.mem_cons_self
            unfold ltP at this ⊢
            omega
          · exact m r (List.mem_cons_of_mem _ hr)
theorem alike_pairs (l : List (Int × Int)) : AlikeAll (l.map pairP) := by
  refine ⟨fun x hx y hy => ?_, fun x hx => ?_⟩
  · obtain ⟨p, _, rfl⟩ := List.mem_map.mp hx
    obtain ⟨q, _, rfl⟩ := List.mem_map.mp hy
    rfl
  · obtain ⟨p, _, rfl⟩ := List.mem_map.mp hx
    exact fun h => nomatch h
theorem depth_pairs : ∀ l : List (Int × Int), PyData.depthAll (l.map pairP) ≤ 10
  | [] => Nat.zero_le _
  | p :: l => Nat.max_le.mpr ⟨show PyData.depth (.tuple [.int p.1, .int p.2]) ≤ 10 by simp [PyData.depth, PyData.depthAll], depth_pairs l⟩
theorem vals_get : ∀ {xs : List V} {us : List Value} {i : Nat} {u : Value}, Vals xs us → us[i]? = some u → ∃ x, xs[i]? = some x ∧ RelV x u
  | _, _, i, _, .nil, e => by simp at e
  | x :: xs, _, 0, u, .cons r t, e => ⟨x, rfl, by
    have := Option.some.inj e
    subst this
    exact r⟩
  | x :: xs, _, i + 1, u, .cons r t, e => vals_get (i := i) t e
def rMinP (K : PySem.W.Frag) : List V → Hp → VK → Prop := fun vs H Q => ∃ (a : Addr) (xs : List V) (p : Int × Int) (ps : List (Int × Int)), vs = [V.ref a] ∧ SqL K H a xs ∧ DpAll K H xs ((p :: ps).map pairP) ∧
  ∀ (i : Nat) (q : Int × Int) (v : V), (p :: ps)[i]? = some q → xs[i]? = some v → (∀ r ∈ p :: ps, ¬ ltP r q) → Q v H
theorem call_minP {X : Cx} (hu : X.A.units + 64 < cLine) (hc : X.calm = true := by rfl) : CallR X (.builtin "min") (rMinP X.K) := by
  intro pins s σ H vs us Q I r h
  obtain ⟨a, xs, p, ps, rfl, hs, hd, q⟩ := h
  obtain ⟨its, rv, hl, _⟩ := I.list hs
  rw [Vals.ref1 r]
  obtain ⟨as, hr⟩ := Dp.readsAll I _ _ _ hd rv
  have dl := depth_pairs (p :: ps)
  refine min_list_data (vs := its.toArray) (x := pairP p) (xs := ps.map pairP) (I.ok.hd hc) hl.isList hr (alike_pairs (p :: ps)) (by show X.A.units + 1 + PyData.depthAll ((p :: ps).map pairP) < cLine; omega) fun i v h' tk bs hv hrd kp => ?_
  obtain ⟨x, hx, rx⟩ := vals_get rv (by simpa using hv)
  obtain ⟨cs, r1, il, im, _⟩ := readsAll_at hr i v (by simpa using hv)
  obtain ⟨m, hm, em, mm⟩ := minD_pairs ps p
  rw [em] at hrd
  have ei : (p :: ps)[i]? = some m := by
    have hil : i < (p :: ps).length := by simpa using il
    have e1 : ((p :: ps).map pairP).getD i .none = pairP ((p :: ps)[i]) := by
      rw [List.getD_eq_getElem?_getD, List.getElem?_map, List.getElem?_eq_getElem hil]
      rfl
    rw [e1] at r1
    have e2 := alike_unique _ _ v _ _ rfl (reads_keeps kp r1) hrd
    rw [List.getElem?_eq_getElem hil]
    have e3 : (p :: ps)[i].1 = m.1 ∧ (p :: ps)[i].2 = m.2 := by
      have := e2
      simp only [pairP, PyData.tuple.injEq, List.cons.injEq, PyData.int.injEq, and_true] at this
      exact this
    exact congrArg some (Prod.ext e3.1 e3.2)
  exact ⟨x, H, I.kept kp, rx, q i m x ei hx mm⟩
def pr2 (p : Int × Int) : D := .tup [.int p.1, .int p.2]
def minPD : List D → (D → Prop) → Prop
  | [.lst ds], k => ∃ (p : Int × Int) (ps : List (Int × Int)), ds = (p :: ps).map pr2 ∧ ∀ q ∈ p :: ps, (∀ r ∈ p :: ps, ¬ ltP r q) → k (pr2 q)
  | _, _ => False
theorem pr2_ok : ∀ l : List (Int × Int), pyOkL (l.map pr2) = true
  | [] => rfl
  | p :: l => by
    show (pyOk (pr2 p) && pyOkL (l.map pr2)) = true
    rw [pr2_ok l]
    rfl
theorem pr2_py : ∀ l : List (Int × Int), pyL (l.map pr2) = l.map pairP
  | [] => rfl
  | p :: l => by
    show py (pr2 p) :: pyL (l.map pr2) = pairP p :: l.map pairP
    rw [pr2_py l]
    rfl
theorem c_minP {K : PySem.W.Frag} : Cl K (rMinP K) minPD := by
  intro S H as cs ds vs k Q r hv h q
  unfold minPD at h
  split at h
  · obtain ⟨v, rfl, a, us, rfl, hs, is⟩ := shL_one hv
    obtain ⟨p, ps, rfl, hk⟩ := h
    have dp := IsL.dp r.sub _ _ is (pr2_ok (p :: ps))
    rw [pr2_py] at dp
    refine ⟨a, us, p, ps, rfl, SqL.of hs, dp, fun i m v hi hv' hm => ?_⟩
    obtain ⟨d, hd, id⟩ := is.back hv'
    rw [List.getElem?_map, hi] at hd
    cases hd
    exact q (pr2 m) v S H (Sub.refl S) r id (hk m (List.mem_of_getElem? hi) hm)
  · exact h.elim
theorem e_minP (ds : List D) (k : D → Prop) : minPD [.lst ds] k = ∃ (p : Int × Int) (ps : List (Int × Int)), ds = (p :: ps).map pr2 ∧ ∀ q ∈ p :: ps, (∀ r ∈ p :: ps, ¬ ltP r q) → k (pr2 q) := nd rfl
/-! ### a value, or what an if leaves behind, once for all that comes -/
theorem val_use {e : DE} {i : Nat} {rest : DS} {E : DEnds} {en : En} {cs : Cs} (P : Z → Prop) (h : ∀ K : Z → Cs → Prop, (∀ z, P z → K z cs) → e en cs K) (r : ∀ z, P z → rest E (en.set i (some z)) cs) : dSeq (dAsg e (dgName i)) rest E en cs := h _ r
theorem seq_via {a b : DS} {E : DEnds} {en : En} {cs : Cs} (P : En → Cs → Prop) (h : ∀ nx : En → Cs → Prop, (∀ en cs, P en cs → nx en cs) → a { E with nx := nx } en cs) (r : ∀ en cs, P en cs → b E en cs) : dSeq a b E en cs := h _ r
theorem lock_via {a b : DS} {E : DEnds} {en : En} {cs : Cs} (P : En → Cs → Prop) (h : ∀ nx : En → Cs → Prop, (∀ en cs, P en cs → nx en cs) → a { E with nx := nx } en cs) (r : ∀ en cs, P en cs → b E en cs) : dSeq a (dLock b) E en cs := h _ r
theorem val_lock {e : DE} {i : Nat} {rest : DS} {E : DEnds} {en : En} {cs : Cs} (P : Z → Prop) (h : ∀ K : Z → Cs → Prop, (∀ z, P z → K z cs) → e en cs K) (r : ∀ z, P z → rest E (en.set i (some z)) cs) : dLock (dSeq (dAsg e (dgName i)) rest) E en cs := h _ r
theorem ret_via {e : DE} {E : DEnds} {en : En} {cs : Cs} (P : Z → Prop) (h : ∀ K : Z → Cs → Prop, (∀ z, P z → K z cs) → e en cs K) (r : ∀ z, P z → E.rt z cs) : dRet e E en cs := h _ r
end DL
set_option Elab.async false
set_option linter.all false
set_option maxRecDepth 100000
set_option maxHeartbeats 4000000
set_option autoImplicit false
/-! DLZG: sorted(a dict whose keys are ints); list(range(n)) -/
namespace DL
open PySem PySem.Spec PyProof.Rows L2
def rSortedDI : List V → Hp → VK → Prop := fun xs H Q => ∃ (a : Addr) (kvs : List (Key × V)) (ns : List Int), xs = [.ref a] ∧ H a = some (.dK kvs) ∧ kvs.map (·.1) = ns.map Sum.inl ∧ ns.length ≤ 4000 ∧
  ∀ (out : List Int) (p : Addr), out.Perm ns → out.Pairwise (· ≤ ·) → H p = none → Q (.ref p) (upd H p (.lst (out.map V.int)))
theorem ints_at : ∀ {us : List Value} {ns : List Int}, us.length = ns.length → (∀ (j : Nat) (v : Value), us[j]? = some v → ∃ i t, ns[j]? = some i ∧ v = Value.int i t) → IntsAre us ns
  | [], [], _, _ => .nil
  | [], _ :: _, h, _ => by simp at h
  | _ :: _, [], h, _ => by simp at h
  | u :: us, n :: ns, hl, h => by
    obtain ⟨i, t, e1, e2⟩ := h 0 u rfl
    obtain rfl : n = i := Option.some.inj (by simpa using e1)
    subst e2
    exact .cons _ t (ints_at (by simpa using hl) fun j v e => by
      obtain ⟨i, t, a, b⟩ := h (j + 1) v (by simpa using e)
      exact ⟨i, t, by simpa using a, b⟩)
section
variable {X : Cx}
theorem cr_sortedDI (hc : X.calm = true) : CallR X (.builtin "sorted") rSortedDI := by
  intro pins s σ H xs us Q I r q
  obtain ⟨a, kvs, ns, rfl, hd, hks, h64, q⟩ := q
  obtain ⟨u, rfl, rx⟩ := vals1 r
  obtain rfl : u = Value.ref a := rx
  obtain ⟨z, lo, vs, rel, dd⟩ := (show ObjOk X.prog X.w H s.heap a (.dK kvs) from I.hok a _ hd)
  obtain ⟨ep, hat⟩ := dd.dictAt
  have hkeys : vs.map (·.1) = ns.map Sum.inl := (KV.keys rel).symm.trans hks
  have hl : vs.length = ns.length := by
    have e := congrArg List.length hkeys
    rw [List.length_map, List.length_map] at e
    exact e
  have h16 : vs.length ≤ sizeLine := by rw [hl, sizeLine_eq]; omega
  refine Calls.call_function_entry PyProof.Rows.kind_sorted PyProof.Rows.plain_sorted PyProof.Rows.entry_sorted (PyProof.Rows.args_sorted1 _) ?_
  unfold Builtin.«sorted»
  refine wpAny_bind (m := checkCount "sorted" 1 1 _) (wpAny_pure ?_)
  refine wpAny_bind (PySem.W.kdu_collect (A := X.A.in1) (PySem.W.kdl_dict (knd := mixKind X.prog X.w) (kvs := vs) (ep := ep) lo) (I.ok.hd hc) hat h16 fun h' tk acc hk hacc => ?_)
  have hal : acc.toList.length = ns.length := by rw [Array.length_toList, hacc.1, hl]
  have hS : IntsAre acc.toList ns := ints_at hal fun j v e => by
    obtain ⟨k, x, e1, e2⟩ := hacc.2 j v (by rw [← Array.getElem?_toList]; exact e)
    have e3 : (vs.map (·.1))[j]? = some k := by rw [List.getElem?_map, e1]; all_goals rfl
    rw [hkeys, List.getElem?_map] at e3
    cases e4 : ns[j]? with
    | none => rw [e4] at e3; cases e3
    | some y =>
      rw [e4] at e3
      have e5 : Sum.inl y = k := Option.some.inj e3
      subst e5
      rcases keyIs_shape (show keyIs (Sum.inl y) v = true from e2) with ⟨i, t, ek, ev⟩ | ⟨z, t, ek, ev⟩
      · obtain rfl : y = i := Sum.inl.inj ek
        exact ⟨y, t, rfl, ev⟩
      · cases ek
  have I1 : Inv X pins σ H { s with heap := h', toks := tk } := I.kept hk
  have hz : acc.toList.length ≤ sizeLine := by rw [hal, sizeLine_eq]; omega
  refine wpAny_bind (wpAny_newList ?_ hz)
  have hoL : (h'.push (seqObj "list" acc.toList.toArray 0)).get? h'.objs.size = some (seqObj "list" acc.toList.toArray 0) := Heap.get?_push_size _ rfl
  show wpAny _ _ _ _ _ { s with heap := h'.push (seqObj "list" acc.toList.toArray 0), toks := tk }
  refine wpAny_bind (wpAny_holding (wpAny_call_entry PyProof.Rows.slot_list_sort ⟨_, hoL, rfl⟩ PyProof.Rows.entry_list_sort
    (SrtO.list_sort_ord SrtO.swo_int hoL hz (fun h2 => SrtO.ints_sortable hS h2) fun out hs hb => ⟨_, rfl, ?_⟩)
    (PyProof.Rows.args_list_sort _)))
  obtain ⟨k1, k2, k3⟩ := SrtO.ints_out hS hs hb
  obtain ⟨e', he'⟩ := PyProof.Rows.sortedHeap_at (vs := acc.toList) (out := out.toArray) hoL
  have hlen : ((out.map SrtO.iv).map V.int).length ≤ sizeLine := by
    rw [List.length_map, k2.length_eq, sizeLine_eq]
    omega
  refine wpAny_pure ⟨_, rfl, .ref h'.objs.size, upd H h'.objs.size (.lst ((out.map SrtO.iv).map V.int)), I1.laid (t' := tk) (fun b u e => ?_) (Nat.le_refl _)
    (show ObjOk X.prog X.w _ _ _ (.lst ((out.map SrtO.iv).map V.int)) from ⟨hlen, out, e', vals_of_ints k1, he'⟩), rfl, q _ _ k2 k3 (I1.hok.fresh (Nat.le_refl _))⟩
  have hb : b < h'.objs.size := Heap.lt_size e
  rw [PyProof.Rows.sortedHeap_old (Nat.ne_of_lt hb) (by rw [size_push']; exact Nat.lt_succ_of_lt hb)]
  exact Heap.get?_push_of_some _ e
end
def sortedDD : List D → (D → Prop) → Prop
  | [.dic kvs], k => ∃ ns : List Int, kvs.map (·.1) = ns.map Sum.inl ∧ ns.length ≤ 4000 ∧ ∀ out : List Int, out.Perm ns → out.Pairwise (· ≤ ·) → k (.lst (out.map D.int))
  | _, _ => False
theorem isK_keys {K : PySem.W.Frag} {S : Hp} : ∀ {kvs : List (Key × D)} {l : List (Key × V)}, IsK K S kvs l → l.map (·.1) = kvs.map (·.1)
  | [], _, h => by rw [show _ = [] from h]; rfl
  | kd :: r, _, h => by
    obtain ⟨v, l', rfl, _, h3⟩ := h
    rw [List.map_cons, List.map_cons, isK_keys h3]
theorem c_sortedDI {K : PySem.W.Frag} : Cl K rSortedDI sortedDD := by
  intro S H as cs ds vs k Q r hv h q
  unfold sortedDD at h
  split at h
  · obtain ⟨v, rfl, h1⟩ := shL_one hv
    obtain ⟨ns, e, hl, h⟩ := h
    obtain ⟨l, us, rfl, hH, is⟩ := h1
    refine ⟨l, us, ns, rfl, hH, by rw [isK_keys is, e], hl, fun out p h1 h2 hp => ?_⟩
    exact q (.lst (out.map D.int)) _ _ _ (Sub.new (r.sub.free hp)) (r.lay hp _) ⟨p, _, rfl, upd_same, isL_ints out⟩ (h out h1 h2)
  · exact h.elim
theorem e_srtD (kvs : List (Key × D)) (k : D → Prop) : sortedDD [.dic kvs] k = ∃ ns : List Int, kvs.map (·.1) = ns.map Sum.inl ∧ ns.length ≤ 4000 ∧ ∀ out : List Int, out.Perm ns → out.Pairwise (· ≤ ·) → k (.lst (out.map D.int)) := nd rfl
/-- list(range(n)) -/
def dListR (a : DE) : DE := fun en cs k => a en cs fun z cs1 => ∃ j, z = .d (.int j) ∧ (0 ≤ j ∧ j ≤ 16777216) ∧ k (.d (.lst (rgD 0 j.toNat))) cs1
theorem u_dListR (a : DE) (en : En) (cs : Cs) (k : Z → Cs → Prop) : dListR a en cs k = (a en cs fun z cs1 => ∃ j, z = .d (.int j) ∧ (0 ≤ j ∧ j ≤ 16777216) ∧ k (.d (.lst (rgD 0 j.toNat))) cs1) := nd rfl
section
variable {X : Cx} {a : Expr} {ta : TE} {da : DE} {p p2 q pos : Pos}
theorem q_listR (hc : X.calm = true) (hm : X.mg "list" = none) (hm2 : X.mg "range" = none) (ha : QE X a ta da) (hg : Gl X "list" := by rfl) (hg2 : Gl X "range" := by rfl)
    (he : starEach [a] X.env = (false, eval a X.env) :: starEach [] X.env := by rfl) (he2 : starEach [.Call (.Name "range" p2) [a] [] q] X.env = (false, eval (.Call (.Name "range" p2) [a] [] q) X.env) :: starEach [] X.env := by rfl) :
    QE X (.Call (.Name "list" p) [.Call (.Name "range" p2) [a] [] q] [] pos) (tLstRg (tRg1 ta)) (dListR da) := by
  refine ⟨pe_listRg hc hg hm (prg_1 hg2 hm2 ha.pe he) he2, ?_⟩
  intro σ H S as en cs k Q r ev qq pq
  refine ha.sem.use r ev qq fun z v S1 H1 as1 cs1 e1 r1 v1 q1 => ?_
  obtain ⟨j, rfl, ⟨j0, j1⟩, q2⟩ := q1
  refine ⟨j, v1, RgOk.of_le (by omega) (by omega) (by omega) (by omega), fun p' hp' => ?_⟩
  have e : rgD 0 j.toNat = ((List.range j.toNat).map fun (i : Nat) => (0 : Int) + (i : Int)).map D.int := by
    unfold rgD
    rw [List.map_map]
    rfl
  have e2 : rgV 0 j = ((List.range j.toNat).map fun (i : Nat) => (0 : Int) + (i : Int)).map V.int := by
    unfold rgV
    rw [List.map_map, Int.sub_zero]
    rfl
  refine pq (.d (.lst (rgD 0 j.toNat))) _ _ _ as1 cs1 (e1.trans (r1.ext hp' _)) (r1.lay hp' (.lst (rgV 0 j))) ?_ q2
  rw [e, e2]
  exact ⟨p', _, rfl, upd_same, isL_ints _⟩
end
end DL
set_option Elab.async false
set_option linter.all false
set_option maxRecDepth 100000
set_option maxHeartbeats 4000000
set_option autoImplicit false
/-! DLZH: list(range(a, b)) -/
namespace DL
open PySem PySem.Spec PyProof.Rows L2
def dListR2 (a b : DE) : DE := fun en cs k => a en cs fun z cs1 => b en cs1 fun w cs2 => r2D z w fun i j => (-(2 ^ 60) ≤ i ∧ i ≤ j ∧ j ≤ 2 ^ 60 ∧ j - i ≤ 16777216) ∧ k (.d (.lst (rgD i (j - i).toNat))) cs2
theorem u_dListR2 (a b : DE) (en : En) (cs : Cs) (k : Z → Cs → Prop) : dListR2 a b en cs k = (a en cs fun z cs1 => b en cs1 fun w cs2 => r2D z w fun i j => (-(2 ^ 60) ≤ i ∧ i ≤ j ∧ j ≤ 2 ^ 60 ∧ j - i ≤ 16777216) ∧ k (.d (.lst (rgD i (j - i).toNat))) cs2) := nd rfl
theorem r2D_inv {z w : Z} {K : Int → Int → Prop} (h : r2D z w K) : ∃ i j, z = .d (.int i) ∧ w = .d (.int j) ∧ K i j := by
  unfold r2D at h
  exact h
section
variable {X : Cx} {a b : Expr} {ta tb : TE} {da db : DE} {p p2 q pos : Pos}
theorem q_listR2 (hc : X.calm = true) (hm : X.mg "list" = none) (hm2 : X.mg "range" = none) (ha : QE X a ta da) (hb : QE X b tb db) (hg : Gl X "list" := by rfl) (hg2 : Gl X "range" := by rfl)
    (na : starEach [a, b] X.env = (false, eval a X.env) :: starEach [b] X.env := by rfl) (nb : starEach [b] X.env = (false, eval b X.env) :: starEach [] X.env := by rfl) (nc : ((backTo q (starEach [b] X.env)).any fun x => x.fst) = false := by rfl) (he2 : starEach [.Call (.Name "range" p2) [a, b] [] q] X.env = (false, eval (.Call (.Name "range" p2) [a, b] [] q) X.env) :: starEach [] X.env := by rfl) :
    QE X (.Call (.Name "list" p) [.Call (.Name "range" p2) [a, b] [] q] [] pos) (tLstRg (tRg2 ta tb)) (dListR2 da db) := by
  refine ⟨pe_listRg hc hg hm (prg_2 hg2 hm2 ha.pe hb.pe na nb nc) he2, ?_⟩
  intro σ H S as en cs k Q r ev qq pq
  refine ha.sem.use r ev qq fun z v S1 H1 as1 cs1 e1 r1 v1 q1 => ?_
  refine hb.sem.use r1 (ev.mono e1) q1 fun z2 v2 S2 H2 as2 cs2 e2 r2 w2 q2 => ?_
  obtain ⟨i, j, rfl, rfl, ⟨i0, ij, j1, ji⟩, q2⟩ := r2D_inv q2
  refine ⟨i, j, v1, w2, ⟨by omega, by omega, by omega, by omega, by omega⟩, fun p' hp' => ?_⟩
  have e : rgD i (j - i).toNat = ((List.range (j - i).toNat).map fun (n : Nat) => i + (n : Int)).map D.int := by
    unfold rgD
    rw [List.map_map]
    rfl
  have e3 : rgV i j = ((List.range (j - i).toNat).map fun (n : Nat) => i + (n : Int)).map V.int := by
    unfold rgV
    rw [List.map_map]
    rfl
  refine pq (.d (.lst (rgD i (j - i).toNat))) _ _ _ as2 cs2 ((e1.trans e2).trans (r2.ext hp' _)) (r2.lay hp' (.lst (rgV i j))) ?_ q2
  rw [e, e3]
  exact ⟨p', _, rfl, upd_same, isL_ints _⟩
end
end DL
set_option Elab.async false
set_option linter.all false
set_option maxRecDepth 100000
set_option maxHeartbeats 4000000
set_option autoImplicit false
/-! DLZI: a, b = x, y where a name is read by a comprehension further in (a tuple is made), and a value may be a cell -/
namespace DL
open PySem PySem.Spec PyProof.Rows L2
section
variable {X : Cx} {pos : Pos}
theorem qs_parT (i j : Nat) {x y : Str} {a b : Expr} {ta : TA} {da : DA} {px py pt : Pos} {kt k2 pt2} (hN : X.N.Nodup) (ha : QA X [a, b] ta da) (hi : X.N[i]? = some x := by rfl) (hj : X.N[j]? = some y := by rfl)
    (hx : Loc X.env.scope x := by first | exact Or.inl rfl | exact Or.inr rfl) (hfx : X.fn x = true ∨ X.env.scope.names.lookup x = some .local := by first | exact .inl rfl | exact .inr rfl | assumption)
    (hy : Loc X.env.scope y := by first | exact Or.inl rfl | exact Or.inr rfl) (hfy : X.fn y = true ∨ X.env.scope.names.lookup y = some .local := by first | exact .inl rfl | exact .inr rfl | assumption)
    (hc : X.calm = true := by rfl) (hn : (assignEach [.Name x px, .Name y py] X.env).length = 2 := by rfl) (hst : (assignEach [.Name x px, .Name y py] X.env).findIdx? (·.1) = none := by rfl)
    (e1 : (assignEach [.Name x px, .Name y py] X.env).map (·.2) = assign (.Name x px) X.env :: (assignEach [.Name y py] X.env).map (·.2) := by rfl) (e2 : (assignEach [.Name y py] X.env).map (·.2) = assign (.Name y py) X.env :: (assignEach [] X.env).map (·.2) := by rfl)
    (hs : swapsWithSole [.Tuple [.Name x px, .Name y py] kt pt] (.Tuple [a, b] k2 pt2) pos.line X.env = pure false := by rfl) (hw : swappedStores [.Tuple [.Name x px, .Name y py] kt pt] (.Tuple [a, b] k2 pt2) X.env = pure none := by rfl)
    (h1 : (assignEach [.Tuple [.Name x px, .Name y py] kt pt] X.env).map (·.2) = [assign (.Tuple [.Name x px, .Name y py] kt pt) X.env] := by rfl) :
    QS X (.Assign [.Tuple [.Name x px, .Name y py] kt pt] (.Tuple [a, b] k2 pt2) pos) (tAsg (tTup ta) (gTup X.K 2 (gCons (gName i) (gCons (gName j) gNil)))) (dPar i j da) := by
  refine ⟨ps_asg (pe_tup ha.pa) (qg_tup (qgs_cons (qg_name i hN hi hx hfx) (qgs_cons (qg_name j hN hj hy hfy) qgs_nil e2) e1) hc hn hst).pg hs hw h1, ?_⟩
  intro σ H S as en cs D E r e q p
  refine ha.sem σ H S as en cs _ _ r e q fun zs vs S1 H1 as1 cs1 e1 r1 v1 q1 => ?_
  split at q1
  · obtain ⟨v, _, rfl, h1, u, _, rfl, h2, h3⟩ := v1
    subst h3
    refine ⟨Nat.le_trans (show [v, u].length ≤ 2 from Nat.le_refl _) (by decide), fun p' hp' => ⟨p', [v, u], rfl, SqT.of upd_same, rfl, ?_⟩⟩
    have en2 := (e1.trans (r1.ext hp' (.tup [v, u])))
    exact ⟨v, [u], rfl, u, [], rfl, rfl, p.nx _ _ _ as1 _ cs1 en2 (r1.lay hp' _) (((e.mono en2).set (h1.mono (r1.ext hp' _)) i).set (h2.mono (r1.ext hp' _)) j) q1⟩
  · exact q1.elim
end
end DL
set_option Elab.async false
set_option linter.all false
set_option maxRecDepth 100000
set_option maxHeartbeats 2000000
set_option autoImplicit false
namespace K01
open PySem L2 DL
local macro_rules | `(tactic| walk_at "dl") => `(tactic| simp only [dSeq, dNext, dOwn, dOwnE, dFld, dMake, dMeth, dProp, dIsiO, dCallI, dSortSet, dFrz, e_isC, e_rgO, e_rgn, e_rgi, e_rgs, e_rgb, e_rgt, e_rgl, e_fz1, e_fz2, le_lim, lt_lim, set_snoc0, e_srtI, dBreak, dCont, dDrop, dRet, dRetN, dIfS, dNever, dAsg, dPar, dPutK, dAppend, dExtend, dCall, dVar, dC, dOp, dChain, dUn, dB, dNot, dAnd, dOr, dAndV, dOrV, dNotV, dIf, dNil, dCons, dTup, dLst, dLstC, dCB, dInK, dGetK, dDicC, dNoPart, dPart, dSl, dBits, dRev,
  dgName, dgsNil, dgsCons, dgTup, dgSet, diSeq, diR1, e_diR2, e_r2, diEnum, startD, endD, finZ_d, finD, finC, List.take_length, dYes, wipeD, ix0, ix1, ix2, get_snoc, set_snoc, take_snoc,
  dOpC, dSlC, dListC, e_addC, e_mulC, e_loCl, e_loCt, e_loCs, e_wd, e_wc0, e_wcs, e_wsn, e_wc1, e_wc2, e_wl0, e_wl1, e_dl0, e_dl1, e_sl, e_st, e_ss, e_addi, e_adds, e_addt, e_addl, e_sub, e_muli, e_mult, e_mull, e_fdiv, e_mod, e_pow, e_neg, e_lt, e_le, e_gt, e_ge, e_eqi, e_eqs, e_eql, e_eqt, e_eqb, e_eqn, e_nei, e_nes, e_nel, e_net, e_neb, e_nen, e_isb, e_isn, e_inb, e_inn, e_in1, e_in2, e_in3, e_in4, e_in5,
  e_ixt, e_ixl, e_ixs, e_at0, e_at1, e_at2, e_at3, e_at4, e_at5, e_atl, e_keyi, e_keys, e_lenl, e_lent, e_lens, e_lend, e_maxi, e_mini, e_maxl, e_minl, e_sum, e_all, e_any, e_inti, e_intb, e_abs, e_tol, e_tot, e_tos, e_lol, e_lot, e_los, e_sll, e_slt, e_rvl, e_rvt, e_repr, e_isi, e_srtl, e_srtt,
  List.map_cons, List.map_nil, List.length_cons, List.length_nil, List.cons_append, List.nil_append, List.flatten_cons, List.flatten_nil, List.append_nil, List.replicate_succ, List.replicate_zero, List.getElem?_cons_zero, List.getElem?_cons_succ, List.set_cons_zero, List.set_cons_succ, Nat.reduceSub, Nat.reduceAdd, Int.reduceToNat, Int.reduceLE, Int.reduceLT, Int.reduceNeg, Nat.reduceLeDiff, Nat.reduceLT, Nat.zero_add, Option.some.injEq, Z.d.injEq, Z.c.injEq, D.bl.injEq, D.int.injEq, D.tup.injEq, D.lst.injEq,
  List.take_succ_cons, List.take_zero, exists_eq_left', exists_eq_left, true_and, and_true, if_true, Bool.not_true, Bool.not_false, Bool.false_eq_true, if_false, decide_true, decide_false])
/-! ### checks -/
def sp_is_int : DSpec := fun zs cs k => match zs with
  | [.d x] => pyOk x = true ∧ k (.d (.bl (isInt x))) cs
  | _ => False
theorem len_is_int : ∀ zs cs q, sp_is_int zs cs q → zs.length = (["value"] : List Str).length := fun zs cs q h => by
  unfold sp_is_int at h
  split at h
  · rfl
  · exact h.elim
def t_is_int : DS :=
  (dRet (dAndV (dCB (isiN "int") (dCons (dVar 0) (dCons (dC (.ty "int")) dNil))) (dNotV (dCB (isiN "bool") (dCons (dVar 0) (dCons (dC (.ty "bool")) dNil))))))
theorem rd_is_int : ∀ zs cs q, sp_is_int zs cs q → t_is_int (endD cs.length q) (startD ["value"] zs) cs := fun zs cs q h => by
  unfold sp_is_int at h
  split at h
  · rename_i x
    obtain ⟨hx, h⟩ := h
    unfold t_is_int
    walk_at "dl"
    rw [kit_int hx, kit_bool hx]
    simp only [Option.some.injEq, exists_eq_left']
    cases x <;> simp_all [isInt, tyD]
  · exact h.elim
def inRange (x : D) (lo hi : Int) : Bool := match x with
  | .int i => decide (lo ≤ i) && decide (i ≤ hi)
  | _ => false
def sp_in_range : DSpec := fun zs cs k => match zs with
  | [.d x, .d (.int lo), .d (.int hi)] => pyOk x = true ∧ k (.d (.bl (inRange x lo hi))) cs
  | _ => False
theorem len_in_range : ∀ zs cs q, sp_in_range zs cs q → zs.length = (["value", "low", "high"] : List Str).length := fun zs cs q h => by
  unfold sp_in_range at h
  split at h
  · rfl
  · exact h.elim
def t_in_range : DS :=
  (dRet (dAndV (dCall sp_is_int (dCons (dVar 0) dNil)) (dChain leD leD (dVar 1) (dVar 0) (dVar 2))))
theorem rd_in_range : ∀ zs cs q, sp_in_range zs cs q → t_in_range (endD cs.length q) (startD ["value", "low", "high"] zs) cs := fun zs cs q h => by
  unfold sp_in_range at h
  split at h
  · rename_i x lo hi
    obtain ⟨hx, h⟩ := h
    unfold t_in_range
    walk_at "dl"
    simp only [sp_is_int]
    refine ⟨hx, ?_⟩
    cases x <;> simp_all [isInt, inRange, e_le]
    rename_i i
    by_cases h1 : lo ≤ i
    · simp_all
    · simp_all
  · exact h.elim
def sp_require_cycle : DSpec := fun zs cs k => match zs with
  | [.d x] => (pyOk x = true ∧ inRange x 1 (10 ^ 30) = true) ∧ k (.d .non) cs
  | _ => False
theorem len_require_cycle : ∀ zs cs q, sp_require_cycle zs cs q → zs.length = (["value"] : List Str).length := fun zs cs q h => by
  unfold sp_require_cycle at h
  split at h
  · rfl
  · exact h.elim
def t_require_cycle : DS :=
  (dIfS (dNot (dB (dCall sp_in_range (dCons (dVar 0) (dCons (dC (.int 1)) (dCons (dC (.int 1000000000000000000000000000000)) dNil)))))) dNever dNext)
theorem rd_require_cycle : ∀ zs cs q, sp_require_cycle zs cs q → t_require_cycle (endD cs.length q) (startD ["value"] zs) cs := fun zs cs q h => by
  unfold sp_require_cycle at h
  split at h
  · rename_i x
    obtain ⟨⟨hx, h1⟩, h⟩ := h
    unfold t_require_cycle
    walk_at "dl"
    simp only [sp_in_range]
    refine ⟨hx, ?_⟩
    rw [show (10 ^ 30 : Int) = 1000000000000000000000000000000 from by decide] at h1
    simp_all
  · exact h.elim
def sp_require_moment : DSpec := fun zs cs k => match zs with
  | [.d (.int _)] => k (.d .non) cs
  | _ => False
theorem len_require_moment : ∀ zs cs q, sp_require_moment zs cs q → zs.length = (["value"] : List Str).length := fun zs cs q h => by
  unfold sp_require_moment at h
  split at h
  · rfl
  · exact h.elim
def t_require_moment : DS :=
  (dIfS (dNot (dB (dCall sp_is_int (dCons (dVar 0) dNil)))) dNever dNext)
theorem rd_require_moment : ∀ zs cs q, sp_require_moment zs cs q → t_require_moment (endD cs.length q) (startD ["value"] zs) cs := fun zs cs q h => by
  unfold sp_require_moment at h
  split at h
  · unfold t_require_moment
    walk_at "dl"
    simp only [sp_is_int]
    simp_all [isInt, pyOk]
  · exact h.elim
def isStretch (c : Int) (x : D) : Bool := match x with
  | .tup [a, b] => inRange a 0 (c - 1) && inRange b 1 c
  | _ => false
def sp_is_stretch : DSpec := fun zs cs k => match zs with
  | [.d (.int c), .d x] => pyOk x = true ∧ k (.d (.bl (isStretch c x))) cs
  | _ => False
theorem len_is_stretch : ∀ zs cs q, sp_is_stretch zs cs q → zs.length = (["cycle", "value"] : List Str).length := fun zs cs q h => by
  unfold sp_is_stretch at h
  split at h
  · rfl
  · exact h.elim
def t_is_stretch : DS :=
  (dSeq (dIfS (dOr (dNot (dB (dCB (isiN "tuple") (dCons (dVar 1) (dCons (dC (.ty "tuple")) dNil))))) (dB (dOp neUD (dCB lenD (dCons (dVar 1) dNil)) (dC (.int 2))))) (dRet (dC (.bl false))) dNext)
  (dRet (dAndV (dCall sp_in_range (dCons (dOp ixD (dVar 1) (dC (.int 0))) (dCons (dC (.int 0)) (dCons (dOp subD (dVar 0) (dC (.int 1))) dNil)))) (dCall sp_in_range (dCons (dOp ixD (dVar 1) (dC (.int 1))) (dCons (dC (.int 1)) (dCons (dVar 0) dNil)))))))
theorem rd_is_stretch : ∀ zs cs q, sp_is_stretch zs cs q → t_is_stretch (endD cs.length q) (startD ["cycle", "value"] zs) cs := fun zs cs q h => by
  unfold sp_is_stretch at h
  split at h
  · rename_i c x
    obtain ⟨hx, h⟩ := h
    unfold t_is_stretch
    walk_at "dl"
    simp only [kit_tup hx, Option.some.injEq, exists_eq_left']
    have ht : isTup x = false → isStretch c x = false := fun e => by
      cases x <;> first | rfl | exact Bool.noConfusion e
    cases e : isTup x with
    | false =>
      rw [ht e] at h
      simp_all
    | true =>
      cases x with
      | tup ds =>
        match ds, hx, h with
        | [a, b], hx, h =>
          have o := pyOk_mem (ds := [a, b]) hx
          have o1 := o a (by simp)
          have o2 := o b (by simp)
          walk_at "dl"
          simp only [sp_in_range]
          simp only [isStretch] at h
          cases q1 : inRange a 0 (c - 1) <;> simp_all [finZ_self]
        | [], hx, h => simp_all [isStretch, e_lent, e_nei]
        | [a], hx, h => simp_all [isStretch, e_lent, e_nei]
        | a :: b :: d :: r, hx, h =>
          have n : ¬ ((r.length : Int) + 1 + 1 + 1 = 2) := by omega
          simp_all [isStretch, e_lent, e_nei]
      | _ => exact Bool.noConfusion e
  · exact h.elim
/-! ### signals -/
def areGreens (c : Int) (x : D) : Bool := match x with
  | .tup ds => decide (1 ≤ ds.length) && decide (ds.length ≤ 6) && ds.all (isStretch c)
  | _ => false
def sp_are_greens : DSpec := fun zs cs k => match zs with
  | [.d (.int c), .d x] => pyOk x = true ∧ k (.d (.bl (areGreens c x))) cs
  | _ => False
theorem len_are_greens : ∀ zs cs q, sp_are_greens zs cs q → zs.length = (["cycle", "value"] : List Str).length := fun zs cs q h => by
  unfold sp_are_greens at h
  split at h
  · rfl
  · exact h.elim
def t_are_greens : DS :=
  (dSeq (dIfS (dOr (dNot (dB (dCB (isiN "tuple") (dCons (dVar 1) (dCons (dC (.ty "tuple")) dNil))))) (dNot (dB (dChain leD leD (dC (.int 1)) (dCB lenD (dCons (dVar 1) dNil)) (dC (.int 6)))))) (dRet (dC (.bl false))) dNext)
  (dRet (dCB allD (dCons (dLc (diSeq (dVar 1)) (dgName 2) dYes (dCall sp_is_stretch (dCons (dVar 0) (dCons (dVar 2) dNil))) [2]) dNil))))
theorem rd_are_greens : ∀ zs cs q, sp_are_greens zs cs q → t_are_greens (endD cs.length q) (startD ["cycle", "value", "one"] zs) cs := fun zs cs q h => by
  unfold sp_are_greens at h
  split at h
  rotate_left
  · exact h.elim
  rename_i c x
  obtain ⟨hx, h⟩ := h
  unfold t_are_greens
  walk_at "dl"
  simp only [kit_tup hx, Option.some.injEq, exists_eq_left']
  have ht : isTup x = false → areGreens c x = false := fun e => by
    cases x <;> first | rfl | exact Bool.noConfusion e
  cases e : isTup x with
  | false =>
    rw [ht e] at h
    simp_all
  | true =>
    cases x with
    | tup ds =>
      have go : 1 ≤ ds.length → ds.length ≤ 6 → ∀ K : Z → Cs → Prop, K (.d (.lst ((ds.map (isStretch c)).map D.bl))) cs → dLcG finD (diSeq (dVar 1)) (dgName 2) dYes (dCall sp_is_stretch (dCons (dVar 0) (dCons (dVar 2) dNil))) [2] (startD ["cycle", "value", "one"] [.d (.int c), .d (.tup ds)]) cs K := fun h1 h2 K hK => by
        refine dLc_mk ds yes cs (fun K h => by walk_at "dl"; exact h) (fun d => .bl (isStretch c d)) (by omega) (fun i d acc hd P hP => ?_) ?_ (fun _ => trivial)
        · walk_at "dl"
          simp only [sp_is_stretch]
          exact ⟨pyOk_mem hx d (List.mem_of_getElem? hd), hP⟩
        · rw [map_bls _ (isStretch c) ds fun _ _ => rfl]
          exact hK
      simp only [areGreens] at h
      walk_at "dl"
      by_cases h1 : 1 ≤ ds.length
      · by_cases h2 : ds.length ≤ 6
        · have g1 : (1 : Int) ≤ (ds.length : Int) := by omega
          have g2 : (ds.length : Int) ≤ 6 := by omega
          simp only [g1, g2, h1, h2, decide_true, Bool.true_and] at h ⊢
          walk_at "dl"
          refine go h1 h2 _ ?_
          walk_at "dl"
          refine ⟨_, rfl, ?_⟩
          rw [List.all_map] 
          simpa using h
        · have g1 : (1 : Int) ≤ (ds.length : Int) := by omega
          have g2 : ¬ (ds.length : Int) ≤ 6 := by omega
          simp_all
      · have g1 : ¬ (1 : Int) ≤ (ds.length : Int) := by omega
        simp_all
    | _ => exact Bool.noConfusion e
end K01
set_option Elab.async false
set_option linter.all false
set_option maxRecDepth 100000
set_option maxHeartbeats 2000000
set_option autoImplicit false
namespace K04
/-- the least n from 0 on of those that are hits -/
def Least (H : Int → Prop) : Option Int → Prop
  | some n => 0 ≤ n ∧ H n ∧ ∀ z, 0 ≤ z → z < n → ¬ H z
  | none => ∀ z, 0 ≤ z → ¬ H z
theorem Least.congr {H G : Int → Prop} {r : Option Int} (h : Least H r) (e : ∀ z, 0 ≤ z → (H z ↔ G z)) : Least G r := by
  cases r with
  | none => exact fun z z0 g => h z z0 ((e z z0).mpr g)
  | some n => exact ⟨h.1, (e n h.1).mp h.2.1, fun z z0 zn g => h.2.2 z z0 zn ((e z z0).mpr g)⟩
theorem Least.uniq {H : Int → Prop} {r q : Option Int} (a : Least H r) (b : Least H q) : r = q := by
  cases r with
  | none =>
    cases q with
    | none => rfl
    | some n => exact absurd b.2.1 (a n b.1)
  | some n =>
    cases q with
    | none => exact absurd a.2.1 (b n a.1)
    | some m =>
      rcases Int.lt_trichotomy n m with c | c | c
      · exact absurd a.2.1 (b.2.2 n a.1 c)
      · rw [c]
      · exact absurd b.2.1 (a.2.2 m b.1 c)
def Hit (s m lo hi n : Int) : Prop := lo ≤ n * s % m ∧ n * s % m ≤ hi
def Ans (s m lo hi : Int) (r : Option Int) : Prop := Least (Hit s m lo hi) r
theorem hit_of {s m lo hi n k : Int} (l0 : 0 < lo) (hm : hi < m) (h1 : lo + m * k ≤ n * s) (h2 : n * s ≤ hi + m * k) : Hit s m lo hi n := by
  have e : n * s % m = n * s - m * k := by
    rw [show n * s = (n * s - m * k) + m * k by omega, Int.add_mul_emod_self_left, Int.emod_eq_of_lt (by omega) (by omega)]
    omega
  unfold Hit
  rw [e]
  omega
theorem of_hit {s m lo hi n : Int} (h : Hit s m lo hi n) : lo + m * (n * s / m) ≤ n * s ∧ n * s ≤ hi + m * (n * s / m) := by
  have d := Int.emod_add_mul_ediv (n * s) m
  obtain ⟨a, b⟩ := h
  omega
theorem cdiv_ge {x s : Int} (hs : 1 ≤ s) : x ≤ (x + s - 1) / s * s := by
  have d := Int.emod_add_mul_ediv (x + s - 1) s
  have := Int.emod_lt_of_pos (x + s - 1) (show 0 < s by omega)
  rw [Int.mul_comm]
  omega
theorem cdiv_lt {x s z : Int} (hs : 1 ≤ s) (h : z < (x + s - 1) / s) : z * s < x := by
  have d := Int.emod_add_mul_ediv (x + s - 1) s
  have := Int.emod_nonneg (x + s - 1) (show s ≠ 0 by omega)
  have l := Int.mul_le_mul_of_nonneg_right (show z + 1 ≤ (x + s - 1) / s by omega) (show 0 ≤ s by omega)
  rw [Int.add_mul, Int.one_mul, Int.mul_comm ((x + s - 1) / s)] at l
  omega
theorem sub_hit {s m lo hi k : Int} (hs : 1 ≤ s) (l0 : 0 < lo) (lh : lo ≤ hi) (no : hi < (lo + s - 1) / s * s) : Hit (m % s) s ((0 - hi) % s) ((0 - lo) % s) k ↔ ∃ n, lo + m * k ≤ n * s ∧ n * s ≤ hi + m * k := by
  obtain ⟨q, hq⟩ : ∃ q, q = (lo + s - 1) / s := ⟨_, rfl⟩
  have q1 := cdiv_lt (x := lo) hs (show q - 1 < (lo + s - 1) / s by omega)
  rw [← hq] at no
  rw [Int.sub_mul, Int.one_mul] at q1
  have eh : (0 - hi) % s = q * s - hi := by
    rw [show 0 - hi = (q * s - hi) + (-q) * s by rw [Int.neg_mul]; omega, Int.add_mul_emod_self_right, Int.emod_eq_of_lt (by omega) (by omega)]
  have el : (0 - lo) % s = q * s - lo := by
    rw [show 0 - lo = (q * s - lo) + (-q) * s by rw [Int.neg_mul]; omega, Int.add_mul_emod_self_right, Int.emod_eq_of_lt (by omega) (by omega)]
  have ex : k * (m % s) % s = m * k % s := by
    rw [Int.mul_emod, Int.emod_emod, ← Int.mul_emod, Int.mul_comm]
  unfold Hit
  rw [eh, el, ex]
  have d := Int.emod_add_mul_ediv (m * k) s
  have x0 := Int.emod_nonneg (m * k) (show s ≠ 0 by omega)
  have x1 := Int.emod_lt_of_pos (m * k) (show 0 < s by omega)
  generalize m * k % s = x at d x0 x1
  generalize m * k / s = y at d
  rw [← d, Int.mul_comm s y]
  constructor
  · rintro ⟨a, b⟩
    refine ⟨q + y, ?_, ?_⟩ <;> rw [Int.add_mul] <;> omega
  · rintro ⟨n, a, b⟩
    obtain ⟨e, he⟩ : ∃ e, n = q - 1 + y + e := ⟨n - q + 1 - y, by omega⟩
    subst he
    rw [Int.add_mul, Int.add_mul, Int.sub_mul, Int.one_mul] at a b
    have e1 : e = 1 := by
      have p : 0 < e := Int.lt_of_mul_lt_mul_right (a := s) (by rw [Int.zero_mul]; omega) (by omega)
      have r : e < 2 := Int.lt_of_mul_lt_mul_right (a := s) (by omega) (by omega)
      omega
    subst e1
    omega
theorem ans_step {s m lo hi : Int} (hs : 1 ≤ s) (sm : s < m) (l0 : 0 < lo) (lh : lo ≤ hi) (hm : hi < m) (no : hi < (lo + s - 1) / s * s) {r : Option Int} (h : Ans (m % s) s ((0 - hi) % s) ((0 - lo) % s) r) : Ans s m lo hi (r.map fun k => (lo + m * k + s - 1) / s) := by
  have sub : ∀ {z : Int}, 0 ≤ z → Hit s m lo hi z → 0 ≤ z * s / m ∧ Hit (m % s) s ((0 - hi) % s) ((0 - lo) % s) (z * s / m) := fun {z} z0 hz =>
    ⟨Int.ediv_nonneg (Int.mul_nonneg z0 (by omega)) (by omega), (sub_hit hs l0 lh no).mpr ⟨z, of_hit hz⟩⟩
  cases r with
  | none => exact fun z z0 hz => h _ (sub z0 hz).1 (sub z0 hz).2
  | some k =>
    obtain ⟨k0, hk, hl⟩ := h
    obtain ⟨n0, a, b⟩ := (sub_hit hs l0 lh no).mp hk
    have mk := Int.mul_nonneg (show 0 ≤ m by omega) k0
    have ge := cdiv_ge (x := lo + m * k) hs
    have le : (lo + m * k + s - 1) / s ≤ n0 := by
      refine Int.not_lt.mp fun q => ?_
      have := cdiv_lt (x := lo + m * k) hs q
      omega
    have le2 := Int.mul_le_mul_of_nonneg_right le (show 0 ≤ s by omega)
    show Least _ (some ((lo + m * k + s - 1) / s))
    refine ⟨Int.ediv_nonneg (by omega) (by omega), hit_of (k := k) l0 hm ge (by omega), fun z z0 zn hz => ?_⟩
    have lt := cdiv_lt (x := lo + m * k) hs zn
    obtain ⟨c0, ch⟩ := sub z0 hz
    obtain ⟨c1, c2⟩ := of_hit hz
    by_cases q : z * s / m < k
    · exact hl _ c0 q ch
    · have := Int.mul_le_mul_of_nonneg_left (show k ≤ z * s / m by omega) (show 0 ≤ m by omega)
      omega
theorem ans_here {s m lo hi : Int} (hs : 1 ≤ s) (sm : s < m) (l0 : 0 < lo) (hm : hi < m) (yes : (lo + s - 1) / s * s ≤ hi) : Ans s m lo hi (some ((lo + s - 1) / s)) := by
  have ge := cdiv_ge (x := lo) hs
  refine ⟨Int.ediv_nonneg (by omega) (by omega), hit_of (k := 0) l0 hm (by omega) (by omega), fun z z0 zn hz => ?_⟩
  have lt := cdiv_lt (x := lo) hs zn
  have zs := Int.mul_nonneg z0 (show 0 ≤ s by omega)
  have := hz.1
  rw [Int.emod_eq_of_lt zs (by omega)] at this
  omega
theorem ans_zero {m lo hi : Int} (l0 : 0 < lo) : Ans 0 m lo hi none := fun z z0 hz => by
  have := hz.1
  rw [Int.mul_zero, Int.zero_emod] at this
  omega
theorem sub_bd {s lo hi : Int} (hs : 1 ≤ s) (l0 : 0 < lo) (lh : lo ≤ hi) (no : hi < (lo + s - 1) / s * s) : 0 < (0 - hi) % s ∧ (0 - hi) % s ≤ (0 - lo) % s ∧ (0 - lo) % s < s := by
  obtain ⟨q, hq⟩ : ∃ q, q = (lo + s - 1) / s := ⟨_, rfl⟩
  have q1 := cdiv_lt (x := lo) hs (show q - 1 < (lo + s - 1) / s by omega)
  rw [← hq] at no
  rw [Int.sub_mul, Int.one_mul] at q1
  have eh : (0 - hi) % s = q * s - hi := by
    rw [show 0 - hi = (q * s - hi) + (-q) * s by rw [Int.neg_mul]; omega, Int.add_mul_emod_self_right, Int.emod_eq_of_lt (by omega) (by omega)]
  have el : (0 - lo) % s = q * s - lo := by
    rw [show 0 - lo = (q * s - lo) + (-q) * s by rw [Int.neg_mul]; omega, Int.add_mul_emod_self_right, Int.emod_eq_of_lt (by omega) (by omega)]
  rw [eh, el]
  omega
theorem half {s m : Int} (hs : 1 ≤ s) (sm : s < m) : 2 * (m % s) ≤ m := by
  have d := Int.emod_add_mul_ediv m s
  have a := Int.emod_nonneg m (show s ≠ 0 by omega)
  have b := Int.emod_lt_of_pos m (show 0 < s by omega)
  have q : 1 ≤ m / s := by
    refine Int.not_lt.mp fun z => ?_
    have := Int.mul_le_mul_of_nonneg_left (show m / s ≤ 0 by omega) (show 0 ≤ s by omega)
    rw [Int.mul_zero] at this
    omega
  have := Int.mul_le_mul_of_nonneg_left q (show 0 ≤ s by omega)
  rw [Int.mul_one] at this
  omega
/-! ### the stretch of the cycle -/
def FHit (c b st f l n : Int) : Prop := (b + n * st - f) % c < l
theorem fhit_iff {c b st f l n : Int} (hc : 1 ≤ c) (ha : l ≤ (b - f) % c) : FHit c b st f l n ↔ Hit (st % c) c (c - (b - f) % c) (c - (b - f) % c + l - 1) n := by
  unfold FHit Hit
  have ex : n * (st % c) % c = n * st % c := by rw [Int.mul_emod, Int.emod_emod, ← Int.mul_emod]
  rw [ex]
  have e : (b + n * st - f) % c = ((b - f) % c + n * st % c) % c := by
    rw [← Int.add_emod]
    congr 1
    omega
  rw [e]
  have a0 := Int.emod_nonneg (b - f) (show c ≠ 0 by omega)
  have a1 := Int.emod_lt_of_pos (b - f) (show 0 < c by omega)
  have y0 := Int.emod_nonneg (n * st) (show c ≠ 0 by omega)
  have y1 := Int.emod_lt_of_pos (n * st) (show 0 < c by omega)
  generalize (b - f) % c = a at *
  generalize n * st % c = y at *
  by_cases q : a + y < c
  · rw [Int.emod_eq_of_lt (by omega) q]
    omega
  · rw [show a + y = (a + y - c) + 1 * c by omega, Int.add_mul_emod_self_right, Int.emod_eq_of_lt (by omega) (by omega)]
    omega
end K04
set_option Elab.async false
set_option linter.all false
set_option maxRecDepth 100000
set_option maxHeartbeats 2000000
set_option autoImplicit false
namespace K04
open PySem L2 DL K01
local macro_rules | `(tactic| walk_at "dl") => `(tactic| simp only [u_dSeq, u_dNext, u_dOwn, u_dOwnE, u_dFld, u_dMake, u_dMeth, u_dProp, u_dIsiO, u_dCallI, u_dSortSet, u_dFrz, e_isC, e_rgO, e_rgn, e_rgi, e_rgs, e_rgb, e_rgt, e_rgl, e_fz1, e_fz2, le_lim, lt_lim, set_snoc0, e_srtI, u_dBreak, u_dCont, u_dDrop, u_dRet, u_dRetN, u_dIfS, u_dNever, u_dAsg, u_dPar, u_dPutK, u_dAppend, u_dExtend, u_dCall, u_dVar, u_dC, u_dOp, u_dChain, u_dUn, u_dB, u_dNot, u_dAnd, u_dOr, u_dAndV, u_dOrV, u_dNotV, u_dIf, u_dNil, u_dCons, u_dTup, u_dLst, u_dLstC, u_dCB, u_dInK, u_dGetK, u_dDicC, u_dNoPart, u_dPart, u_dSl, u_dBits, u_dRev, u_dgName, u_dgsNil, u_dgsCons, u_dgTup, u_dgSet, u_diSeq, u_diR1, e_diR2, e_r2, u_diEnum, u_diEnumU, u_diZip, endD, finZ_d, finD, finC, List.take_length, u_dYes, wipeD, ix0, ix1, ix2, get_snoc, set_snoc, take_snoc, u_dOpC, u_dSlC, u_dListC, e_addC, e_mulC, e_loCl, e_loCt, e_loCs, e_wd, e_wc0, e_wcs, e_wsn, e_wc1, e_wc2, e_wl0, e_wl1, e_dl0, e_dl1, e_sl, e_st, e_ss, e_addi, e_adds, e_addt, e_addl, e_sub, e_muli, e_mult, e_mull, e_fdiv, e_mod, e_pow, e_neg, e_lt, e_le, e_gt, e_ge, e_eqi, e_eqs, e_eql, e_eqt, e_eqb, e_eqn, e_nei, e_nes, e_nel, e_net, e_neb, e_nen, e_isb, e_isn, e_inb, e_inn, e_in1, e_in2, e_in3, e_in4, e_in5, e_ixt, e_ixl, e_ixs, e_at0, e_at1, e_at2, e_at3, e_at4, e_at5, e_atl, e_keyi, e_keys, e_lenl, e_lent, e_lens, e_lend, e_maxi, e_mini, e_maxl, e_minl, e_sum, e_all, e_any, e_inti, e_intb, e_abs, e_tol, e_tot, e_tos, e_lol, e_lot, e_los, e_sll, e_slt, e_rvl, e_rvt, e_repr, e_isi, e_srtl, e_srtt, List.map_cons, List.map_nil, List.length_cons, List.length_nil, List.cons_append, List.nil_append, List.flatten_cons, List.flatten_nil, List.append_nil, List.replicate_succ, List.replicate_zero, List.getElem?_cons_zero, List.getElem?_cons_succ, List.set_cons_zero, List.set_cons_succ, Nat.reduceSub, Nat.reduceAdd, Int.reduceToNat, Int.reduceLE, Int.reduceLT, Int.reduceNeg, Nat.reduceLeDiff, Nat.reduceLT, Nat.zero_add, Option.some.injEq, Z.d.injEq, Z.c.injEq, D.bl.injEq, D.int.injEq, D.tup.injEq, D.lst.injEq, List.take_succ_cons, List.take_zero, exists_eq_left', exists_eq_left, true_and, and_true, if_true, Bool.not_true, Bool.not_false, Bool.false_eq_true, if_false, decide_true, decide_false, n_vK])
/-! ### the pond -/
def Pond (L : Nat) (x : D) : Prop := ∃ d m c : Int, x = .lst [.int d, .int m, .int c] ∧ 0 ≤ d ∧ 0 ≤ m ∧ m < 10 ^ 50 ∧ 0 ≤ c ∧ c ≤ (L : Int)
theorem Pond.le {L M : Nat} {x : D} (h : Pond L x) (l : L ≤ M) : Pond M x :=
  let ⟨d, m, c, a, b, e, f, g, i⟩ := h
  ⟨d, m, c, a, b, e, f, g, by omega⟩
def sp_l_pond : DSpec := fun zs cs k => match zs with
  | [.d (.scr ns), .d (.int j)] => (0 ≤ j ∧ j < 1000) ∧ ∀ x, Pond 0 x → k (.c cs.length) (cs ++ [x])
  | _ => False
theorem len_l_pond : ∀ zs cs q, sp_l_pond zs cs q → zs.length = (["_law_script", "_law_k"] : List Str).length := fun zs cs q h => by
  unfold sp_l_pond at h
  split at h
  · rfl
  · exact h.elim
def t_l_pond : DS :=
  (dSeq (dAsg (dC (.int 0)) (dgName 2))
  (dSeq (dIfS (dB (dOp ltD (dVar 1) (dCB lenD (dCons (dVar 0) dNil)))) (dAsg (dOp ixD (dVar 0) (dVar 1)) (dgName 2)) dNext)
  (dLock (dRet (dLstC (dCons (dCB maxD (dCons (dC (.int 0)) (dCons (dOp subD (dVar 2) (dOp powD (dC (.int 10)) (dC (.int 18)))) dNil))) (dCons (dOp addD (dOp modD (dVar 2) (dOp addD (dOp powD (dC (.int 10)) (dC (.int 38))) (dC (.int 133)))) (dOp mulD (dC (.int 15487469)) (dVar 1))) (dCons (dC (.int 0)) dNil))))))))
theorem rd_l_pond : ∀ zs cs q, sp_l_pond zs cs q → t_l_pond (endD cs.length q) (startD ["_law_script", "_law_k", "_law_cell"] zs) cs := fun zs cs q h => by
  unfold sp_l_pond at h
  split at h
  rotate_left
  · exact h.elim
  rename_i ns j
  simp only [startD, List.map_cons, List.map_nil, List.length_cons, List.length_nil, Nat.reduceAdd, Nat.zero_add, Nat.reduceSub, List.replicate_zero, List.replicate_succ, List.cons_append, List.nil_append, List.append_nil]
  obtain ⟨⟨h1, h2⟩, h⟩ := h
  have fin : ∀ c : Int, FinZ cs.length q (.c cs.length) (cs ++ [.lst [.int (max 0 (c - 10 ^ 18)), .int (c % (10 ^ 38 + 133) + 15487469 * j), .int 0]]) := fun c => by
    refine finZ_new (Nat.le_refl _) (get_snoc _ _) ?_
    rw [List.take_left]
    refine h _ ⟨_, _, _, rfl, Int.le_max_left _ _, ?_, ?_, by decide, by decide⟩
    · have := Int.emod_nonneg c (show (10 ^ 38 + 133 : Int) ≠ 0 from by decide)
      omega
    · have := Int.emod_lt_of_pos c (show (0 : Int) < 10 ^ 38 + 133 from by decide)
      omega
  have s10 : Sm 10 := Sm.of (by decide) (by decide)
  have s1 : Sm 15487469 := Sm.of (by decide) (by decide)
  have s2 : Sm j := Sm.of (by omega) (by omega)
  unfold t_l_pond dLock
  by_cases hc : j < (ns.length : Int)
  · obtain ⟨c, e⟩ : ∃ c, atI ns j = some c := ⟨_, at_int h1 (List.getElem?_eq_getElem (by omega))⟩
    walk_at "dl"
    simp only [hc, decide_true, if_true]
    refine ⟨c, e, ?_⟩
    refine ⟨s10, s10, by decide, ⟨s1, s2⟩, ?_⟩
    exact fin c
  · walk_at "dl"
    simp only [hc, decide_false, Bool.false_eq_true, if_false]
    refine ⟨s10, s10, by decide, ⟨s1, s2⟩, ?_⟩
    exact fin 0
def sp_l_fish_1 : DSpec := fun zs cs k => match zs, cs with
  | [.c 0, .d (.int b)], x :: rest => ∃ L, Pond L x ∧ (0 < b ∧ b ≤ 10 ^ 30 ∧ L ≤ 10 ^ 12) ∧ ∀ r x', 0 ≤ r → r < b → Pond (L + 1) x' → k (.d (.int r)) (x' :: rest)
  | _, _ => False
theorem len_l_fish_1 : ∀ zs cs q, sp_l_fish_1 zs cs q → zs.length = (["_law_pond_here", "_law_bound"] : List Str).length := fun zs cs q h => by
  unfold sp_l_fish_1 at h
  split at h
  · rfl
  · exact h.elim
def t_l_fish_1 : DS :=
  (dSeq (dIfS (dB (dOp gtD (dVar 1) (dOp powD (dC (.int 10)) (dC (.int 30))))) dNever dNext)
  (dSeq (dIfS (dB (dOp gtD (dOp ixD (dVar 0) (dC (.int 0))) (dC (.int 0)))) (dSeq (dAsg (dOp modD (dOp ixD (dVar 0) (dC (.int 0))) (dVar 1)) (dgName 2))
  (dSeq (dAsg (dOp fdivD (dOp ixD (dVar 0) (dC (.int 0))) (dVar 1)) (dgSet (dVar 0) (dC (.int 0))))
  (dRet (dVar 2)))) dNext)
  (dSeq (dAsg (dOp addD (dOp ixD (dVar 0) (dC (.int 2))) (dC (.int 1))) (dgSet (dVar 0) (dC (.int 2))))
  (dSeq (dAsg (dOp modD (dOp powD (dOp addD (dOp ixD (dVar 0) (dC (.int 1))) (dOp mulD (dC (.int 49979687)) (dOp ixD (dVar 0) (dC (.int 2))))) (dC (.int 3))) (dOp addD (dOp powD (dC (.int 10)) (dC (.int 42))) (dC (.int 63)))) (dgName 4))
  (dSeq (dAsg (dOp modD (dOp powD (dOp addD (dVar 4) (dOp mulD (dC (.int 67867967)) (dOp ixD (dVar 0) (dC (.int 2))))) (dC (.int 3))) (dOp addD (dOp powD (dC (.int 10)) (dC (.int 44))) (dC (.int 57)))) (dgName 4))
  (dRet (dOp modD (dOp fdivD (dVar 4) (dC (.int 786433))) (dVar 1))))))))
theorem rd_l_fish_1 : ∀ zs cs q, sp_l_fish_1 zs cs q → t_l_fish_1 (endD cs.length q) (startD ["_law_pond_here", "_law_bound", "_law_found", "_law_turn", "_law_mixed"] zs) cs := fun zs cs q h => by
  unfold sp_l_fish_1 at h
  split at h
  rotate_left
  · exact h.elim
  simp only [startD, List.map_cons, List.map_nil, List.length_cons, List.length_nil, Nat.reduceAdd, Nat.zero_add, Nat.reduceSub, List.replicate_zero, List.replicate_succ, List.cons_append, List.nil_append, List.append_nil]
  rename_i b x rest
  obtain ⟨L, ⟨d, m, c, rfl, d0, m0, m1, c0, c1⟩, ⟨b0, b1, hL⟩, h⟩ := h
  unfold t_l_fish_1
  walk_at "dl"
  have s10 : Sm 10 := Sm.of (by decide) (by decide)
  have s1 : Sm 49979687 := Sm.of (by decide) (by decide)
  have s2 : Sm 67867967 := Sm.of (by decide) (by decide)
  have s3 : Sm (c + 1) := Sm.of (by omega) (by omega)
  have s4 : Sm (m + 49979687 * (c + 1)) := Sm.of (by omega) (by omega)
  refine ⟨s10, ?_⟩
  rw [if_neg (by simpa using b1)]
  by_cases hd : 0 < d
  · rw [if_pos (by simpa using hd)]
    exact ⟨b0, Dv.of b0 (by omega), h _ _ (Int.emod_nonneg _ (by omega)) (Int.emod_lt_of_pos _ b0) ⟨_, _, _, rfl, Int.ediv_nonneg d0 (by omega), m0, m1, c0, by omega⟩⟩
  · rw [if_neg (by simpa using hd)]
    refine ⟨⟨s1, s3⟩, s4, s10, by decide, ⟨s2, s3⟩, ?_, s10, by decide, Dv.of (by decide) (by decide), b0, h _ _ (Int.emod_nonneg _ (by omega)) (Int.emod_lt_of_pos _ b0) ⟨_, _, _, rfl, d0, m0, m1, by omega, by omega⟩⟩
    have g1 := Int.emod_nonneg ((m + 49979687 * (c + 1)) ^ 3) (show (10 ^ 42 + 63 : Int) ≠ 0 from by decide)
    have g2 := Int.emod_lt_of_pos ((m + 49979687 * (c + 1)) ^ 3) (show (0 : Int) < 10 ^ 42 + 63 from by decide)
    generalize (m + 49979687 * (c + 1)) ^ 3 % (10 ^ 42 + 63) = y at g1 g2
    exact Sm.of (by omega) (by omega)
theorem bits_le {b : Int} (h0 : 0 < b) (h : b ≤ 10 ^ 100) : Builtin.Int.intBits b ≤ 340 := by
  unfold Builtin.Int.intBits
  have h2 : b.natAbs < 2 ^ 340 := Nat.lt_of_le_of_lt (show b.natAbs ≤ 10 ^ 100 by omega) (by decide +kernel)
  have h3 := lt_pow_log2 (k := 340) (by decide) h2
  split <;> omega
def sp_l_fish : DSpec := fun zs cs k => match zs, cs with
  | [.c 0, .d (.int b)], x :: rest => ∃ L, Pond L x ∧ (0 < b ∧ b ≤ 10 ^ 100 ∧ L ≤ 10 ^ 11) ∧ ∀ r x', 0 ≤ r → r < b → Pond (L + 10) x' → k (.d (.int r)) (x' :: rest)
  | _, _ => False
theorem len_l_fish : ∀ zs cs q, sp_l_fish zs cs q → zs.length = (["_law_pond_here", "_law_bound"] : List Str).length := fun zs cs q h => by
  unfold sp_l_fish at h
  split at h
  · rfl
  · exact h.elim
def t_l_fish : DS :=
  (dSeq (dIfS (dB (dOp gtD (dVar 1) (dOp powD (dC (.int 10)) (dC (.int 30))))) (dSeq (dAsg (dC (.int 0)) (dgName 2))
  (dSeq (dFor (diR1 (dOp addD (dC (.int 1)) (dOp fdivD (dBits (dVar 1)) (dC (.int 90))))) (dgName 3) (dAsg (dOp addD (dOp mulD (dVar 2) (dOp powD (dC (.int 10)) (dC (.int 30)))) (dCall sp_l_fish_1 (dCons (dVar 0) (dCons (dOp powD (dC (.int 10)) (dC (.int 30))) dNil)))) (dgName 2)))
  (dRet (dOp modD (dVar 2) (dVar 1))))) dNext)
  (dSeq (dIfS (dB (dOp gtD (dOp ixD (dVar 0) (dC (.int 0))) (dC (.int 0)))) (dSeq (dAsg (dOp modD (dOp ixD (dVar 0) (dC (.int 0))) (dVar 1)) (dgName 2))
  (dSeq (dAsg (dOp fdivD (dOp ixD (dVar 0) (dC (.int 0))) (dVar 1)) (dgSet (dVar 0) (dC (.int 0))))
  (dRet (dVar 2)))) dNext)
  (dSeq (dAsg (dOp addD (dOp ixD (dVar 0) (dC (.int 2))) (dC (.int 1))) (dgSet (dVar 0) (dC (.int 2))))
  (dSeq (dAsg (dOp modD (dOp powD (dOp addD (dOp ixD (dVar 0) (dC (.int 1))) (dOp mulD (dC (.int 49979687)) (dOp ixD (dVar 0) (dC (.int 2))))) (dC (.int 3))) (dOp addD (dOp powD (dC (.int 10)) (dC (.int 42))) (dC (.int 63)))) (dgName 4))
  (dSeq (dAsg (dOp modD (dOp powD (dOp addD (dVar 4) (dOp mulD (dC (.int 67867967)) (dOp ixD (dVar 0) (dC (.int 2))))) (dC (.int 3))) (dOp addD (dOp powD (dC (.int 10)) (dC (.int 44))) (dC (.int 57)))) (dgName 4))
  (dRet (dOp modD (dOp fdivD (dVar 4) (dC (.int 786433))) (dVar 1))))))))
theorem rd_l_fish : ∀ zs cs q, sp_l_fish zs cs q → t_l_fish (endD cs.length q) (startD ["_law_pond_here", "_law_bound", "_law_found", "_law_turn", "_law_mixed"] zs) cs := fun zs cs q h => by
  unfold sp_l_fish at h
  split at h
  rotate_left
  · exact h.elim
  simp only [startD, List.map_cons, List.map_nil, List.length_cons, List.length_nil, Nat.reduceAdd, Nat.zero_add, Nat.reduceSub, List.replicate_zero, List.replicate_succ, List.cons_append, List.nil_append, List.append_nil]
  rename_i b x rest
  obtain ⟨L, hP, ⟨b0, b1, hL⟩, h⟩ := h
  obtain ⟨d, m, c, rfl, d0, m0, m1, c0, c1⟩ := id hP
  have s10 : Sm 10 := Sm.of (by decide) (by decide)
  by_cases hb : b ≤ 10 ^ 30
  · have key := rd_l_fish_1 [.c 0, .d (.int b)] (.lst [.int d, .int m, .int c] :: rest) q ⟨L, hP, ⟨b0, hb, by omega⟩, fun r x' r0 r1 p => h r x' r0 r1 (p.le (by omega))⟩
    simp only [startD, List.map_cons, List.map_nil, List.length_cons, List.length_nil, Nat.reduceAdd, Nat.zero_add, Nat.reduceSub, List.replicate_zero, List.replicate_succ, List.cons_append, List.nil_append, List.append_nil] at key
    revert key
    have e : decide (10 ^ 30 < b) = false := decide_eq_false (by omega)
    unfold t_l_fish_1 t_l_fish
    walk_at "dl"
    simp only [e, Bool.false_eq_true, if_false]
    exact id
  · have s10 : Sm 10 := Sm.of (by decide) (by decide)
    have sp30 : Sm (10 ^ 30) := Sm.of (by decide) (by decide)
    have bl := bits_le b0 b1
    unfold t_l_fish
    walk_at "dl"
    refine ⟨s10, ?_⟩
    rw [if_pos (by simpa using hb)]
    refine dFor_mk (rgD 0 (1 + (Builtin.Int.intBits b : Int) / 90).toNat) yes (.lst [.int d, .int m, .int c] :: rest) (fun K h => ?_) (fun i en cs => ∃ (f : Int) (x : D) (o3 o4 : Option Z), en = [some (.c 0), some (.d (.int b)), some (.d (.int f)), o3, o4] ∧ cs = x :: rest ∧ 0 ≤ f ∧ f < (10 ^ 30) ^ i ∧ Pond (L + i) x) ?_ (fun i d en cs hd hI => ?_) (fun en cs hI => ?_) (fun _ _ _ _ => trivial)
    · walk_at "dl"
      exact ⟨Dv.of (by decide) (by decide), ⟨by omega, by omega⟩, h⟩
    · exact ⟨0, _, _, _, rfl, rfl, by decide, by decide, hP⟩
    · obtain ⟨hi, rfl⟩ := rgD_get hd
      obtain ⟨f, x, o3, o4, rfl, rfl, f0, f1, hp⟩ := hI
      have hi2 : i ≤ 4 := by omega
      have f2 : f < 10 ^ 120 := Int.lt_of_lt_of_le f1 (by
        have : i = 0 ∨ i = 1 ∨ i = 2 ∨ i = 3 ∨ i = 4 := by omega
        rcases this with rfl | rfl | rfl | rfl | rfl <;> decide)
      walk_at "dl"
      refine ⟨s10, ⟨Sm.of (by omega) (by omega), sp30⟩, s10, ?_⟩
      simp only [sp_l_fish_1]
      refine ⟨L + i, hp, ⟨by decide, by decide, by omega⟩, fun r x' r0 r1 p => ?_⟩
      refine .inl ⟨_, _, _, _, rfl, rfl, by omega, ?_, p⟩
      rw [show (10 ^ 30 : Int) ^ (i + 1) = (10 ^ 30) ^ i * 10 ^ 30 from Int.pow_succ _ _]
      generalize (10 ^ 30 : Int) ^ i = y at f1 ⊢
      omega
    · obtain ⟨f, x, o3, o4, rfl, rfl, f0, f1, hp⟩ := hI
      walk_at "dl"
      rw [rgD_len] at hp
      exact ⟨b0, h _ _ (Int.emod_nonneg _ (by omega)) (Int.emod_lt_of_pos _ b0) (hp.le (by omega))⟩
theorem fish_use {L : Nat} {x : D} {rest : Cs} {b : Int} {k : Z → Cs → Prop} (hp : Pond L x) (hb : 0 < b ∧ b ≤ 10 ^ 100 ∧ L ≤ 10 ^ 11) (h : ∀ r x', 0 ≤ r → r < b → Pond (L + 10) x' → k (.d (.int r)) (x' :: rest)) :
    sp_l_fish [.c 0, .d (.int b)] (x :: rest) k := ⟨L, hp, hb, h⟩
theorem dWhile_mk {c : DT} {b : DS} {D0 : DEnds} {en : En} {cs : Cs} (I : Nat → En → Cs → Prop) (m : Nat) (h0 : I m en cs)
    (st : ∀ m en cs1, I m en cs1 → c en cs1 fun k cs2 => if k = true then b { D0 with nx := Wkn cs.length fun en2 cs2 => ∃ m', m' < m ∧ I m' en2 cs2, ct := Wkn cs.length fun en2 cs2 => ∃ m', m' < m ∧ I m' en2 cs2, bk := D0.nx } en cs2 else D0.nx en cs2) :
    dWhile c b D0 en cs := ⟨I, ⟨m, h0⟩, st⟩
/-- a comprehension whose elements come of calls that change cells -/
theorem dLc_gen {fin : (Z → Cs → Prop) → List D → Cs → Prop} {it : DI} {g : DG} {te : DE} {own : List Nat} {en : En} {cs : Cs} {k : Z → Cs → Prop} (ds : List D) (keep : Cs → Prop) (cs1 : Cs) (hit : ∀ K, K ds keep cs1 → it en cs K) (I : Nat → List D → Cs → Prop)
    (h0 : I 0 [] cs1) (hl : ∀ i acc c, I i acc c → c.length = cs1.length ∧ keep (c ++ [.lst acc]))
    (hs : ∀ i d acc c, ds[i]? = some d → I i acc c → g (.d d) (wipeD en own) (c ++ [.lst acc]) fun en2 cs2 => te en2 cs2 fun z cs4 => ∃ y c', z = .d y ∧ cs4.take (c.length + 1) = c' ++ [.lst acc] ∧ c'.length = c.length ∧ acc.length < LIM ∧ I (i + 1) (acc ++ [y]) c')
    (he : ∀ acc c, I ds.length acc c → fin k acc c) : dLcG fin it g dYes te own en cs k := by
  refine hit _ ⟨I, h0, hl, fun i d acc c hd hI => ?_, he⟩
  have e : (fun (en2 : En) (cs2 : Cs) => dYes en2 cs2 fun b cs3 =>
    if b = true then te en2 cs3 fun z cs4 => ∃ y c', z = .d y ∧ cs4.take (c.length + 1) = c' ++ [.lst acc] ∧ c'.length = c.length ∧ acc.length < LIM ∧ I (i + 1) (acc ++ [y]) c'
    else ∃ c', cs3.take (c.length + 1) = c' ++ [.lst acc] ∧ c'.length = c.length ∧ I (i + 1) acc c') = fun en2 cs2 => te en2 cs2 fun z cs4 => ∃ y c', z = .d y ∧ cs4.take (c.length + 1) = c' ++ [.lst acc] ∧ c'.length = c.length ∧ acc.length < LIM ∧ I (i + 1) (acc ++ [y]) c' := by
    funext en2 cs2
    simp only [dYes, if_true]
  rw [e]
  exact hs i d acc c hd hI
end K04
set_option Elab.async false
set_option linter.all false
set_option maxRecDepth 100000
set_option maxHeartbeats 2000000
set_option autoImplicit false
namespace K04
open PySem L2 DL K01
local macro_rules | `(tactic| walk_at "dl") => `(tactic| simp only [u_dSeq, u_dNext, u_dOwn, u_dOwnE, u_dFld, u_dMake, u_dMeth, u_dProp, u_dIsiO, u_dCallI, u_dSortSet, u_dFrz, e_isC, e_rgO, e_rgn, e_rgi, e_rgs, e_rgb, e_rgt, e_rgl, e_fz1, e_fz2, le_lim, lt_lim, set_snoc0, e_srtI, u_dBreak, u_dCont, u_dDrop, u_dRet, u_dRetN, u_dIfS, u_dNever, u_dAsg, u_dPar, u_dPutK, u_dAppend, u_dExtend, u_dCall, u_dVar, u_dC, u_dOp, u_dChain, u_dUn, u_dB, u_dNot, u_dAnd, u_dOr, u_dAndV, u_dOrV, u_dNotV, u_dIf, u_dNil, u_dCons, u_dTup, u_dLst, u_dLstC, u_dCB, u_dInK, u_dGetK, u_dDicC, u_dNoPart, u_dPart, u_dSl, u_dBits, u_dRev, u_dgName, u_dgsNil, u_dgsCons, u_dgTup, u_dgSet, u_diSeq, u_diR1, e_diR2, e_r2, u_diEnum, u_diEnumU, u_diZip, endD, finZ_d, finD, finC, List.take_length, u_dYes, wipeD, ix0, ix1, ix2, get_snoc, set_snoc, take_snoc, u_dOpC, u_dSlC, u_dListC, e_addC, e_mulC, e_loCl, e_loCt, e_loCs, e_wd, e_wc0, e_wcs, e_wsn, e_wc1, e_wc2, e_wl0, e_wl1, e_dl0, e_dl1, e_sl, e_st, e_ss, e_addi, e_adds, e_addt, e_addl, e_sub, e_muli, e_mult, e_mull, e_fdiv, e_mod, e_pow, e_neg, e_lt, e_le, e_gt, e_ge, e_eqi, e_eqs, e_eql, e_eqt, e_eqb, e_eqn, e_nei, e_nes, e_nel, e_net, e_neb, e_nen, e_isb, e_isn, e_inb, e_inn, e_in1, e_in2, e_in3, e_in4, e_in5, e_ixt, e_ixl, e_ixs, e_at0, e_at1, e_at2, e_at3, e_at4, e_at5, e_atl, e_keyi, e_keys, e_lenl, e_lent, e_lens, e_lend, e_maxi, e_mini, e_maxl, e_minl, e_sum, e_all, e_any, e_inti, e_intb, e_abs, e_tol, e_tot, e_tos, e_lol, e_lot, e_los, e_sll, e_slt, e_rvl, e_rvt, e_repr, e_isi, e_srtl, e_srtt, List.map_cons, List.map_nil, List.length_cons, List.length_nil, List.cons_append, List.nil_append, List.flatten_cons, List.flatten_nil, List.append_nil, List.replicate_succ, List.replicate_zero, List.getElem?_cons_zero, List.getElem?_cons_succ, List.set_cons_zero, List.set_cons_succ, Nat.reduceSub, Nat.reduceAdd, Int.reduceToNat, Int.reduceLE, Int.reduceLT, Int.reduceNeg, Nat.reduceLeDiff, Nat.reduceLT, Nat.zero_add, Option.some.injEq, Z.d.injEq, Z.c.injEq, D.bl.injEq, D.int.injEq, D.tup.injEq, D.lst.injEq, List.take_succ_cons, List.take_zero, exists_eq_left', exists_eq_left, true_and, and_true, if_true, Bool.not_true, Bool.not_false, Bool.false_eq_true, if_false, decide_true, decide_false, n_vK])
def sp_require_number : DSpec := fun zs cs k => match zs with
  | [.d (.int _)] => k (.d .non) cs
  | _ => False
theorem len_require_number : ∀ zs cs q, sp_require_number zs cs q → zs.length = (["value"] : List Str).length := fun zs cs q h => by
  unfold sp_require_number at h
  split at h
  · rfl
  · exact h.elim
def t_require_number : DS :=
  (dIfS (dNot (dB (dCall sp_is_int (dCons (dVar 0) dNil)))) dNever dNext)
theorem rd_require_number : ∀ zs cs q, sp_require_number zs cs q → t_require_number (endD cs.length q) (startD ["value"] zs) cs := fun zs cs q h => by
  unfold sp_require_number at h
  split at h
  rotate_left
  · exact h.elim
  rename_i n
  simp only [startD, List.map_cons, List.map_nil, List.length_cons, List.length_nil, Nat.reduceAdd, Nat.zero_add, Nat.reduceSub, List.replicate_zero, List.replicate_succ, List.cons_append, List.nil_append, List.append_nil]
  unfold t_require_number
  try walk_at "dl"
  simp only [sp_is_int]
  refine ⟨rfl, ?_⟩
  try walk_at "dl"
  simpa [isInt] using h
abbrev Fr := Int × Int × Int
def frD (f : Fr) : D := .tup [.int f.1, .int f.2.1, .int f.2.2]
def stp (f : Fr) (k : Int) : Int := (f.2.2 + f.2.1 * k + f.1 - 1) / f.1
def unw (fs : List Fr) (k : Int) : Int := fs.foldr stp k
theorem unw_snoc (fs : List Fr) (f : Fr) (k : Int) : unw (fs ++ [f]) k = unw fs (stp f k) := by
  unfold unw
  rw [List.foldr_append]
  rfl
def FrOk (f : Fr) : Prop := 1 ≤ f.1 ∧ f.1 ≤ 10 ^ 30 ∧ 0 ≤ f.2.1 ∧ f.2.1 ≤ 10 ^ 30 ∧ 0 ≤ f.2.2 ∧ f.2.2 ≤ 10 ^ 30
def optD : Option Int → D
  | none => .non
  | some n => .int n
theorem frs_snoc (fs : List Fr) (f : Fr) : (fs ++ [f]).map frD = fs.map frD ++ [frD f] := by
  rw [List.map_append]
  rfl
theorem get_fr {fs : List Fr} {i : Nat} {d : D} (h : (fs.map frD)[i]? = some d) : ∃ f, fs[i]? = some f ∧ d = frD f := by
  rw [List.getElem?_map] at h
  obtain ⟨f, h1, h2⟩ := Option.map_eq_some_iff.mp h
  exact ⟨f, h1, h2.symm⟩
def sp_least_multiple : DSpec := fun zs cs k => match zs with
  | [.d (.int s), .d (.int m), .d (.int lo), .d (.int hi)] => (0 ≤ s ∧ s < m ∧ 0 < lo ∧ lo ≤ hi ∧ hi < m ∧ m ≤ 10 ^ 30) ∧ ∀ r, Ans s m lo hi r → k (.d (optD r)) cs
  | _ => False
theorem len_least_multiple : ∀ zs cs q, sp_least_multiple zs cs q → zs.length = (["step", "modulus", "low", "high"] : List Str).length := fun zs cs q h => by
  unfold sp_least_multiple at h
  split at h
  · rfl
  · exact h.elim
def t_least_multiple : DS :=
  (dSeq (dAsg (dLstC dNil) (dgName 4))
  (dSeq (dAsg (dC (.int 0)) (dgName 5))
  (dSeq (dWhile (dB (dOp gtD (dVar 2) (dC (.int 0)))) (dSeq (dIfS (dB (dOp eqUD (dVar 0) (dC (.int 0)))) (dRet (dC .non)) dNext)
  (dSeq (dAsg (dOp fdivD (dOp subD (dOp addD (dVar 2) (dVar 0)) (dC (.int 1))) (dVar 0)) (dgName 5))
  (dIfS (dB (dOp leD (dOp mulD (dVar 5) (dVar 0)) (dVar 3))) (dAsg (dC (.int 0)) (dgName 2)) (dSeq (dDrop (dAppend (dVar 4) (dTup (dCons (dVar 0) (dCons (dVar 1) (dCons (dVar 2) dNil))))))
  (dSeq (dPar 2 3 (dCons (dOp modD (dOp subD (dC (.int 0)) (dVar 3)) (dVar 0)) (dCons (dOp modD (dOp subD (dC (.int 0)) (dVar 2)) (dVar 0)) dNil)))
  (dSeq (dPar 0 1 (dCons (dOp modD (dVar 1) (dVar 0)) (dCons (dVar 0) dNil)))
  (dAsg (dC (.int 0)) (dgName 5)))))))))
  (dFrz 4 (dSeq (dFor (diSeq (dRev (dVar 4))) (dgTup 3 (dgsCons (dgName 0) (dgsCons (dgName 1) (dgsCons (dgName 2) dgsNil)))) (dAsg (dOp fdivD (dOp subD (dOp addD (dOp addD (dVar 2) (dOp mulD (dVar 1) (dVar 5))) (dVar 0)) (dC (.int 1))) (dVar 0)) (dgName 5)))
  (dRet (dVar 5)))))))
theorem rd_least_multiple : ∀ zs cs q, sp_least_multiple zs cs q → t_least_multiple (endD cs.length q) (startD ["step", "modulus", "low", "high", "frames", "found"] zs) cs := fun zs cs q h => by
  unfold sp_least_multiple at h
  split at h
  rotate_left
  · exact h.elim
  rename_i s0 m0 lo0 hi0
  simp only [startD, List.map_cons, List.map_nil, List.length_cons, List.length_nil, Nat.reduceAdd, Nat.zero_add, Nat.reduceSub, List.replicate_zero, List.replicate_succ, List.cons_append, List.nil_append, List.append_nil]
  obtain ⟨⟨a1, a2, a3, a4, a5, a6⟩, h⟩ := h
  unfold t_least_multiple
  walk_at "dl"
  refine dWhile_mk (fun t en cx => ∃ (fs : List Fr) (s m lo hi fd : Int), en = [some (.d (.int s)), some (.d (.int m)), some (.d (.int lo)), some (.d (.int hi)), some (.c cs.length), some (.d (.int fd))] ∧ cx = cs ++ [.lst (fs.map frD)] ∧ (∀ f ∈ fs, FrOk f) ∧
      ((0 < lo ∧ t = s.toNat + 1 ∧ 0 ≤ s ∧ s < m ∧ lo ≤ hi ∧ hi < m ∧ m ≤ 10 ^ 30 ∧ ((2 ^ fs.length : Nat) : Int) * (m * s) ≤ 10 ^ 60 ∧ fs.length ≤ 200 ∧ ∀ r, Ans s m lo hi r → Ans s0 m0 lo0 hi0 (r.map (unw fs))) ∨
       (lo = 0 ∧ t = 0 ∧ fs.length ≤ 200 ∧ 0 ≤ fd ∧ fd ≤ 10 ^ 32 ∧ Ans s0 m0 lo0 hi0 (some (unw fs fd))))) (s0.toNat + 1)
    ⟨[], s0, m0, lo0, hi0, 0, rfl, rfl, fun f hf => by simp at hf, .inl ⟨a3, rfl, a1, a2, a4, a5, a6, ?_, by simp, fun r hr => by
      have : r.map (unw []) = r := by cases r <;> rfl
      rw [this]
      exact hr⟩⟩ fun t en cx hI => ?_
  · have := Int.mul_le_mul a6 (show s0 ≤ 10 ^ 30 by omega) a1 (by decide)
    rw [show ((2 ^ ([] : List Fr).length : Nat) : Int) = 1 from rfl, Int.one_mul]
    omega
  obtain ⟨fs, s, m, lo, hi, fd, rfl, rfl, hfs, hI⟩ := hI
  walk_at "dl"
  rcases hI with ⟨b1, rfl, b2, b3, b4, b5, b6, b7, b8, hA⟩ | ⟨rfl, rfl, b1, b2, b3, hA⟩
  · rw [if_pos (decide_eq_true b1)]
    by_cases hs : s = 0
    · subst hs
      rw [if_pos (decide_eq_true rfl)]
      exact h none (hA none (ans_zero b1))
    have s1 : 1 ≤ s := by omega
    rw [if_neg (by simpa using hs)]
    have f0 : 0 ≤ (lo + s - 1) / s := Int.ediv_nonneg (by omega) (by omega)
    have f1 : (lo + s - 1) / s ≤ lo + s - 1 := Int.ediv_le_self _ (by omega)
    refine ⟨Dv.of (by omega) (by omega), ⟨Sm.of (by omega) (by omega), Sm.of (by omega) (by omega)⟩, ?_⟩
    by_cases yes : (lo + s - 1) / s * s ≤ hi
    · rw [if_pos (decide_eq_true yes)]
      exact .inl ⟨0, by omega, fs, s, m, 0, hi, (lo + s - 1) / s, rfl, rfl, hfs, .inr ⟨rfl, rfl, b8, f0, by omega, hA _ (ans_here s1 b3 b1 b5 yes)⟩⟩
    · rw [if_neg (by simpa using yes)]
      have no : hi < (lo + s - 1) / s * s := by omega
      obtain ⟨c1, c2, c3⟩ := sub_bd s1 b1 b4 no
      have hm := half s1 b3
      have r0 := Int.emod_nonneg m (show s ≠ 0 by omega)
      have r1 := Int.emod_lt_of_pos m (show 0 < s by omega)
      have ms : 1 ≤ m * s := Int.mul_le_mul (show (1 : Int) ≤ m by omega) s1 (by omega) (by omega)
      have p0 : (0 : Int) ≤ ((2 ^ fs.length : Nat) : Int) := Int.natCast_nonneg _
      have len : fs.length < 200 := by
        refine Nat.lt_of_not_le fun q => ?_
        have q2 := Nat.pow_le_pow_right (n := 2) (by decide) q
        have q3 := Int.mul_le_mul_of_nonneg_left ms p0
        have q4 : (10 : Int) ^ 60 < ((2 ^ 200 : Nat) : Int) := by decide +kernel
        omega
      refine ⟨lim_lt (by rw [List.length_map]; omega), by omega, by omega, by omega, .inl ⟨(m % s).toNat + 1, by omega, fs ++ [(s, m, lo)], m % s, s, (0 - hi) % s, (0 - lo) % s, 0, rfl, by rw [frs_snoc]; rfl, fun f hf => ?_, .inl ⟨c1, rfl, r0, r1, c2, c3, by omega, ?_, by rw [List.length_append]; exact len, fun r hr => ?_⟩⟩⟩
      · rcases List.mem_append.mp hf with q | q
        · exact hfs f q
        · rw [List.mem_singleton.mp q]
          exact ⟨s1, by show s ≤ 10 ^ 30; omega, by show 0 ≤ m; omega, by show m ≤ 10 ^ 30; omega, by show 0 ≤ lo; omega, by show lo ≤ 10 ^ 30; omega⟩
      · rw [List.length_append, List.length_cons, List.length_nil, Nat.zero_add, Nat.pow_succ, Int.natCast_mul, Int.mul_assoc]
        refine Int.le_trans (Int.mul_le_mul_of_nonneg_left ?_ p0) b7
        have := Int.mul_le_mul_of_nonneg_left hm (show 0 ≤ s by omega)
        rw [show s * (2 * (m % s)) = ((2 : Nat) : Int) * (s * (m % s)) by rw [Int.mul_left_comm]; rfl] at this
        rw [Int.mul_comm m s]
        exact this
      · have e := hA _ (ans_step s1 b3 b1 b4 b5 no hr)
        have e2 : (r.map fun k => (lo + m * k + s - 1) / s).map (unw fs) = r.map (unw (fs ++ [(s, m, lo)])) := by
          cases r with
          | none => rfl
          | some k =>
            show some _ = some _
            rw [unw_snoc]
            rfl
        rwa [e2] at e
  · rw [if_neg (by decide)]
    intro nb
    refine dFor_mk (fs.map frD).reverse yes (cs ++ [.obj nb]) (fun K h => by walk_at "dl"; exact h) (fun i en cx => ∃ (s m lo x : Int), en = [some (.d (.int s)), some (.d (.int m)), some (.d (.int lo)), some (.d (.int hi)), some (.d (.lst (fs.map frD))), some (.d (.int x))] ∧ cx = cs ++ [.obj nb] ∧ 0 ≤ x ∧ x ≤ ((10 ^ 32) ^ (i + 1) : Nat) ∧ x = (fs.reverse.take i).foldl (fun k f => stp f k) fd)
      ⟨_, _, _, fd, rfl, rfl, b2, by simpa using b3, rfl⟩ (fun i d en cx hd hI => ?_) (fun en cx hI => ?_) (fun _ _ _ _ => trivial)
    · obtain ⟨s, m, lo, x, rfl, rfl, x0, x1, ex⟩ := hI
      rw [← List.map_reverse] at hd
      obtain ⟨f, hf, rfl⟩ := get_fr hd
      have hil := (List.getElem?_eq_some_iff.mp hf).1
      rw [List.length_reverse] at hil
      obtain ⟨g1, g2, g3, g4, g5, g6⟩ := hfs f (List.mem_reverse.mp (List.mem_of_getElem? hf))
      simp only [frD]
      walk_at "dl"
      have P1 : 1 ≤ (10 ^ 32) ^ (i + 1) := Nat.one_le_pow _ _ (by decide)
      have P2 : (10 ^ 32) ^ (i + 1) ≤ (10 ^ 32) ^ 200 := Nat.pow_le_pow_right (by decide) (by omega)
      have P3 : (10 ^ 32) ^ 200 < 2 ^ 100000 := by decide +kernel
      have P4 : (10 ^ 32) ^ (i + 1 + 1) = (10 ^ 32) ^ (i + 1) * 10 ^ 32 := Nat.pow_succ ..
      have sx : Sm x := by
        show x.natAbs < 2 ^ 100000
        refine Nat.lt_of_le_of_lt (Nat.le_trans ?_ P2) P3
        omega
      have mx0 := Int.mul_nonneg g3 x0
      have mx1 := Int.mul_le_mul_of_nonneg_right g4 x0
      have q0 : 0 ≤ (f.2.2 + f.2.1 * x + f.1 - 1) / f.1 := Int.ediv_nonneg (by omega) (by omega)
      have q1 : (f.2.2 + f.2.1 * x + f.1 - 1) / f.1 ≤ f.2.2 + f.2.1 * x + f.1 - 1 := Int.ediv_le_self _ (by omega)
      refine ⟨⟨Sm.of (by omega) (by omega), sx⟩, Dv.of (by omega) (by omega), .inl ⟨_, _, _, _, rfl, rfl, q0, ?_, ?_⟩⟩
      · rw [P4]
        generalize (10 ^ 32) ^ (i + 1) = B at P1 x1
        rw [Int.natCast_mul]
        have : ((10 ^ 32 : Nat) : Int) = 10 ^ 32 := by decide
        rw [this]
        omega
      · rw [List.take_add_one, hf, List.foldl_append, ← ex]
        rfl
    · obtain ⟨s, m, lo, x, rfl, rfl, x0, x1, ex⟩ := hI
      rw [List.length_reverse, List.length_map, List.take_of_length_le (by rw [List.length_reverse]; exact Nat.le_refl _), List.foldl_reverse] at ex
      walk_at "dl"
      have e : x = unw fs fd := ex
      rw [e]
      exact h _ hA
def FAns (c b st f l : Int) (r : Option Int) : Prop := Least (FHit c b st f l) r
def sp_hit_from : DSpec := fun zs cs k => match zs with
  | [.d (.int c), .d (.int b), .d (.int st), .d (.int f), .d (.int l)] => (1 ≤ c ∧ c ≤ 10 ^ 30 ∧ 1 ≤ l ∧ l ≤ c) ∧ ∀ r, FAns c b st f l r → k (.d (optD r)) cs
  | _ => False
theorem len_hit_from : ∀ zs cs q, sp_hit_from zs cs q → zs.length = (["cycle", "begin", "step", "first", "length"] : List Str).length := fun zs cs q h => by
  unfold sp_hit_from at h
  split at h
  · rfl
  · exact h.elim
def t_hit_from : DS :=
  (dSeq (dAsg (dOp modD (dOp subD (dVar 1) (dVar 3)) (dVar 0)) (dgName 5))
  (dSeq (dIfS (dB (dOp ltD (dVar 5) (dVar 4))) (dRet (dC (.int 0))) dNext)
  (dRet (dCall sp_least_multiple (dCons (dOp modD (dVar 2) (dVar 0)) (dCons (dVar 0) (dCons (dOp subD (dVar 0) (dVar 5)) (dCons (dOp subD (dOp addD (dOp subD (dVar 0) (dVar 5)) (dVar 4)) (dC (.int 1))) dNil))))))))
theorem rd_hit_from : ∀ zs cs q, sp_hit_from zs cs q → t_hit_from (endD cs.length q) (startD ["cycle", "begin", "step", "first", "length", "ahead"] zs) cs := fun zs cs q h => by
  unfold sp_hit_from at h
  split at h
  rotate_left
  · exact h.elim
  rename_i c b st f l
  simp only [startD, List.map_cons, List.map_nil, List.length_cons, List.length_nil, Nat.reduceAdd, Nat.zero_add, Nat.reduceSub, List.replicate_zero, List.replicate_succ, List.cons_append, List.nil_append, List.append_nil]
  obtain ⟨⟨c1, c2, l1, l2⟩, h⟩ := h
  unfold t_hit_from
  walk_at "dl"
  refine ⟨by omega, ?_⟩
  have a0 := Int.emod_nonneg (b - f) (show c ≠ 0 by omega)
  have a1 := Int.emod_lt_of_pos (b - f) (show 0 < c by omega)
  by_cases z : (b - f) % c < l
  · rw [if_pos (decide_eq_true z)]
    exact h (some 0) ⟨Int.le_refl _, by show (b + 0 * st - f) % c < l; rw [Int.zero_mul, Int.add_zero]; exact z, fun y y0 y1 => by omega⟩
  · rw [if_neg (by simpa using z)]
    refine ⟨by omega, ⟨Int.emod_nonneg _ (by omega), Int.emod_lt_of_pos _ (by omega), by omega, by omega, by omega, c2⟩, fun r hr => ?_⟩
    exact fz _ _ _ _ rfl (h r (Least.congr hr fun n _ => (fhit_iff c1 (by omega)).symm))
def sp_first_hit : DSpec := fun zs cs k => match zs with
  | [.d (.int c), .d (.int b), .d (.int st), .d (.int f), .d (.int l)] => (1 ≤ c ∧ c ≤ 10 ^ 30 ∧ 1 ≤ l ∧ l ≤ c) ∧ ∀ r, FAns c b st f l r → k (.d (optD r)) cs
  | _ => False
theorem len_first_hit : ∀ zs cs q, sp_first_hit zs cs q → zs.length = (["cycle", "begin", "step", "first", "length"] : List Str).length := fun zs cs q h => by
  unfold sp_first_hit at h
  split at h
  · rfl
  · exact h.elim
def t_first_hit : DS :=
  (dSeq (dDrop (dCall sp_require_cycle (dCons (dVar 0) dNil)))
  (dSeq (dDrop (dCall sp_require_number (dCons (dVar 1) dNil)))
  (dSeq (dDrop (dCall sp_require_number (dCons (dVar 2) dNil)))
  (dSeq (dDrop (dCall sp_require_number (dCons (dVar 3) dNil)))
  (dSeq (dIfS (dNot (dB (dCall sp_in_range (dCons (dVar 4) (dCons (dC (.int 1)) (dCons (dVar 0) dNil)))))) dNever dNext)
  (dRet (dCall sp_hit_from (dCons (dVar 0) (dCons (dVar 1) (dCons (dVar 2) (dCons (dVar 3) (dCons (dVar 4) dNil))))))))))))
theorem rd_first_hit : ∀ zs cs q, sp_first_hit zs cs q → t_first_hit (endD cs.length q) (startD ["cycle", "begin", "step", "first", "length"] zs) cs := fun zs cs q h => by
  unfold sp_first_hit at h
  split at h
  rotate_left
  · exact h.elim
  rename_i c b st f l
  simp only [startD, List.map_cons, List.map_nil, List.length_cons, List.length_nil, Nat.reduceAdd, Nat.zero_add, Nat.reduceSub, List.replicate_zero, List.replicate_succ, List.cons_append, List.nil_append, List.append_nil]
  obtain ⟨⟨c1, c2, l1, l2⟩, h⟩ := h
  unfold t_first_hit
  walk_at "dl"
  simp only [sp_require_cycle, sp_require_number, sp_in_range]
  refine ⟨⟨rfl, by simp only [inRange, c1, c2, decide_true, Bool.and_self]⟩, ?_⟩
  walk_at "dl"
  refine ⟨rfl, ?_⟩
  rw [show inRange (.int l) 1 c = true by simp only [inRange, l1, l2, decide_true, Bool.and_self], Bool.not_true, if_neg Bool.false_ne_true]
  exact ⟨⟨c1, c2, l1, l2⟩, fun r hr => fz _ _ _ _ rfl (h r hr)⟩
end K04
set_option Elab.async false
set_option linter.all false
set_option maxRecDepth 100000
set_option maxHeartbeats 2000000
set_option autoImplicit false
namespace K04
open PySem L2 DL K01
local macro_rules | `(tactic| walk_at "dl") => `(tactic| simp only [u_dSeq, u_dNext, u_dOwn, u_dOwnE, u_dFld, u_dMake, u_dMeth, u_dProp, u_dIsiO, u_dCallI, u_dSortSet, u_dFrz, e_isC, e_rgO, e_rgn, e_rgi, e_rgs, e_rgb, e_rgt, e_rgl, e_fz1, e_fz2, le_lim, lt_lim, set_snoc0, e_srtI, u_dBreak, u_dCont, u_dDrop, u_dRet, u_dRetN, u_dIfS, u_dNever, u_dAsg, u_dPar, u_dPutK, u_dAppend, u_dExtend, u_dCall, u_dVar, u_dC, u_dOp, u_dChain, u_dUn, u_dB, u_dNot, u_dAnd, u_dOr, u_dAndV, u_dOrV, u_dNotV, u_dIf, u_dNil, u_dCons, u_dTup, u_dLst, u_dLstC, u_dCB, u_dInK, u_dGetK, u_dDicC, u_dNoPart, u_dPart, u_dSl, u_dBits, u_dRev, u_dgName, u_dgsNil, u_dgsCons, u_dgTup, u_dgSet, u_diSeq, u_diR1, e_diR2, e_r2, u_diEnum, u_diEnumU, u_diZip, endD, finZ_d, finD, finC, List.take_length, u_dYes, wipeD, ix0, ix1, ix2, get_snoc, set_snoc, take_snoc, u_dOpC, u_dSlC, u_dListC, e_addC, e_mulC, e_loCl, e_loCt, e_loCs, e_wd, e_wc0, e_wcs, e_wsn, e_wc1, e_wc2, e_wl0, e_wl1, e_dl0, e_dl1, e_sl, e_st, e_ss, e_addi, e_adds, e_addt, e_addl, e_sub, e_muli, e_mult, e_mull, e_fdiv, e_mod, e_pow, e_neg, e_lt, e_le, e_gt, e_ge, e_eqi, e_eqs, e_eql, e_eqt, e_eqb, e_eqn, e_nei, e_nes, e_nel, e_net, e_neb, e_nen, e_isb, e_isn, e_inb, e_inn, e_in1, e_in2, e_in3, e_in4, e_in5, e_ixt, e_ixl, e_ixs, e_at0, e_at1, e_at2, e_at3, e_at4, e_at5, e_atl, e_keyi, e_keys, e_lenl, e_lent, e_lens, e_lend, e_maxi, e_mini, e_maxl, e_minl, e_sum, e_all, e_any, e_inti, e_intb, e_abs, e_tol, e_tot, e_tos, e_lol, e_lot, e_los, e_sll, e_slt, e_rvl, e_rvt, e_repr, e_isi, e_srtl, e_srtt, List.map_cons, List.map_nil, List.length_cons, List.length_nil, List.cons_append, List.nil_append, List.flatten_cons, List.flatten_nil, List.append_nil, List.replicate_succ, List.replicate_zero, List.getElem?_cons_zero, List.getElem?_cons_succ, List.set_cons_zero, List.set_cons_succ, Nat.reduceSub, Nat.reduceAdd, Int.reduceToNat, Int.reduceLE, Int.reduceLT, Int.reduceNeg, Nat.reduceLeDiff, Nat.reduceLT, Nat.zero_add, Option.some.injEq, Z.d.injEq, Z.c.injEq, D.bl.injEq, D.int.injEq, D.tup.injEq, D.lst.injEq, List.take_succ_cons, List.take_zero, exists_eq_left', exists_eq_left, true_and, and_true, if_true, Bool.not_true, Bool.not_false, Bool.false_eq_true, if_false, decide_true, decide_false, n_vK])
theorem fhit_eq {c b st f l b' st' f' n : Int} (h : (b + n * st - f) % c = (b' + n * st' - f') % c) : FHit c b st f l n ↔ FHit c b' st' f' l n := by
  unfold FHit
  rw [h]
theorem fhit_mv {c b st f l : Int} (k1 k2 k3 n : Int) : FHit c (b + k1 * c) (st + k2 * c) (f + k3 * c) l n ↔ FHit c b st f l n := by
  refine fhit_eq ?_
  rw [show b + k1 * c + n * (st + k2 * c) - (f + k3 * c) = (b + n * st - f) + (k1 + n * k2 - k3) * c by rw [Int.mul_add, Int.sub_mul, Int.add_mul, Int.mul_assoc n]; omega, Int.add_mul_emod_self_right]
theorem fhit_per {c b st f l : Int} (n k : Int) : FHit c b st f l (n + k * c) ↔ FHit c b st f l n := by
  unfold FHit
  rw [show b + (n + k * c) * st - f = (b + n * st - f) + (k * st) * c by rw [Int.add_mul, Int.mul_right_comm]; omega, Int.add_mul_emod_self_right]
theorem blk_mod {c F t r : Int} (hc : 0 < c) (hF : 0 < F) (r0 : 0 ≤ r) (r1 : r < F) : (t * F + r) % (c * F) = t % c * F + r := by
  have d := Int.emod_add_mul_ediv t c
  have h0 := Int.emod_nonneg t (show c ≠ 0 by omega)
  have h1 := Int.emod_lt_of_pos t hc
  have e : t * F + r = (t % c * F + r) + (c * F) * (t / c) := by
    have : t * F = (t % c + c * (t / c)) * F := by rw [d]
    rw [this, Int.add_mul, Int.mul_right_comm]
    omega
  rw [e, Int.add_mul_emod_self_left]
  have a := Int.mul_nonneg h0 (show 0 ≤ F by omega)
  have b := Int.mul_le_mul_of_nonneg_right (show t % c ≤ c - 1 by omega) (show 0 ≤ F by omega)
  rw [Int.sub_mul, Int.one_mul] at b
  exact Int.emod_eq_of_lt (by omega) (by omega)
theorem fhit_blk {c F r b st f l : Int} (hc : 0 < c) (hF : 0 < F) (r0 : 0 ≤ r) (r1 : r < F) (n : Int) : FHit (c * F) (b * F + r) (st * F) (f * F) (l * F) n ↔ FHit c b st f l n := by
  unfold FHit
  rw [show b * F + r + n * (st * F) - f * F = (b + n * st - f) * F + r by rw [Int.sub_mul, Int.add_mul, Int.mul_assoc]; omega, blk_mod hc hF r0 r1]
  generalize (b + n * st - f) % c = u
  constructor
  · intro h
    refine Int.lt_of_mul_lt_mul_right (a := F) (by omega) (by omega)
  · intro h
    have := Int.mul_le_mul_of_nonneg_right (show u ≤ l - 1 by omega) (show 0 ≤ F by omega)
    rw [Int.sub_mul, Int.one_mul] at this
    omega
theorem fhit_rest {c F r b st f : Int} (hc : 0 < c) (hF : 0 < F) (r0 : 0 ≤ r) (r1 : r < F) (n : Int) : ¬ FHit (c * F) (b * F + r) (st * F) (f * F) r n := by
  unfold FHit
  rw [show b * F + r + n * (st * F) - f * F = (b + n * st - f) * F + r by rw [Int.sub_mul, Int.add_mul, Int.mul_assoc]; omega, blk_mod hc hF r0 r1]
  have := Int.mul_nonneg (Int.emod_nonneg (b + n * st - f) (show c ≠ 0 by omega)) (show 0 ≤ F by omega)
  omega
theorem fans_lt {c b st f l n : Int} (hc : 0 < c) (h : FAns c b st f l (some n)) : n < c := by
  refine Int.not_le.mp fun q => h.2.2 (n + (-1) * c) (by omega) (by omega) ((fhit_per n (-1)).mpr h.2.1)
theorem fans_none {c b st f l : Int} (hc : 0 < c) (h : ∀ z, 0 ≤ z → z < c → ¬ FHit c b st f l z) : FAns c b st f l none := fun z z0 q => by
  have d := Int.emod_add_mul_ediv z c
  refine h (z % c) (Int.emod_nonneg _ (by omega)) (Int.emod_lt_of_pos _ hc) ((fhit_per (z % c) (z / c)).mp ?_)
  rwa [Int.mul_comm, d]
theorem fans_ex {c b st f l : Int} (hc : 0 < c) : ∃ r, FAns c b st f l r := by
  have key : ∀ n : Nat, (∃ m : Int, FAns c b st f l (some m)) ∨ ∀ z : Int, 0 ≤ z → z < n → ¬ FHit c b st f l z := fun n => by
    induction n with
    | zero => exact .inr fun z h1 h2 => by omega
    | succ n ih =>
      rcases ih with h | h
      · exact .inl h
      · by_cases q : FHit c b st f l n
        · exact .inl ⟨n, by omega, q, h⟩
        · refine .inr fun z h1 h2 => ?_
          by_cases e : z = n
          · rw [e]; exact q
          · exact h z h1 (by omega)
  rcases key c.toNat with ⟨m, h⟩ | h
  · exact ⟨some m, h⟩
  · exact ⟨none, fans_none hc fun z z0 z1 => h z z0 (by omega)⟩
theorem rp_optD {r : Option Int} (h : ∀ n, r = some n → 0 ≤ n ∧ n < 10 ^ 100) : RpN 201 0 (optD r) := by
  cases r with
  | none => exact RpN.non.le (by decide) (Nat.le_refl _)
  | some n =>
    obtain ⟨a, b⟩ := h n rfl
    exact RpN.int (by omega) (by omega)
def sp_l_least : DSpec := fun zs cs k => match zs with
  | [.d (.int c), .d (.int b), .d (.int st), .d (.int f), .d (.int l)] => (1 ≤ c ∧ c ≤ 40 ∧ -(10 ^ 100) < st ∧ st < 10 ^ 100) ∧ ∀ r, FAns c b st f l r → k (.d (optD r)) cs
  | _ => False
theorem len_l_least : ∀ zs cs q, sp_l_least zs cs q → zs.length = (["_law_span", "_law_begin", "_law_step", "_law_place", "_law_size"] : List Str).length := fun zs cs q h => by
  unfold sp_l_least at h
  split at h
  · rfl
  · exact h.elim
def t_l_least : DS :=
  (dSeq (dFor (diR1 (dVar 0)) (dgName 5) (dIfS (dB (dOp ltD (dOp modD (dOp subD (dOp addD (dVar 1) (dOp mulD (dVar 5) (dVar 2))) (dVar 3)) (dVar 0)) (dVar 4))) (dRet (dVar 5)) dNext))
  (dRet (dC .non)))
theorem rd_l_least : ∀ zs cs q, sp_l_least zs cs q → t_l_least (endD cs.length q) (startD ["_law_span", "_law_begin", "_law_step", "_law_place", "_law_size", "_law_n"] zs) cs := fun zs cs q h => by
  unfold sp_l_least at h
  split at h
  rotate_left
  · exact h.elim
  rename_i c b st f l
  simp only [startD, List.map_cons, List.map_nil, List.length_cons, List.length_nil, Nat.reduceAdd, Nat.zero_add, Nat.reduceSub, List.replicate_zero, List.replicate_succ, List.cons_append, List.nil_append, List.append_nil]
  obtain ⟨⟨c1, c40, s0, s1⟩, h⟩ := h
  unfold t_l_least
  walk_at "dl"
  refine dFor_mk (rgD 0 c.toNat) yes cs (fun K h => by walk_at "dl"; exact ⟨⟨by omega, by omega⟩, h⟩) (fun i en cx => ∃ o5 : Option Z, en = [some (.d (.int c)), some (.d (.int b)), some (.d (.int st)), some (.d (.int f)), some (.d (.int l)), o5] ∧ cx = cs ∧ ∀ z : Int, 0 ≤ z → z < i → ¬ FHit c b st f l z)
    ⟨_, rfl, rfl, fun z h1 h2 => by omega⟩ (fun i d en cx hd hI => ?_) (fun en cx hI => ?_) (fun _ _ _ _ => trivial)
  · obtain ⟨hi, rfl⟩ := rgD_get hd
    obtain ⟨o5, rfl, rfl, hn⟩ := hI
    walk_at "dl"
    refine ⟨⟨Sm.of (by omega) (by omega), Sm.of (by omega) (by omega)⟩, by omega, ?_⟩
    rw [Int.zero_add]
    by_cases q1 : (b + (i : Int) * st - f) % c < l
    · rw [if_pos (decide_eq_true q1)]
      exact h (some (i : Int)) ⟨by omega, q1, hn⟩
    · rw [if_neg (by simpa using q1)]
      refine .inl ⟨_, rfl, rfl, fun z z0 z1 => ?_⟩
      by_cases e : z = i
      · rw [e]; exact q1
      · exact hn z z0 (by omega)
  · obtain ⟨o5, rfl, rfl, hn⟩ := hI
    rw [rgD_len] at hn
    walk_at "dl"
    exact h none (fans_none (by omega) fun z z0 z1 => hn z z0 (by omega))
def sp_l_small_right : DSpec := fun zs cs k => match zs, cs with
  | [.c 0, .d (.int s)], x :: rest => ∃ L, Pond L x ∧ (1 ≤ s ∧ s ≤ 40 ∧ L ≤ 10 ^ 9) ∧ ∀ x', Pond (L + 1000) x' → k (.d (.bl true)) (x' :: rest)
  | _, _ => False
theorem len_l_small_right : ∀ zs cs q, sp_l_small_right zs cs q → zs.length = (["_law_pond_here", "_law_span"] : List Str).length := fun zs cs q h => by
  unfold sp_l_small_right at h
  split at h
  · rfl
  · exact h.elim
def t_l_small_right : DS :=
  (dSeq (dPar 2 3 (dCons (dOp subD (dCall sp_l_fish (dCons (dVar 0) (dCons (dOp mulD (dC (.int 3)) (dVar 1)) dNil))) (dVar 1)) (dCons (dOp subD (dCall sp_l_fish (dCons (dVar 0) (dCons (dOp mulD (dC (.int 3)) (dVar 1)) dNil))) (dVar 1)) dNil)))
  (dSeq (dPar 4 5 (dCons (dCall sp_l_fish (dCons (dVar 0) (dCons (dVar 1) dNil))) (dCons (dOp addD (dC (.int 1)) (dCall sp_l_fish (dCons (dVar 0) (dCons (dOp ixD (dLst (dCons (dC (.int 1)) (dCons (dCB minD (dCons (dC (.int 3)) (dCons (dVar 1) dNil))) (dCons (dVar 1) dNil)))) (dCall sp_l_fish (dCons (dVar 0) (dCons (dC (.int 3)) dNil)))) dNil)))) dNil)))
  (dSeq (dAsg (dCall sp_l_least (dCons (dVar 1) (dCons (dVar 2) (dCons (dVar 3) (dCons (dVar 4) (dCons (dVar 5) dNil)))))) (dgName 6))
  (dSeq (dAsg (dLc (diR1 (dC (.int 3))) (dgName 13) dYes (dOp mulD (dOp subD (dCall sp_l_fish (dCons (dVar 0) (dCons (dOp powD (dC (.int 10)) (dC (.int 60))) dNil))) (dOp powD (dC (.int 10)) (dC (.int 59)))) (dVar 1)) [13]) (dgName 7))
  (dSeq (dAsg (dOp addD (dC (.int 1)) (dCall sp_l_fish (dCons (dVar 0) (dCons (dOp powD (dC (.int 10)) (dC (.int 28))) dNil)))) (dgName 8))
  (dSeq (dAsg (dCall sp_l_fish (dCons (dVar 0) (dCons (dVar 8) dNil))) (dgName 9))
  (dSeq (dAsg (dLstC (dCons (dCall sp_first_hit (dCons (dVar 1) (dCons (dVar 2) (dCons (dVar 3) (dCons (dVar 4) (dCons (dVar 5) dNil)))))) dNil)) (dgName 10))
  (dSeq (dDrop (dAppend (dVar 10) (dCall sp_first_hit (dCons (dVar 1) (dCons (dOp addD (dVar 2) (dOp ixD (dVar 7) (dC (.int 0)))) (dCons (dOp addD (dVar 3) (dOp ixD (dVar 7) (dC (.int 1)))) (dCons (dOp addD (dVar 4) (dOp ixD (dVar 7) (dC (.int 2)))) (dCons (dVar 5) dNil))))))))
  (dSeq (dPar 11 12 (dCons (dOp mulD (dVar 1) (dVar 8)) (dCons (dLc (diSeq (dTup (dCons (dVar 2) (dCons (dVar 3) (dCons (dVar 4) (dCons (dVar 5) dNil)))))) (dgName 14) dYes (dOp mulD (dVar 14) (dVar 8)) [14]) dNil)))
  (dSeq (dDrop (dAppend (dVar 10) (dCall sp_first_hit (dCons (dVar 11) (dCons (dOp addD (dOp ixD (dVar 12) (dC (.int 0))) (dVar 9)) (dCons (dOp ixD (dVar 12) (dC (.int 1))) (dCons (dOp ixD (dVar 12) (dC (.int 2))) (dCons (dOp ixD (dVar 12) (dC (.int 3))) dNil))))))))
  (dFrz 10 (dSeq (dIfS (dB (dOp neUD (dCB reprD (dCons (dVar 10) dNil)) (dCB reprD (dCons (dOp mulD (dLst (dCons (dVar 6) dNil)) (dC (.int 3))) dNil)))) (dRet (dC (.bl false))) dNext)
  (dRet (dOrV (dOp eqUD (dVar 9) (dC (.int 0))) (dOp isD (dCall sp_first_hit (dCons (dVar 11) (dCons (dOp addD (dOp ixD (dVar 12) (dC (.int 0))) (dVar 9)) (dCons (dOp ixD (dVar 12) (dC (.int 1))) (dCons (dOp ixD (dVar 12) (dC (.int 2))) (dCons (dVar 9) dNil)))))) (dC .non))))))))))))))))
theorem rd_l_small_right : ∀ zs cs q, sp_l_small_right zs cs q → t_l_small_right (endD cs.length q) (startD ["_law_pond_here", "_law_span", "_law_begin", "_law_step", "_law_place", "_law_size", "_law_due", "_law_far", "_law_factor", "_law_rest", "_law_told", "_law_whole", "_law_great", "_law_turn", "_law_number"] zs) cs := fun zs cs q h => by
  unfold sp_l_small_right at h
  split at h
  rotate_left
  · exact h.elim
  simp only [startD, List.map_cons, List.map_nil, List.length_cons, List.length_nil, Nat.reduceAdd, Nat.zero_add, Nat.reduceSub, List.replicate_zero, List.replicate_succ, List.cons_append, List.nil_append, List.append_nil]
  rename_i s x rest
  obtain ⟨L, hP, ⟨s1, s40, hL⟩, h⟩ := h
  have s10 : Sm 10 := Sm.of (by decide) (by decide)
  have s3 : Sm 3 := Sm.of (by decide) (by decide)
  have ss : Sm s := Sm.of (by omega) (by omega)
  unfold t_l_small_right
  walk_at "dl"
  refine ⟨⟨s3, ss⟩, ?_⟩
  refine fish_use hP ⟨by omega, by omega, by omega⟩ fun a0 x1 a1 a2 p1 => ?_
  walk_at "dl"
  refine ⟨⟨s3, ss⟩, ?_⟩
  refine fish_use p1 ⟨by omega, by omega, by omega⟩ fun b0 x2 b1 b2 p2 => ?_
  walk_at "dl"
  refine fish_use p2 ⟨by omega, by omega, by omega⟩ fun pl x3 pl0 pl1 p3 => ?_
  refine fish_use p3 ⟨by decide, by decide, by omega⟩ fun e0 x4 e1 e2 p4 => ?_
  walk_at "dl"
  have pick : ∃ v : Int, 1 ≤ v ∧ v ≤ s ∧ atI [D.int 1, .int (min 3 s), .int s] e0 = some (.int v) := by
    have : e0 = 0 ∨ e0 = 1 ∨ e0 = 2 := by omega
    rcases this with rfl | rfl | rfl
    · exact ⟨1, by omega, by omega, at0⟩
    · exact ⟨min 3 s, by omega, by omega, at1⟩
    · exact ⟨s, by omega, by omega, at2⟩
  obtain ⟨v, v1, v2, pick⟩ := pick
  rw [e_at pick]
  refine fish_use p4 ⟨by omega, by omega, by omega⟩ fun g0 x5 g1 g2 p5 => ?_
  walk_at "dl"
  obtain ⟨b, hb⟩ : ∃ b, b = a0 - s := ⟨_, rfl⟩
  obtain ⟨st, hst⟩ : ∃ st, st = b0 - s := ⟨_, rfl⟩
  obtain ⟨l, hl⟩ : ∃ l, l = 1 + g0 := ⟨_, rfl⟩
  rw [← hb, ← hst, ← hl]
  refine ⟨⟨s1, s40, by omega, by omega⟩, fun due hdue => ?_⟩
  walk_at "dl"
  refine dLc_gen (rgD 0 3) yes (x5 :: rest) (fun K h => by walk_at "dl"; exact ⟨⟨by omega, by omega⟩, h⟩) (fun i acc c => ∃ (ms : List Int) (x : D), acc = ms.map (fun m => D.int (m * s)) ∧ c = x :: rest ∧ ms.length = i ∧ (∀ m ∈ ms, -(10 ^ 60) ≤ m ∧ m ≤ 10 ^ 60) ∧ Pond (L + 50 + i * 10) x)
    ⟨[], x5, rfl, rfl, rfl, fun m hm => by simp at hm, p5.le (by omega)⟩ (fun i acc c hI => ?_) (fun i d acc c hd hI => ?_) (fun acc c hI => ?_)
  · obtain ⟨ms, x, rfl, rfl, h1, h2, h3⟩ := hI
    exact ⟨rfl, trivial⟩
  · obtain ⟨ms, x, rfl, rfl, h1, h2, h3⟩ := hI
    obtain ⟨hi, rfl⟩ := rgD_get hd
    walk_at "dl"
    refine ⟨s10, ?_⟩
    refine fish_use h3 ⟨by decide, by decide, by omega⟩ fun r y r0 r1 q1 => ?_
    walk_at "dl"
    refine ⟨s10, ⟨Sm.of (by omega) (by omega), ss⟩, ?_⟩
    refine ⟨_, y :: rest, rfl, by rw [List.take_of_length_le (by simp)]; rfl, rfl, lim_lt (by rw [List.length_map]; omega), ms ++ [r - 10 ^ 59], y, by rw [List.map_append]; rfl, rfl, by rw [List.length_append, h1]; rfl, fun m hm => ?_, q1.le (by omega)⟩
    rcases List.mem_append.mp hm with q | q
    · exact h2 m q
    · rw [List.mem_singleton.mp q]
      omega
  obtain ⟨ms, x6, rfl, rfl, h1, h2, p6⟩ := hI
  rw [rgD_len] at h1 p6
  obtain ⟨m0, m1, m2, rfl⟩ : ∃ m0 m1 m2, ms = [m0, m1, m2] := by
    rcases ms with _ | ⟨m0, _ | ⟨m1, _ | ⟨m2, _ | ⟨m3, ms⟩⟩⟩⟩ <;> simp at h1
    exact ⟨_, _, _, rfl⟩
  have hm0 := h2 m0 (by simp)
  have hm1 := h2 m1 (by simp)
  have hm2 := h2 m2 (by simp)
  simp only [List.map_cons, List.map_nil]
  walk_at "dl"
  refine ⟨s10, ?_⟩
  refine fish_use p6 ⟨by decide, by decide, by omega⟩ fun f0 x7 f1 f2 p7 => ?_
  walk_at "dl"
  obtain ⟨F, hF⟩ : ∃ F, F = 1 + f0 := ⟨_, rfl⟩
  rw [← hF]
  refine fish_use p7 ⟨by omega, by omega, by omega⟩ fun r x8 r0 r1 p8 => ?_
  refine ⟨⟨s1, by omega, by omega, by omega⟩, fun t1 ht1 => ?_⟩
  rw [Least.uniq ht1 hdue]
  walk_at "dl"
  refine ⟨⟨s1, by omega, by omega, by omega⟩, fun t2 ht2 => ?_⟩
  rw [Least.uniq (Least.congr ht2 fun n _ => fhit_mv m0 m1 m2 n) hdue]
  walk_at "dl"
  have sF : 1 ≤ s * F ∧ s * F ≤ 10 ^ 30 := by
    have a := Int.mul_le_mul s40 (show F ≤ 10 ^ 28 by omega) (by omega) (by omega)
    have b := Int.mul_le_mul s1 (show 1 ≤ F by omega) (by omega) (by omega)
    omega
  have lF : 1 ≤ l * F ∧ l * F ≤ s * F := by
    have a := Int.mul_le_mul_of_nonneg_right (show l ≤ s by omega) (show 0 ≤ F by omega)
    have b := Int.mul_le_mul (show (1 : Int) ≤ l by omega) (show 1 ≤ F by omega) (by omega) (by omega)
    omega
  have FsF := Int.mul_le_mul_of_nonneg_right s1 (show 0 ≤ F by omega)
  rw [Int.one_mul] at FsF
  have sFm : Sm F := Sm.of (by omega) (by omega)
  refine ⟨⟨ss, sFm⟩, ?_⟩
  refine dLc_mk [.int b, .int st, .int pl, .int l] yes _ (fun K h => by walk_at "dl"; exact h) (fun d => match d with
    | .int a => .int (a * F)
    | _ => .non) (by simp) (fun i d acc hd P hP => ?_) ?_ (fun _ => trivial)
  · obtain ⟨a, a0', a1', rfl⟩ : ∃ a : Int, -(10 ^ 40) ≤ a ∧ a ≤ 10 ^ 40 ∧ d = .int a := by
      rcases i with _ | _ | _ | _ | i
      · exact ⟨b, by omega, by omega, (Option.some.inj hd).symm⟩
      · exact ⟨st, by omega, by omega, (Option.some.inj hd).symm⟩
      · exact ⟨pl, by omega, by omega, (Option.some.inj hd).symm⟩
      · exact ⟨l, by omega, by omega, (Option.some.inj hd).symm⟩
      · simp at hd
    walk_at "dl"
    exact ⟨⟨Sm.of (by omega) (by omega), sFm⟩, hP⟩
  simp only [List.map_cons, List.map_nil]
  walk_at "dl"
  refine ⟨⟨sF.1, sF.2, lF.1, lF.2⟩, fun t3 ht3 => ?_⟩
  rw [Least.uniq (Least.congr ht3 fun n _ => fhit_blk (by omega) (by omega) r0 r1 n) hdue]
  walk_at "dl"
  intro nb
  have rpo : RpN 201 0 (optD due) := rp_optD fun n e => by
    subst e
    have := fans_lt (by omega) hdue
    exact ⟨hdue.1, by omega⟩
  have rp3 : RpOk (D.lst [optD due, optD due, optD due]) := (RpN.lst 3 (by simp) fun d hd => by
    simp only [List.mem_cons, List.not_mem_nil, or_false, or_self] at hd
    rw [hd]
    exact rpo).rp (by decide) (by decide)
  refine ⟨rp3, by decide, rp3, ?_⟩
  by_cases rz : r = 0
  · rw [if_pos (decide_eq_true rz)]
    exact h _ (p8.le (by omega))
  rw [if_neg (by simpa using rz)]
  refine ⟨⟨sF.1, sF.2, by omega, by omega⟩, fun t4 ht4 => ?_⟩
  rw [Least.uniq ht4 (show FAns _ _ _ _ _ none from fun z _ => fhit_rest (by omega) (by omega) r0 r1 z)]
  walk_at "dl"
  exact h _ (p8.le (by omega))
end K04
set_option Elab.async false
set_option linter.all false
set_option maxRecDepth 100000
set_option maxHeartbeats 2000000
set_option autoImplicit false
namespace K04
open PySem L2 DL K01
local macro_rules | `(tactic| walk_at "dl") => `(tactic| simp only [u_dSeq, u_dNext, u_dOwn, u_dOwnE, u_dFld, u_dMake, u_dMeth, u_dProp, u_dIsiO, u_dCallI, u_dSortSet, u_dFrz, e_isC, e_rgO, e_rgn, e_rgi, e_rgs, e_rgb, e_rgt, e_rgl, e_fz1, e_fz2, le_lim, lt_lim, set_snoc0, e_srtI, u_dBreak, u_dCont, u_dDrop, u_dRet, u_dRetN, u_dIfS, u_dNever, u_dAsg, u_dPar, u_dPutK, u_dAppend, u_dExtend, u_dCall, u_dVar, u_dC, u_dOp, u_dChain, u_dUn, u_dB, u_dNot, u_dAnd, u_dOr, u_dAndV, u_dOrV, u_dNotV, u_dIf, u_dNil, u_dCons, u_dTup, u_dLst, u_dLstC, u_dCB, u_dInK, u_dGetK, u_dDicC, u_dNoPart, u_dPart, u_dSl, u_dBits, u_dRev, u_dgName, u_dgsNil, u_dgsCons, u_dgTup, u_dgSet, u_diSeq, u_diR1, e_diR2, e_r2, u_diEnum, u_diEnumU, u_diZip, endD, finZ_d, finD, finC, List.take_length, u_dYes, wipeD, ix0, ix1, ix2, get_snoc, set_snoc, take_snoc, u_dOpC, u_dSlC, u_dListC, e_addC, e_mulC, e_loCl, e_loCt, e_loCs, e_wd, e_wc0, e_wcs, e_wsn, e_wc1, e_wc2, e_wl0, e_wl1, e_dl0, e_dl1, e_sl, e_st, e_ss, e_addi, e_adds, e_addt, e_addl, e_sub, e_muli, e_mult, e_mull, e_fdiv, e_mod, e_pow, e_neg, e_lt, e_le, e_gt, e_ge, e_eqi, e_eqs, e_eql, e_eqt, e_eqb, e_eqn, e_nei, e_nes, e_nel, e_net, e_neb, e_nen, e_isb, e_isn, e_inb, e_inn, e_in1, e_in2, e_in3, e_in4, e_in5, e_ixt, e_ixl, e_ixs, e_at0, e_at1, e_at2, e_at3, e_at4, e_at5, e_atl, e_keyi, e_keys, e_lenl, e_lent, e_lens, e_lend, e_maxi, e_mini, e_maxl, e_minl, e_sum, e_all, e_any, e_inti, e_intb, e_abs, e_tol, e_tot, e_tos, e_lol, e_lot, e_los, e_sll, e_slt, e_rvl, e_rvt, e_repr, e_isi, e_srtl, e_srtt, List.map_cons, List.map_nil, List.length_cons, List.length_nil, List.cons_append, List.nil_append, List.flatten_cons, List.flatten_nil, List.append_nil, List.replicate_succ, List.replicate_zero, List.getElem?_cons_zero, List.getElem?_cons_succ, List.set_cons_zero, List.set_cons_succ, Nat.reduceSub, Nat.reduceAdd, Int.reduceToNat, Int.reduceLE, Int.reduceLT, Int.reduceNeg, Nat.reduceLeDiff, Nat.reduceLT, Nat.zero_add, Option.some.injEq, Z.d.injEq, Z.c.injEq, D.bl.injEq, D.int.injEq, D.tup.injEq, D.lst.injEq, List.take_succ_cons, List.take_zero, exists_eq_left', exists_eq_left, true_and, and_true, if_true, Bool.not_true, Bool.not_false, Bool.false_eq_true, if_false, decide_true, decide_false, n_vK])
theorem eqv_two (a b c d : Int) : eqvD (.lst [.int a, .int b]) (.lst [.int c, .int d]) = (decide (a = c) && decide (b = d)) := by
  show PyData.eqv (py (.lst [.int a, .int b])) (py (.lst [.int c, .int d])) = _
  simp only [py, pyL, PyData.eqv, PyData.eqvAll, Bool.and_true]
  rfl
theorem eqo_two (a b : Int) : EqOk (.lst [.int a, .int b]) := (EqN.lst (e := 0) fun d hd => by
  simp only [List.mem_cons, List.not_mem_nil, or_false] at hd
  rcases hd with rfl | rfl <;> exact EqN.int _).eq (by decide)
theorem mod_eq {a b c : Int} (k : Int) (h : a = b + k * c) : a % c = b % c := by rw [h, Int.add_mul_emod_self_right]
/-- the hits by the inverse of the step -/
theorem inv_least {c b st f l inv k : Int} (hc : 1 ≤ c) (l1 : 1 ≤ l) (lc : l ≤ c) (hi : st * inv = 1 + k * c) {m : Int} (hm : ∃ j, 0 ≤ j ∧ j < l ∧ m = (f + j - b) * inv % c) (hl : ∀ j, 0 ≤ j → j < l → m ≤ (f + j - b) * inv % c) : FAns c b st f l (some m) := by
  obtain ⟨j, j0, j1, e⟩ := hm
  have m0 : 0 ≤ m := by rw [e]; exact Int.emod_nonneg _ (by omega)
  have m1 : m < c := by rw [e]; exact Int.emod_lt_of_pos _ (by omega)
  refine ⟨m0, ?_, fun z z0 z1 hz => ?_⟩
  · show (b + m * st - f) % c < l
    obtain ⟨w, hw⟩ : ∃ w, w = f + j - b := ⟨_, rfl⟩
    rw [← hw] at e
    have d := Int.emod_add_mul_ediv (w * inv) c
    have : (b + m * st - f) % c = j % c := by
      refine mod_eq (w * k - w * inv / c * st) ?_
      rw [← e] at d
      have e2 : m = w * inv - c * (w * inv / c) := by omega
      generalize w * inv / c = y at e2
      rw [e2, Int.sub_mul, Int.mul_assoc, Int.mul_comm inv st, hi, Int.sub_mul, Int.mul_add, Int.mul_one, Int.mul_assoc w k c, Int.mul_assoc c y st, Int.mul_comm c (y * st)]
      omega
    rw [this, Int.emod_eq_of_lt j0 (by omega)]
    exact j1
  · have hz' : (b + z * st - f) % c < l := hz
    have j0' := Int.emod_nonneg (b + z * st - f) (show c ≠ 0 by omega)
    have t := hl _ j0' hz'
    have d := Int.emod_add_mul_ediv (b + z * st - f) c
    have : (f + (b + z * st - f) % c - b) * inv % c = z % c := by
      refine mod_eq (z * k - (b + z * st - f) / c * inv) ?_
      have e2 : f + (b + z * st - f) % c - b = z * st - c * ((b + z * st - f) / c) := by omega
      rw [e2]
      generalize (b + z * st - f) / c = y
      rw [Int.sub_mul, Int.mul_assoc z, hi, Int.sub_mul, Int.mul_add, Int.mul_one, Int.mul_assoc z k c, Int.mul_assoc c y inv, Int.mul_comm c (y * inv)]
      omega
    rw [this, Int.emod_eq_of_lt z0 (by omega)] at t
    omega
theorem straight_on {c b f l : Int} (hc : 1 ≤ c) (l1 : 1 ≤ l) (h : l ≤ (b - f) % c) : FAns c b 1 f l (some (c - (b - f) % c)) := by
  have a1 := Int.emod_lt_of_pos (b - f) (show 0 < c by omega)
  have key : ∀ n, (b + n * 1 - f) % c = ((b - f) % c + n) % c := fun n => by
    rw [Int.emod_add_emod]
    congr 1
    omega
  refine ⟨by omega, ?_, fun z z0 z1 hz => ?_⟩
  · show (b + (c - (b - f) % c) * 1 - f) % c < l
    rw [key, show (b - f) % c + (c - (b - f) % c) = c by omega, Int.emod_self]
    omega
  · have hz' : (b + z * 1 - f) % c < l := hz
    rw [key, Int.emod_eq_of_lt (by omega) (by omega)] at hz'
    omega
theorem straight_back {c b f l : Int} (hc : 1 ≤ c) (l1 : 1 ≤ l) (h : l ≤ (b - f) % c) : FAns c b (-1) f l (some ((b - f) % c - l + 1)) := by
  have a1 := Int.emod_lt_of_pos (b - f) (show 0 < c by omega)
  have key : ∀ n, (b + n * (-1) - f) % c = ((b - f) % c - n) % c := fun n => by
    rw [Int.emod_sub_emod]
    congr 1
    omega
  refine ⟨by omega, ?_, fun z z0 z1 hz => ?_⟩
  · show (b + ((b - f) % c - l + 1) * (-1) - f) % c < l
    rw [key, show (b - f) % c - ((b - f) % c - l + 1) = l - 1 by omega, Int.emod_eq_of_lt (by omega) (by omega)]
    omega
  · have hz' : (b + z * (-1) - f) % c < l := hz
    rw [key, Int.emod_eq_of_lt (by omega) (by omega)] at hz'
    omega
theorem straight_now {c b st f l : Int} (h : (b - f) % c < l) : FAns c b st f l (some 0) :=
  ⟨Int.le_refl _, by show (b + 0 * st - f) % c < l; rw [Int.zero_mul, Int.add_zero]; exact h, fun z z0 z1 => by omega⟩
def sp_l_straight_right : DSpec := fun zs cs k => match zs, cs with
  | [.c 0], x :: rest => ∃ L, Pond L x ∧ L ≤ 10 ^ 10 ∧ ∀ x', Pond (L + 100) x' → k (.d (.bl true)) (x' :: rest)
  | _, _ => False
theorem len_l_straight_right : ∀ zs cs q, sp_l_straight_right zs cs q → zs.length = (["_law_pond_here"] : List Str).length := fun zs cs q h => by
  unfold sp_l_straight_right at h
  split at h
  · rfl
  · exact h.elim
def t_l_straight_right : DS :=
  (dSeq (dAsg (dOp addD (dC (.int 1)) (dCall sp_l_fish (dCons (dVar 0) (dCons (dOp powD (dC (.int 10)) (dC (.int 30))) dNil)))) (dgName 1))
  (dSeq (dPar3 2 3 4 (dCons (dCall sp_l_fish (dCons (dVar 0) (dCons (dVar 1) dNil))) (dCons (dCall sp_l_fish (dCons (dVar 0) (dCons (dVar 1) dNil))) (dCons (dOp addD (dC (.int 1)) (dCall sp_l_fish (dCons (dVar 0) (dCons (dVar 1) dNil)))) dNil))))
  (dSeq (dAsg (dOp modD (dOp subD (dVar 2) (dVar 3)) (dVar 1)) (dgName 5))
  (dLock (dSeq (dAsg (dIf (dB (dOp ltD (dVar 5) (dVar 4))) (dLst (dCons (dC (.int 0)) (dCons (dC (.int 0)) dNil))) (dLst (dCons (dOp subD (dVar 1) (dVar 5)) (dCons (dOp addD (dOp subD (dVar 5) (dVar 4)) (dC (.int 1))) dNil)))) (dgName 6))
  (dRet (dOp eqUD (dLst (dCons (dCall sp_first_hit (dCons (dVar 1) (dCons (dVar 2) (dCons (dC (.int 1)) (dCons (dVar 3) (dCons (dVar 4) dNil)))))) (dCons (dCall sp_first_hit (dCons (dVar 1) (dCons (dVar 2) (dCons (dUn negD (dC (.int 1))) (dCons (dVar 3) (dCons (dVar 4) dNil)))))) dNil))) (dVar 6))))))))
theorem rd_l_straight_right : ∀ zs cs q, sp_l_straight_right zs cs q → t_l_straight_right (endD cs.length q) (startD ["_law_pond_here", "_law_span", "_law_begin", "_law_place", "_law_size", "_law_ahead", "_law_due"] zs) cs := fun zs cs q h => by
  unfold sp_l_straight_right at h
  split at h
  rotate_left
  · exact h.elim
  simp only [startD, List.map_cons, List.map_nil, List.length_cons, List.length_nil, Nat.reduceAdd, Nat.zero_add, Nat.reduceSub, List.replicate_zero, List.replicate_succ, List.cons_append, List.nil_append, List.append_nil]
  rename_i x rest
  obtain ⟨L, hP, hL, h⟩ := h
  have s10 : Sm 10 := Sm.of (by decide) (by decide)
  unfold t_l_straight_right
  walk_at "dl"
  refine ⟨s10, ?_⟩
  refine fish_use hP ⟨by decide, by decide, by omega⟩ fun a0 x1 a1 a2 p1 => ?_
  walk_at "dl"
  obtain ⟨c, hc⟩ : ∃ c, c = 1 + a0 := ⟨_, rfl⟩
  rw [← hc]
  simp only [u_dPar3]
  walk_at "dl"
  refine fish_use p1 ⟨by omega, by omega, by omega⟩ fun b x2 b1 b2 p2 => ?_
  refine fish_use p2 ⟨by omega, by omega, by omega⟩ fun f x3 f1 f2 p3 => ?_
  refine fish_use p3 ⟨by omega, by omega, by omega⟩ fun l0 x4 l1 l2 p4 => ?_
  walk_at "dl"
  obtain ⟨l, hl⟩ : ∃ l, l = 1 + l0 := ⟨_, rfl⟩
  rw [← hl]
  refine ⟨by omega, ?_⟩
  have q0 := Int.emod_nonneg (b - f) (show c ≠ 0 by omega)
  by_cases z : (b - f) % c < l
  · unfold dLock
    walk_at "dl"
    simp only [z, decide_true, if_true]
    refine ⟨⟨by omega, by omega, by omega, by omega⟩, fun t1 h1 => ?_⟩
    rw [Least.uniq h1 (straight_now z)]
    refine ⟨⟨by omega, by omega, by omega, by omega⟩, fun t2 h2 => ?_⟩
    rw [Least.uniq h2 (straight_now z)]
    simp only [optD]
    walk_at "dl"
    refine ⟨⟨eqo_two _ _, eqo_two _ _⟩, ?_⟩
    rw [eqv_two]
    exact h _ (p4.le (by omega))
  · unfold dLock
    walk_at "dl"
    simp only [z, decide_false, Bool.false_eq_true, if_false]
    have z' : l ≤ (b - f) % c := by omega
    refine ⟨⟨by omega, by omega, by omega, by omega⟩, fun t1 h1 => ?_⟩
    rw [Least.uniq h1 (straight_on (by omega) (by omega) z')]
    refine ⟨⟨by omega, by omega, by omega, by omega⟩, fun t2 h2 => ?_⟩
    rw [Least.uniq h2 (straight_back (by omega) (by omega) z')]
    simp only [optD]
    walk_at "dl"
    refine ⟨⟨eqo_two _ _, eqo_two _ _⟩, ?_⟩
    rw [eqv_two, decide_eq_true rfl, decide_eq_true rfl]
    exact h _ (p4.le (by omega))
def sp_l_great_right : DSpec := fun zs cs k => match zs, cs with
  | [.c 0], x :: rest => ∃ L, Pond L x ∧ L ≤ 10 ^ 10 ∧ ∀ x', Pond (L + 100) x' → k (.d (.bl true)) (x' :: rest)
  | _, _ => False
theorem len_l_great_right : ∀ zs cs q, sp_l_great_right zs cs q → zs.length = (["_law_pond_here"] : List Str).length := fun zs cs q h => by
  unfold sp_l_great_right at h
  split at h
  · rfl
  · exact h.elim
def t_l_great_right : DS :=
  (dSeq (dPar 1 2 (dCons (dOp addD (dC (.int 2)) (dCall sp_l_fish (dCons (dVar 0) (dCons (dOp powD (dC (.int 10)) (dC (.int 14))) dNil)))) (dCons (dOp addD (dC (.int 2)) (dCall sp_l_fish (dCons (dVar 0) (dCons (dOp powD (dC (.int 10)) (dC (.int 14))) dNil)))) dNil)))
  (dSeq (dAsg (dOp addD (dOp mulD (dVar 1) (dVar 2)) (dC (.int 1))) (dgName 3))
  (dSeq (dAsg (dLst (dCons (dTup (dCons (dVar 1) (dCons (dOp subD (dC (.int 0)) (dVar 2)) dNil))) (dCons (dTup (dCons (dOp subD (dC (.int 0)) (dVar 2)) (dCons (dVar 1) dNil))) (dCons (dTup (dCons (dVar 2) (dCons (dOp subD (dC (.int 0)) (dVar 1)) dNil))) (dCons (dTup (dCons (dC (.int 1)) (dCons (dC (.int 1)) dNil))) (dCons (dTup (dCons (dUn negD (dC (.int 1))) (dCons (dUn negD (dC (.int 1))) dNil))) dNil)))))) (dgName 4))
  (dSeq (dAsg (dOp ixD (dVar 4) (dCall sp_l_fish (dCons (dVar 0) (dCons (dC (.int 5)) dNil)))) (dgTup 2 (dgsCons (dgName 5) (dgsCons (dgName 6) dgsNil))))
  (dSeq (dAsg (dTup (dCons (dCall sp_l_fish (dCons (dVar 0) (dCons (dOp powD (dC (.int 10)) (dC (.int 40))) dNil))) (dCons (dCall sp_l_fish (dCons (dVar 0) (dCons (dOp powD (dC (.int 10)) (dC (.int 40))) dNil))) (dCons (dOp addD (dC (.int 1)) (dCall sp_l_fish (dCons (dVar 0) (dCons (dCB minD (dCons (dC (.int 30)) (dCons (dVar 3) dNil))) dNil)))) dNil)))) (dgTup 3 (dgsCons (dgName 7) (dgsCons (dgName 8) (dgsCons (dgName 9) dgsNil)))))
  (dSeq (dAsg (dCB minD (dCons (dLc (diR1 (dVar 9)) (dgName 12) dYes (dOp modD (dOp mulD (dOp subD (dOp addD (dVar 8) (dVar 12)) (dVar 7)) (dVar 6)) (dVar 3)) [12]) dNil)) (dgName 10))
  (dSeq (dIfS (dB (dOp neUD (dCall sp_first_hit (dCons (dVar 3) (dCons (dVar 7) (dCons (dVar 5) (dCons (dVar 8) (dCons (dVar 9) dNil)))))) (dVar 10))) (dRet (dC (.bl false))) dNext)
  (dSeq (dAsg (dOp addD (dC (.int 1)) (dCall sp_l_fish (dCons (dVar 0) (dCons (dOp fdivD (dOp powD (dC (.int 10)) (dC (.int 30))) (dVar 3)) dNil)))) (dgName 11))
  (dRet (dOp eqUD (dCall sp_first_hit (dCons (dOp mulD (dVar 3) (dVar 11)) (dCons (dOp mulD (dVar 7) (dVar 11)) (dCons (dOp mulD (dVar 5) (dVar 11)) (dCons (dOp mulD (dVar 8) (dVar 11)) (dCons (dOp mulD (dVar 9) (dVar 11)) dNil)))))) (dVar 10)))))))))))
theorem rd_l_great_right : ∀ zs cs q, sp_l_great_right zs cs q → t_l_great_right (endD cs.length q) (startD ["_law_pond_here", "_law_up", "_law_turns", "_law_span", "_law_pairs", "_law_step", "_law_inverse", "_law_begin", "_law_place", "_law_size", "_law_due", "_law_times", "_law_j"] zs) cs := fun zs cs q h => by
  unfold sp_l_great_right at h
  split at h
  rotate_left
  · exact h.elim
  simp only [startD, List.map_cons, List.map_nil, List.length_cons, List.length_nil, Nat.reduceAdd, Nat.zero_add, Nat.reduceSub, List.replicate_zero, List.replicate_succ, List.cons_append, List.nil_append, List.append_nil]
  rename_i x rest
  obtain ⟨L, hP, hL, h⟩ := h
  have s10 : Sm 10 := Sm.of (by decide) (by decide)
  unfold t_l_great_right
  walk_at "dl"
  refine ⟨s10, ?_⟩
  refine fish_use hP ⟨by decide, by decide, by omega⟩ fun a0 x1 a1 a2 p1 => ?_
  walk_at "dl"
  refine ⟨s10, ?_⟩
  refine fish_use p1 ⟨by decide, by decide, by omega⟩ fun b0 x2 b1 b2 p2 => ?_
  walk_at "dl"
  refine ⟨⟨Sm.of (by omega) (by omega), Sm.of (by omega) (by omega)⟩, ?_⟩
  obtain ⟨u, hu⟩ : ∃ u, u = 2 + a0 := ⟨_, rfl⟩
  obtain ⟨v, hv⟩ : ∃ v, v = 2 + b0 := ⟨_, rfl⟩
  rw [← hu, ← hv]
  obtain ⟨c, hc⟩ : ∃ c, c = u * v + 1 := ⟨_, rfl⟩
  rw [← hc]
  have uv : 0 ≤ u * v ∧ u * v ≤ 10 ^ 29 := ⟨Int.mul_nonneg (by omega) (by omega), by
    have := Int.mul_le_mul (show u ≤ 10 ^ 14 + 1 by omega) (show v ≤ 10 ^ 14 + 1 by omega) (by omega) (by omega)
    omega⟩
  refine fish_use p2 ⟨by decide, by decide, by omega⟩ fun e0 x3 e1 e2 p3 => ?_
  walk_at "dl"
  have pick : ∃ st inv k : Int, st * inv = 1 + k * c ∧ (-(10 ^ 20) ≤ st ∧ st ≤ 10 ^ 20 ∧ -(10 ^ 20) ≤ inv ∧ inv ≤ 10 ^ 20) ∧ atI [D.tup [.int u, .int (0 - v)], .tup [.int (0 - v), .int u], .tup [.int v, .int (0 - u)], .tup [.int 1, .int 1], .tup [.int (-1), .int (-1)]] e0 = some (.tup [.int st, .int inv]) := by
    have : e0 = 0 ∨ e0 = 1 ∨ e0 = 2 ∨ e0 = 3 ∨ e0 = 4 := by omega
    rcases this with rfl | rfl | rfl | rfl | rfl
    · exact ⟨u, 0 - v, -1, by rw [Int.zero_sub, Int.mul_neg]; omega, ⟨by omega, by omega, by omega, by omega⟩, at0⟩
    · exact ⟨0 - v, u, -1, by rw [Int.zero_sub, Int.neg_mul, Int.mul_comm v u]; omega, ⟨by omega, by omega, by omega, by omega⟩, at1⟩
    · exact ⟨v, 0 - u, -1, by rw [Int.zero_sub, Int.mul_neg, Int.mul_comm v u]; omega, ⟨by omega, by omega, by omega, by omega⟩, at2⟩
    · exact ⟨1, 1, 0, by omega, ⟨by omega, by omega, by omega, by omega⟩, at3⟩
    · exact ⟨-1, -1, 0, by omega, ⟨by omega, by omega, by omega, by omega⟩, at4⟩
  obtain ⟨st, inv, k, hi, hb, pick⟩ := pick
  rw [e_at pick]
  walk_at "dl"
  refine ⟨s10, ?_⟩
  refine fish_use p3 ⟨by decide, by decide, by omega⟩ fun b x4 b1 b2 p4 => ?_
  walk_at "dl"
  refine ⟨s10, ?_⟩
  refine fish_use p4 ⟨by decide, by decide, by omega⟩ fun f x5 f1 f2 p5 => ?_
  walk_at "dl"
  refine fish_use p5 ⟨by omega, by omega, by omega⟩ fun l0 x6 l1 l2 p6 => ?_
  walk_at "dl"
  obtain ⟨l, hl⟩ : ∃ l, l = 1 + l0 := ⟨_, rfl⟩
  rw [← hl]
  refine dLc_mk (rgD 0 l.toNat) yes _ (fun K h => by walk_at "dl"; exact ⟨⟨by omega, by omega⟩, h⟩) (fun d => match d with
    | .int j => .int ((f + j - b) * inv % c)
    | _ => .non) (by rw [rgD_len]; omega) (fun i d acc hd P hP => ?_) ?_ (fun _ => trivial)
  · obtain ⟨hj, rfl⟩ := rgD_get hd
    walk_at "dl"
    exact ⟨⟨Sm.of (by omega) (by omega), Sm.of (by omega) (by omega)⟩, by omega, hP⟩
  rw [show (rgD 0 l.toNat).map (fun d => match d with
    | .int j => .int ((f + j - b) * inv % c)
    | _ => .non) = ((List.range l.toNat).map fun (j : Nat) => (f + (0 + (j : Int)) - b) * inv % c).map D.int by
      unfold rgD
      rw [List.map_map, List.map_map]
      rfl]
  walk_at "dl"
  refine ⟨_, rfl, by rw [List.length_map, List.length_range]; omega, fun m hm hml => ?_⟩
  have FA : FAns c b st f l (some m) := inv_least (by omega) (by omega) (by omega) hi (by
    obtain ⟨j, hj, e⟩ := List.mem_map.mp hm
    have := List.mem_range.mp hj
    exact ⟨j, by omega, by omega, by rw [← e, Int.zero_add]⟩) fun j j0 j1 => by
    have := hml ((f + (0 + (j.toNat : Int)) - b) * inv % c) (List.mem_map.mpr ⟨j.toNat, List.mem_range.mpr (by omega), rfl⟩)
    rwa [Int.zero_add, Int.toNat_of_nonneg j0] at this
  refine ⟨⟨by omega, by omega, by omega, by omega⟩, fun t1 ht1 => ?_⟩
  rw [Least.uniq ht1 FA]
  simp only [optD]
  walk_at "dl"
  refine ⟨s10, Dv.of (by omega) (by omega), ?_⟩
  have dm := Int.emod_add_mul_ediv (10 ^ 30) c
  have dn := Int.emod_nonneg (10 ^ 30) (show c ≠ 0 by omega)
  have dq : 1 ≤ 10 ^ 30 / c := by
    refine (Int.le_ediv_iff_mul_le (by omega)).mpr ?_
    omega
  have dq2 : 10 ^ 30 / c ≤ 10 ^ 30 := Int.ediv_le_self _ (by decide)
  refine fish_use p6 ⟨by omega, by omega, by omega⟩ fun g0 x7 g1 g2 p7 => ?_
  walk_at "dl"
  obtain ⟨F, hF⟩ : ∃ F, F = 1 + g0 := ⟨_, rfl⟩
  rw [← hF]
  have cF : 1 ≤ c * F ∧ c * F ≤ 10 ^ 30 := by
    have h1 := Int.mul_le_mul_of_nonneg_left (show F ≤ 10 ^ 30 / c by omega) (show 0 ≤ c by omega)
    have h2 := Int.mul_le_mul (show (1 : Int) ≤ c by omega) (show 1 ≤ F by omega) (by omega) (by omega)
    omega
  have lF : 1 ≤ l * F ∧ l * F ≤ c * F := by
    have h1 := Int.mul_le_mul_of_nonneg_right (show l ≤ c by omega) (show 0 ≤ F by omega)
    have h2 := Int.mul_le_mul (show (1 : Int) ≤ l by omega) (show 1 ≤ F by omega) (by omega) (by omega)
    omega
  have sFm : Sm F := Sm.of (by omega) (by omega)
  refine ⟨⟨Sm.of (by omega) (by omega), sFm⟩, ⟨Sm.of (by omega) (by omega), sFm⟩, ⟨Sm.of (by omega) (by omega), sFm⟩, ⟨Sm.of (by omega) (by omega), sFm⟩, ⟨Sm.of (by omega) (by omega), sFm⟩, ?_⟩
  refine ⟨⟨cF.1, cF.2, lF.1, lF.2⟩, fun t2 ht2 => ?_⟩
  have FB : FAns c b st f l t2 := Least.congr ht2 fun n _ => by
    have := fhit_blk (c := c) (F := F) (r := 0) (b := b) (st := st) (f := f) (l := l) (by omega) (by omega) (Int.le_refl _) (by omega) n
    rwa [Int.add_zero] at this
  rw [Least.uniq FB FA]
  simp only [optD]
  walk_at "dl"
  exact h _ (p7.le (by omega))
end K04
set_option Elab.async false
set_option linter.all false
set_option maxRecDepth 100000
set_option maxHeartbeats 2000000
set_option autoImplicit false
namespace K04
open PySem L2 DL K01
local macro_rules | `(tactic| walk_at "dl") => `(tactic| simp only [u_dSeq, u_dNext, u_dOwn, u_dOwnE, u_dFld, u_dMake, u_dMeth, u_dProp, u_dIsiO, u_dCallI, u_dSortSet, u_dFrz, e_isC, e_rgO, e_rgn, e_rgi, e_rgs, e_rgb, e_rgt, e_rgl, e_fz1, e_fz2, le_lim, lt_lim, set_snoc0, e_srtI, u_dBreak, u_dCont, u_dDrop, u_dRet, u_dRetN, u_dIfS, u_dNever, u_dAsg, u_dPar, u_dPutK, u_dAppend, u_dExtend, u_dCall, u_dVar, u_dC, u_dOp, u_dChain, u_dUn, u_dB, u_dNot, u_dAnd, u_dOr, u_dAndV, u_dOrV, u_dNotV, u_dIf, u_dNil, u_dCons, u_dTup, u_dLst, u_dLstC, u_dCB, u_dInK, u_dGetK, u_dDicC, u_dNoPart, u_dPart, u_dSl, u_dBits, u_dRev, u_dgName, u_dgsNil, u_dgsCons, u_dgTup, u_dgSet, u_diSeq, u_diR1, e_diR2, e_r2, u_diEnum, u_diEnumU, u_diZip, endD, finZ_d, finD, finC, List.take_length, u_dYes, wipeD, ix0, ix1, ix2, get_snoc, set_snoc, take_snoc, u_dOpC, u_dSlC, u_dListC, e_addC, e_mulC, e_loCl, e_loCt, e_loCs, e_wd, e_wc0, e_wcs, e_wsn, e_wc1, e_wc2, e_wl0, e_wl1, e_dl0, e_dl1, e_sl, e_st, e_ss, e_addi, e_adds, e_addt, e_addl, e_sub, e_muli, e_mult, e_mull, e_fdiv, e_mod, e_pow, e_neg, e_lt, e_le, e_gt, e_ge, e_eqi, e_eqs, e_eql, e_eqt, e_eqb, e_eqn, e_nei, e_nes, e_nel, e_net, e_neb, e_nen, e_isb, e_isn, e_inb, e_inn, e_in1, e_in2, e_in3, e_in4, e_in5, e_ixt, e_ixl, e_ixs, e_at0, e_at1, e_at2, e_at3, e_at4, e_at5, e_atl, e_keyi, e_keys, e_lenl, e_lent, e_lens, e_lend, e_maxi, e_mini, e_maxl, e_minl, e_sum, e_all, e_any, e_inti, e_intb, e_abs, e_tol, e_tot, e_tos, e_lol, e_lot, e_los, e_sll, e_slt, e_rvl, e_rvt, e_repr, e_isi, e_srtl, e_srtt, List.map_cons, List.map_nil, List.length_cons, List.length_nil, List.cons_append, List.nil_append, List.flatten_cons, List.flatten_nil, List.append_nil, List.replicate_succ, List.replicate_zero, List.getElem?_cons_zero, List.getElem?_cons_succ, List.set_cons_zero, List.set_cons_succ, Nat.reduceSub, Nat.reduceAdd, Int.reduceToNat, Int.reduceLE, Int.reduceLT, Int.reduceNeg, Nat.reduceLeDiff, Nat.reduceLT, Nat.zero_add, Option.some.injEq, Z.d.injEq, Z.c.injEq, D.bl.injEq, D.int.injEq, D.tup.injEq, D.lst.injEq, List.take_succ_cons, List.take_zero, exists_eq_left', exists_eq_left, true_and, and_true, if_true, Bool.not_true, Bool.not_false, Bool.false_eq_true, if_false, decide_true, decide_false, n_vK])
structure Eu (c st one other back inv : Int) : Prop where
  o0 : 1 ≤ one
  o1 : one ≤ c
  p0 : 1 ≤ other
  p1 : other ≤ c
  cop : ∃ x y, x * one + y * other = 1
  k1 : ∃ k, other = inv * st + k * c
  k0 : ∃ k, one = back * st + k * c
  sg : ∃ A B, 0 ≤ A ∧ 0 ≤ B ∧ A * other + B * one = c ∧ ((back = A ∧ inv = -B) ∨ (back = -A ∧ inv = B))
theorem Eu.bd {c st one other back inv : Int} (h : Eu c st one other back inv) : -c ≤ back ∧ back ≤ c ∧ -c ≤ inv ∧ inv ≤ c := by
  obtain ⟨A, B, a0, b0, e, s⟩ := h.sg
  have h1 := Int.mul_le_mul_of_nonneg_left h.p0 a0
  have h2 := Int.mul_le_mul_of_nonneg_left h.o0 b0
  rcases s with ⟨q1, q2⟩ | ⟨q1, q2⟩ <;> omega
theorem Eu.next {c st one other back inv : Int} (h : Eu c st one other back inv) (hr : 0 < one % other) : Eu c st other (one % other) inv (back - one / other * inv) := by
  have hp0 := h.p0
  have d := Int.emod_add_mul_ediv one other
  have r1 := Int.emod_lt_of_pos one (show 0 < other by omega)
  have q0 : 0 ≤ one / other := Int.ediv_nonneg (by have := h.o0; omega) (by omega)
  obtain ⟨x, y, cop⟩ := h.cop
  obtain ⟨k1, e1⟩ := h.k1
  obtain ⟨k0, e0⟩ := h.k0
  obtain ⟨A, B, a0, b0, e, sg⟩ := h.sg
  have er : one % other = one - one / other * other := by rw [Int.mul_comm]; omega
  refine ⟨h.p0, h.p1, by omega, by have := h.p1; omega, ⟨x * (one / other) + y, x, ?_⟩, ⟨k0 - one / other * k1, ?_⟩, ⟨k1, e1⟩, ⟨B, A + one / other * B, b0, by have := Int.mul_nonneg q0 b0; omega, ?_, ?_⟩⟩
  · rw [er, Int.add_mul, Int.mul_sub, Int.mul_assoc x]
    omega
  · rw [er]
    generalize one / other = q
    rw [Int.sub_mul, Int.sub_mul, Int.mul_assoc q inv, Int.mul_assoc q k1]
    have : q * other = q * (inv * st) + q * (k1 * c) := by rw [e1, Int.mul_add]
    omega
  · rw [er, Int.add_mul]
    generalize one / other = q
    rw [Int.mul_sub, Int.mul_assoc q B, Int.mul_left_comm B q]
    omega
  · rcases sg with ⟨q1, q2⟩ | ⟨q1, q2⟩
    · refine .inr ⟨q2, ?_⟩
      rw [q1, q2, Int.mul_neg]
      omega
    · refine .inl ⟨q2, ?_⟩
      rw [q1, q2]
      omega
theorem Eu.last {c st one other back inv : Int} (h : Eu c st one other back inv) (hr : one % other = 0) : ∃ k, st * inv = 1 + k * c := by
  have d := Int.emod_add_mul_ediv one other
  obtain ⟨x, y, cop⟩ := h.cop
  have e1 : other = 1 := by
    have hd : other * (x * (one / other) + y) = 1 := by
      rw [Int.mul_add, Int.mul_left_comm]
      have : one = other * (one / other) := by omega
      rw [← this, Int.mul_comm other y]
      exact cop
    have hp := h.p0
    have t : 0 < x * (one / other) + y := by
      refine Int.lt_of_mul_lt_mul_left (a := other) ?_ (by omega)
      omega
    have := Int.mul_le_mul_of_nonneg_left (show 1 ≤ x * (one / other) + y by omega) (show 0 ≤ other by omega)
    omega
  obtain ⟨k, e⟩ := h.k1
  refine ⟨-k, ?_⟩
  rw [Int.mul_comm, Int.neg_mul]
  omega
def sp_l_turns_right : DSpec := fun zs cs k => match zs, cs with
  | [.c 0], x :: rest => ∃ L, Pond L x ∧ L ≤ 10 ^ 9 ∧ ∀ x', Pond (L + 5000) x' → k (.d (.bl true)) (x' :: rest)
  | _, _ => False
theorem len_l_turns_right : ∀ zs cs q, sp_l_turns_right zs cs q → zs.length = (["_law_pond_here"] : List Str).length := fun zs cs q h => by
  unfold sp_l_turns_right at h
  split at h
  · rfl
  · exact h.elim
def t_l_turns_right : DS :=
  (dSeq (dAsg (dTup (dCons (dC (.int 1)) (dCons (dC (.int 0)) dNil))) (dgTup 2 (dgsCons (dgName 1) (dgsCons (dgName 2) dgsNil))))
  (dSeq (dFor (diR1 (dOp addD (dC (.int 10)) (dCall sp_l_fish (dCons (dVar 0) (dCons (dC (.int 130)) dNil))))) (dgName 3) (dSeq (dAsg (dOp addD (dOp mulD (dOp addD (dC (.int 1)) (dCall sp_l_fish (dCons (dVar 0) (dCons (dOp ixD (dLst (dCons (dC (.int 1)) (dCons (dC (.int 2)) (dCons (dC (.int 4)) dNil)))) (dCall sp_l_fish (dCons (dVar 0) (dCons (dC (.int 3)) dNil)))) dNil)))) (dVar 1)) (dVar 2)) (dgName 4))
  (dIfS (dB (dOp leD (dVar 4) (dOp powD (dC (.int 10)) (dC (.int 30))))) (dAsg (dTup (dCons (dVar 4) (dCons (dVar 1) dNil))) (dgTup 2 (dgsCons (dgName 1) (dgsCons (dgName 2) dgsNil)))) dNext)))
  (dSeq (dAsg (dTup (dCons (dVar 1) (dCons (dVar 2) (dCons (dC (.int 0)) (dCons (dC (.int 1)) dNil))))) (dgTup 4 (dgsCons (dgName 5) (dgsCons (dgName 6) (dgsCons (dgName 7) (dgsCons (dgName 8) dgsNil))))))
  (dSeq (dWhile (dB (dOp gtD (dOp modD (dVar 5) (dVar 6)) (dC (.int 0)))) (dSeq (dAsg (dTup (dCons (dVar 8) (dCons (dOp subD (dVar 7) (dOp mulD (dOp fdivD (dVar 5) (dVar 6)) (dVar 8))) dNil))) (dgTup 2 (dgsCons (dgName 7) (dgsCons (dgName 8) dgsNil))))
  (dPar 5 6 (dCons (dVar 6) (dCons (dOp modD (dVar 5) (dVar 6)) dNil)))))
  (dSeq (dAsg (dTup (dCons (dCall sp_l_fish (dCons (dVar 0) (dCons (dOp powD (dC (.int 10)) (dC (.int 40))) dNil))) (dCons (dCall sp_l_fish (dCons (dVar 0) (dCons (dVar 1) dNil))) (dCons (dOp addD (dC (.int 1)) (dCall sp_l_fish (dCons (dVar 0) (dCons (dCB minD (dCons (dC (.int 30)) (dCons (dVar 1) dNil))) dNil)))) dNil)))) (dgTup 3 (dgsCons (dgName 9) (dgsCons (dgName 10) (dgsCons (dgName 11) dgsNil)))))
  (dSeq (dAsg (dCB minD (dCons (dLc (diR1 (dVar 11)) (dgName 13) dYes (dOp modD (dOp mulD (dOp subD (dOp addD (dVar 10) (dVar 13)) (dVar 9)) (dVar 8)) (dVar 1)) [13]) dNil)) (dgName 12))
  (dRet (dOp eqUD (dCall sp_first_hit (dCons (dVar 1) (dCons (dVar 9) (dCons (dVar 2) (dCons (dVar 10) (dCons (dVar 11) dNil)))))) (dVar 12)))))))))
theorem rd_l_turns_right : ∀ zs cs q, sp_l_turns_right zs cs q → t_l_turns_right (endD cs.length q) (startD ["_law_pond_here", "_law_span", "_law_step", "_law_turn", "_law_more", "_law_one", "_law_other", "_law_back", "_law_inverse", "_law_begin", "_law_place", "_law_size", "_law_due", "_law_j"] zs) cs := fun zs cs q h => by
  unfold sp_l_turns_right at h
  split at h
  rotate_left
  · exact h.elim
  simp only [startD, List.map_cons, List.map_nil, List.length_cons, List.length_nil, Nat.reduceAdd, Nat.zero_add, Nat.reduceSub, List.replicate_zero, List.replicate_succ, List.cons_append, List.nil_append, List.append_nil]
  rename_i x rest
  obtain ⟨L, hP, hL, h⟩ := h
  have s10 : Sm 10 := Sm.of (by decide) (by decide)
  unfold t_l_turns_right
  walk_at "dl"
  refine dFor_it ?_
  walk_at "dl"
  refine fish_use hP ⟨by decide, by decide, by omega⟩ fun a0 x1 a1 a2 p1 => ?_
  walk_at "dl"
  refine ⟨⟨by omega, by omega⟩, ?_⟩
  refine dForB_mk (fun i en cx => ∃ (x : D) (s st : Int) (o3 o4 : Option Z), en = [some (.c 0), some (.d (.int s)), some (.d (.int st)), o3, o4, none, none, none, none, none, none, none, none, none] ∧ cx = x :: rest ∧ (1 ≤ s ∧ s ≤ 10 ^ 30 ∧ 0 ≤ st ∧ st ≤ s ∧ (1 ≤ i → 1 ≤ st) ∧ (i = 0 → s = 1 ∧ st = 0)) ∧ (∃ x y, x * s + y * st = 1) ∧ Pond (L + 10 + i * 30) x)
    ⟨x1, 1, 0, _, _, rfl, rfl, ⟨by decide, by decide, by decide, by decide, fun h => by omega, fun _ => ⟨rfl, rfl⟩⟩, ⟨1, 0, by decide⟩, p1⟩ (fun i d en cx hd hI => ?_) (fun en cx hI => ?_) (fun _ _ _ _ => trivial)
  · obtain ⟨hi, rfl⟩ := rgD_get hd
    obtain ⟨x, s, st, o3, o4, rfl, rfl, ⟨i1, i2, i3, i4, i5, i6⟩, ⟨cx, cy, ec⟩, hp⟩ := hI
    walk_at "dl"
    refine fish_use hp ⟨by decide, by decide, by omega⟩ fun b0 y1 b1 b2 q1 => ?_
    walk_at "dl"
    have pick : ∃ v : Int, 1 ≤ v ∧ v ≤ 4 ∧ atI [D.int 1, .int 2, .int 4] b0 = some (.int v) := by
      have : b0 = 0 ∨ b0 = 1 ∨ b0 = 2 := by omega
      rcases this with rfl | rfl | rfl
      · exact ⟨1, by omega, by omega, at0⟩
      · exact ⟨2, by omega, by omega, at1⟩
      · exact ⟨4, by omega, by omega, at2⟩
    obtain ⟨v, v1, v2, pick⟩ := pick
    rw [e_at pick]
    refine fish_use q1 ⟨by omega, by omega, by omega⟩ fun e0 y2 e1 e2 q2 => ?_
    walk_at "dl"
    refine ⟨⟨Sm.of (by omega) (by omega), Sm.of (by omega) (by omega)⟩, s10, ?_⟩
    have ms := Int.mul_le_mul_of_nonneg_right (show 1 ≤ 1 + e0 by omega) (show 0 ≤ s by omega)
    rw [Int.one_mul] at ms
    by_cases big : (1 + e0) * s + st ≤ 10 ^ 30
    · rw [if_pos (decide_eq_true big)]
      exact .inl ⟨y2, _, _, _, _, rfl, rfl, ⟨by omega, big, by omega, by omega, fun _ => i1, fun h => by omega⟩, ⟨cy, cx - cy * (1 + e0), by rw [Int.mul_add, Int.sub_mul, Int.mul_assoc]; omega⟩, q2.le (by omega)⟩
    · rw [if_neg (by simpa using big)]
      have st1 : 1 ≤ st := by
        by_cases z : i = 0
        · obtain ⟨z1, z2⟩ := i6 z
          rw [z1, z2] at big
          omega
        · exact i5 (by omega)
      exact .inl ⟨y2, _, _, _, _, rfl, rfl, ⟨i1, i2, i3, i4, fun _ => st1, fun h => by omega⟩, ⟨cx, cy, ec⟩, q2.le (by omega)⟩
  · obtain ⟨x, c, st, o3, o4, rfl, rfl, ⟨i1, i2, i3, i4, i5, i6⟩, ⟨cx, cy, ec⟩, hp⟩ := hI
    rw [rgD_len] at i5 hp
    have st1 := i5 (by omega)
    walk_at "dl"
    refine dWhile_mk (fun t en cz => ∃ one other back inv : Int, en = [some (.c 0), some (.d (.int c)), some (.d (.int st)), o3, o4, some (.d (.int one)), some (.d (.int other)), some (.d (.int back)), some (.d (.int inv)), none, none, none, none, none] ∧ cz = x :: rest ∧ t = other.toNat ∧ Eu c st one other back inv) st.toNat
      ⟨c, st, 0, 1, rfl, rfl, rfl, ⟨i1, Int.le_refl _, st1, i4, ⟨cx, cy, ec⟩, ⟨0, by omega⟩, ⟨1, by omega⟩, ⟨0, 1, by decide, by decide, by omega, .inr ⟨by omega, rfl⟩⟩⟩⟩ fun t en cz hI => ?_
    obtain ⟨one, other, back, inv, rfl, rfl, rfl, E⟩ := hI
    have hb := E.bd
    have o0 := E.o0
    have o1 := E.o1
    have q0 := E.p0
    have q1 := E.p1
    have dv0 : 0 ≤ one / other := Int.ediv_nonneg (by omega) (by omega)
    have dv1 : one / other ≤ one := Int.ediv_le_self _ (by omega)
    walk_at "dl"
    refine ⟨by omega, ?_⟩
    have r1 := Int.emod_lt_of_pos one (show 0 < other by omega)
    have r0 := Int.emod_nonneg one (show other ≠ 0 by omega)
    by_cases go : 0 < one % other
    · rw [if_pos (decide_eq_true go)]
      exact ⟨Dv.of (by omega) (by omega), ⟨Sm.of (by omega) (by omega), Sm.of (by omega) (by omega)⟩, by omega, .inl ⟨_, by omega, _, _, _, _, rfl, rfl, rfl, E.next go⟩⟩
    · rw [if_neg (by simpa using go)]
      obtain ⟨k, hi⟩ := E.last (by omega)
      have p31 : (1 + a0).toNat ≤ 5000 := by omega
      have p30 : (10 + a0).toNat ≤ 140 := by omega
      refine ⟨s10, ?_⟩
      refine fish_use hp ⟨by decide, by decide, by omega⟩ fun b x4 b1 b2 p4 => ?_
      refine fish_use p4 ⟨by omega, by omega, by omega⟩ fun f x5 f1 f2 p5 => ?_
      refine fish_use p5 ⟨by omega, by omega, by omega⟩ fun l0 x6 l1 l2 p6 => ?_
      walk_at "dl"
      obtain ⟨l, hl⟩ : ∃ l, l = 1 + l0 := ⟨_, rfl⟩
      rw [← hl]
      refine dLc_mk (rgD 0 l.toNat) yes _ (fun K h => by walk_at "dl"; exact ⟨⟨by omega, by omega⟩, h⟩) (fun d => match d with
        | .int j => .int ((f + j - b) * inv % c)
        | _ => .non) (by rw [rgD_len]; omega) (fun i d acc hd P hP => ?_) ?_ (fun _ => trivial)
      · obtain ⟨hj, rfl⟩ := rgD_get hd
        walk_at "dl"
        exact ⟨⟨Sm.of (by omega) (by omega), Sm.of (by omega) (by omega)⟩, by omega, hP⟩
      rw [show (rgD 0 l.toNat).map (fun d => match d with
        | .int j => .int ((f + j - b) * inv % c)
        | _ => .non) = ((List.range l.toNat).map fun (j : Nat) => (f + (0 + (j : Int)) - b) * inv % c).map D.int by
          unfold rgD
          rw [List.map_map, List.map_map]
          rfl]
      walk_at "dl"
      refine ⟨_, rfl, by rw [List.length_map, List.length_range]; omega, fun m hm hml => ?_⟩
      have FA : FAns c b st f l (some m) := inv_least (by omega) (by omega) (by omega) hi (by
        obtain ⟨j, hj, e⟩ := List.mem_map.mp hm
        have := List.mem_range.mp hj
        exact ⟨j, by omega, by omega, by rw [← e, Int.zero_add]⟩) fun j j0 j1 => by
        have := hml ((f + (0 + (j.toNat : Int)) - b) * inv % c) (List.mem_map.mpr ⟨j.toNat, List.mem_range.mpr (by omega), rfl⟩)
        rwa [Int.zero_add, Int.toNat_of_nonneg j0] at this
      refine ⟨⟨by omega, by omega, by omega, by omega⟩, fun t1 ht1 => ?_⟩
      rw [Least.uniq ht1 FA]
      simp only [optD]
      walk_at "dl"
      exact h _ (p6.le (by omega))
end K04
set_option Elab.async false
set_option linter.all false
set_option maxRecDepth 100000
set_option maxHeartbeats 2000000
set_option autoImplicit false
namespace K04
open PySem L2 DL K01
local macro_rules | `(tactic| walk_at "dl") => `(tactic| simp only [u_dSeq, u_dNext, u_dOwn, u_dOwnE, u_dFld, u_dMake, u_dMeth, u_dProp, u_dIsiO, u_dCallI, u_dSortSet, u_dFrz, e_isC, e_rgO, e_rgn, e_rgi, e_rgs, e_rgb, e_rgt, e_rgl, e_fz1, e_fz2, le_lim, lt_lim, set_snoc0, e_srtI, u_dBreak, u_dCont, u_dDrop, u_dRet, u_dRetN, u_dIfS, u_dNever, u_dAsg, u_dPar, u_dPutK, u_dAppend, u_dExtend, u_dCall, u_dVar, u_dC, u_dOp, u_dChain, u_dUn, u_dB, u_dNot, u_dAnd, u_dOr, u_dAndV, u_dOrV, u_dNotV, u_dIf, u_dNil, u_dCons, u_dTup, u_dLst, u_dLstC, u_dCB, u_dInK, u_dGetK, u_dDicC, u_dNoPart, u_dPart, u_dSl, u_dBits, u_dRev, u_dgName, u_dgsNil, u_dgsCons, u_dgTup, u_dgSet, u_diSeq, u_diR1, e_diR2, e_r2, u_diEnum, u_diEnumU, u_diZip, endD, finZ_d, finD, finC, List.take_length, u_dYes, wipeD, ix0, ix1, ix2, get_snoc, set_snoc, take_snoc, u_dOpC, u_dSlC, u_dListC, e_addC, e_mulC, e_loCl, e_loCt, e_loCs, e_wd, e_wc0, e_wcs, e_wsn, e_wc1, e_wc2, e_wl0, e_wl1, e_dl0, e_dl1, e_sl, e_st, e_ss, e_addi, e_adds, e_addt, e_addl, e_sub, e_muli, e_mult, e_mull, e_fdiv, e_mod, e_pow, e_neg, e_lt, e_le, e_gt, e_ge, e_eqi, e_eqs, e_eql, e_eqt, e_eqb, e_eqn, e_nei, e_nes, e_nel, e_net, e_neb, e_nen, e_isb, e_isn, e_inb, e_inn, e_in1, e_in2, e_in3, e_in4, e_in5, e_ixt, e_ixl, e_ixs, e_at0, e_at1, e_at2, e_at3, e_at4, e_at5, e_atl, e_keyi, e_keys, e_lenl, e_lent, e_lens, e_lend, e_maxi, e_mini, e_maxl, e_minl, e_sum, e_all, e_any, e_inti, e_intb, e_abs, e_tol, e_tot, e_tos, e_lol, e_lot, e_los, e_sll, e_slt, e_rvl, e_rvt, e_repr, e_isi, e_srtl, e_srtt, List.map_cons, List.map_nil, List.length_cons, List.length_nil, List.cons_append, List.nil_append, List.flatten_cons, List.flatten_nil, List.append_nil, List.replicate_succ, List.replicate_zero, List.getElem?_cons_zero, List.getElem?_cons_succ, List.set_cons_zero, List.set_cons_succ, Nat.reduceSub, Nat.reduceAdd, Int.reduceToNat, Int.reduceLE, Int.reduceLT, Int.reduceNeg, Nat.reduceLeDiff, Nat.reduceLT, Nat.zero_add, Option.some.injEq, Z.d.injEq, Z.c.injEq, D.bl.injEq, D.int.injEq, D.tup.injEq, D.lst.injEq, List.take_succ_cons, List.take_zero, exists_eq_left', exists_eq_left, true_and, and_true, if_true, Bool.not_true, Bool.not_false, Bool.false_eq_true, if_false, decide_true, decide_false, n_vK])
theorem bez (a b : Nat) : ∃ x y : Int, (a : Int) * x + b * y = (Nat.gcd a b : Nat) := by
  induction a, b using Nat.gcd.induction with
  | H0 n => exact ⟨0, 1, by rw [Nat.gcd_zero_left]; omega⟩
  | H1 m n hm ih =>
    obtain ⟨x, y, e⟩ := ih
    refine ⟨y - (n / m : Nat) * x, x, ?_⟩
    rw [Nat.gcd_rec, ← e]
    have d : ((n % m : Nat) : Int) = n - m * (n / m : Nat) := by
      have := Nat.mod_add_div n m
      rw [← Int.natCast_mul]
      omega
    rw [d, Int.mul_sub, Int.sub_mul, Int.mul_assoc]
    omega
theorem order_small {c b st f l : Int} (c1 : 1000 ≤ c) (s0 : 0 ≤ st) (hl : c / 9 ≤ l) (h : FAns c b st f l none) : ∃ n : Int, 1 ≤ n ∧ n < 61 ∧ n * st % c = 0 := by
  obtain ⟨x, y, e⟩ := bez st.toNat c.toNat
  rw [Int.toNat_of_nonneg s0, Int.toNat_of_nonneg (by omega)] at e
  obtain ⟨v, hv⟩ := Nat.gcd_dvd_left st.toNat c.toNat
  obtain ⟨w, hw⟩ := Nat.gcd_dvd_right st.toNat c.toNat
  have gp : 0 < Nat.gcd st.toNat c.toNat := Nat.gcd_pos_of_pos_right _ (by omega)
  generalize Nat.gcd st.toNat c.toNat = g at e hv hw gp
  have hv2 : st = (g : Int) * v := by rw [← Int.natCast_mul, ← hv]; omega
  have hw2 : c = (g : Int) * w := by rw [← Int.natCast_mul, ← hw]; omega
  have w1 : 1 ≤ w := by
    refine Nat.pos_of_ne_zero fun z => ?_
    rw [z] at hw2
    simp at hw2
    omega
  have gc : (g : Int) ≤ c := by
    have := Int.mul_le_mul_of_nonneg_left (show (1 : Int) ≤ w by omega) (show (0 : Int) ≤ g by omega)
    omega
  have lg : l < g := by
    refine Int.not_le.mp fun q => ?_
    have u0 := Int.emod_nonneg (b - f) (show (g : Int) ≠ 0 by omega)
    have u1 := Int.emod_lt_of_pos (b - f) (show (0 : Int) < g by omega)
    have d := Int.emod_add_mul_ediv (b - f) g
    refine h ((-((b - f) / g) * x) % c) (Int.emod_nonneg _ (by omega)) ?_
    show (b + (-((b - f) / g) * x) % c * st - f) % c < l
    have dn := Int.emod_add_mul_ediv (-((b - f) / g) * x) c
    have : (b + (-((b - f) / g) * x) % c * st - f) % c = (b - f) % g % c := by
      refine mod_eq ((b - f) / g * y - (-((b - f) / g) * x) / c * st) ?_
      have e2 : (-((b - f) / g) * x) % c = -((b - f) / g) * x - c * ((-((b - f) / g) * x) / c) := by omega
      rw [e2]
      generalize (-((b - f) / g) * x) / c = k
      have e3 : b - f = (b - f) % g + g * ((b - f) / g) := d.symm
      generalize (b - f) % g = u at e3
      generalize (b - f) / g = qq at e3
      rw [Int.sub_mul, Int.neg_mul, Int.neg_mul, Int.sub_mul, Int.mul_assoc qq x st, Int.mul_comm x st, Int.mul_assoc c k st, Int.mul_comm c (k * st), Int.mul_assoc qq y c, Int.mul_comm y c]
      have e4 : (g : Int) * qq = qq * (st * x) + qq * (c * y) := by rw [← Int.mul_add, e, Int.mul_comm]
      omega
    rw [this, Int.emod_eq_of_lt u0 (by omega)]
    omega
  refine ⟨w, by omega, ?_, ?_⟩
  · refine Int.not_le.mp fun q => ?_
    have := Int.mul_le_mul_of_nonneg_left (show (61 : Int) ≤ w by omega) (show (0 : Int) ≤ g by omega)
    omega
  · rw [hv2, Int.mul_left_comm, ← Int.mul_assoc, ← hw2]
    exact Int.mul_emod_right _ _
theorem rgD_cons (lo : Int) (n : Nat) : rgD lo (n + 1) = .int lo :: rgD (lo + 1) n := by
  unfold rgD
  rw [List.range_succ_eq_map, List.map_cons, List.map_map]
  congr 1
  · simp
  · refine List.map_congr_left fun i _ => ?_
    show D.int _ = D.int _
    congr 1
    show lo + ((i + 1 : Nat) : Int) = lo + 1 + (i : Int)
    omega
def pickD (P : Int → Bool) : D → Option D
  | .int n => if P n = true then some (.int n) else none
  | _ => none
theorem pick_t {P : Int → Bool} {n : Int} (h : P n = true) : pickD P (.int n) = some (.int n) := if_pos h
theorem pick_f {P : Int → Bool} {n : Int} (h : ¬ P n = true) : pickD P (.int n) = none := if_neg h
theorem filt_least (P : Int → Bool) : ∀ (n : Nat) (lo : Int), ((rgD lo n).filterMap (pickD P) = [] ∧ ∀ z, lo ≤ z → z < lo + n → P z = false) ∨ ∃ (m : Int) (ys : List D), (rgD lo n).filterMap (pickD P) = .int m :: ys ∧ lo ≤ m ∧ m < lo + n ∧ P m = true ∧ ∀ z, lo ≤ z → z < m → P z = false
  | 0, lo => .inl ⟨rfl, fun z h1 h2 => by omega⟩
  | n + 1, lo => by
    rw [rgD_cons, List.filterMap_cons]
    by_cases q : P lo = true
    · have : pickD P (.int lo) = some (.int lo) := by simp only [pickD, q, if_true]
      rw [this]
      exact .inr ⟨lo, _, rfl, Int.le_refl _, by omega, q, fun z h1 h2 => by omega⟩
    · have : pickD P (.int lo) = none := by simp only [pickD]; rw [if_neg q]
      rw [this]
      have q : P lo = false := by simpa using q
      rcases filt_least P n (lo + 1) with ⟨h1, h2⟩ | ⟨m, ys, h1, h2, h3, h4, h5⟩
      · refine .inl ⟨h1, fun z z0 z1 => ?_⟩
        by_cases e : z = lo
        · rw [e]; exact q
        · exact h2 z (by omega) (by omega)
      · refine .inr ⟨m, ys, h1, by omega, by omega, h4, fun z z0 z1 => ?_⟩
        by_cases e : z = lo
        · rw [e]; exact q
        · exact h5 z (by omega) z1
theorem filt_eqo (P : Int → Bool) (ds : List D) : EqOk (.lst (ds.filterMap (pickD P))) := (EqN.lst (e := 0) fun d hd => by
  obtain ⟨a, _, e⟩ := List.mem_filterMap.mp hd
  unfold pickD at e
  split at e
  · split at e
    · cases e; exact EqN.int _
    · cases e
  · cases e).eq (by decide)
theorem eqo_nil : EqOk (.lst []) := (EqN.lst (e := 0) (ds := []) fun d hd => by simp at hd).eq (by decide)
def sp_l_wide_right : DSpec := fun zs cs k => match zs, cs with
  | [.c 0], x :: rest => ∃ L, Pond L x ∧ L ≤ 10 ^ 10 ∧ ∀ x', Pond (L + 100) x' → k (.d (.bl true)) (x' :: rest)
  | _, _ => False
theorem len_l_wide_right : ∀ zs cs q, sp_l_wide_right zs cs q → zs.length = (["_law_pond_here"] : List Str).length := fun zs cs q h => by
  unfold sp_l_wide_right at h
  split at h
  · rfl
  · exact h.elim
def t_l_wide_right : DS :=
  (dSeq (dAsg (dOp addD (dC (.int 1000)) (dCall sp_l_fish (dCons (dVar 0) (dCons (dOp ixD (dLst (dCons (dOp powD (dC (.int 10)) (dC (.int 6))) (dCons (dOp subD (dOp powD (dC (.int 10)) (dC (.int 30))) (dC (.int 1000))) dNil))) (dCall sp_l_fish (dCons (dVar 0) (dCons (dC (.int 2)) dNil)))) dNil)))) (dgName 1))
  (dSeq (dAsg (dTup (dCons (dCall sp_l_fish (dCons (dVar 0) (dCons (dVar 1) dNil))) (dCons (dCall sp_l_fish (dCons (dVar 0) (dCons (dVar 1) dNil))) (dCons (dCall sp_l_fish (dCons (dVar 0) (dCons (dVar 1) dNil))) dNil)))) (dgTup 3 (dgsCons (dgName 2) (dgsCons (dgName 3) (dgsCons (dgName 4) dgsNil)))))
  (dSeq (dAsg (dOp addD (dOp fdivD (dVar 1) (dC (.int 9))) (dCall sp_l_fish (dCons (dVar 0) (dCons (dOp subD (dVar 1) (dOp fdivD (dVar 1) (dC (.int 9)))) dNil)))) (dgName 5))
  (dSeq (dAsg (dCall sp_first_hit (dCons (dVar 1) (dCons (dVar 2) (dCons (dVar 3) (dCons (dVar 4) (dCons (dVar 5) dNil)))))) (dgName 6))
  (dSeq (dAsg (dLc (diR1 (dC (.int 60))) (dgName 8) (dB (dOp ltD (dOp modD (dOp subD (dOp addD (dVar 2) (dOp mulD (dVar 8) (dVar 3))) (dVar 4)) (dVar 1)) (dVar 5))) (dVar 8) [8]) (dgName 7))
  (dSeq (dIfS (dB (dOp neUD (dVar 7) (dLst dNil))) (dRet (dOp eqUD (dVar 6) (dOp ixD (dVar 7) (dC (.int 0))))) dNext)
  (dSeq (dIfS (dB (dOp isD (dVar 6) (dC .non))) (dRet (dOp neUD (dLc (diR2 (dC (.int 1)) (dC (.int 61))) (dgName 8) (dB (dOp eqUD (dOp modD (dOp mulD (dVar 8) (dVar 3)) (dVar 1)) (dC (.int 0)))) (dVar 8) [8]) (dLst dNil))) dNext)
  (dRet (dAndV (dOp gtD (dVar 6) (dC (.int 59))) (dOp ltD (dOp modD (dOp subD (dOp addD (dVar 2) (dOp mulD (dVar 6) (dVar 3))) (dVar 4)) (dVar 1)) (dVar 5)))))))))))
theorem rd_l_wide_right : ∀ zs cs q, sp_l_wide_right zs cs q → t_l_wide_right (endD cs.length q) (startD ["_law_pond_here", "_law_span", "_law_begin", "_law_step", "_law_place", "_law_size", "_law_told", "_law_hits", "_law_n"] zs) cs := fun zs cs q h => by
  unfold sp_l_wide_right at h
  split at h
  rotate_left
  · exact h.elim
  simp only [startD, List.map_cons, List.map_nil, List.length_cons, List.length_nil, Nat.reduceAdd, Nat.zero_add, Nat.reduceSub, List.replicate_zero, List.replicate_succ, List.cons_append, List.nil_append, List.append_nil]
  rename_i x rest
  obtain ⟨L, hP, hL, h⟩ := h
  have s10 : Sm 10 := Sm.of (by decide) (by decide)
  unfold t_l_wide_right
  walk_at "dl"
  refine ⟨s10, s10, ?_⟩
  refine fish_use hP ⟨by decide, by decide, by omega⟩ fun a0 x1 a1 a2 p1 => ?_
  walk_at "dl"
  have pick : ∃ v : Int, 1 ≤ v ∧ v ≤ 10 ^ 30 - 1000 ∧ atI [D.int (10 ^ 6), .int (10 ^ 30 - 1000)] a0 = some (.int v) := by
    have : a0 = 0 ∨ a0 = 1 := by omega
    rcases this with rfl | rfl
    · exact ⟨10 ^ 6, by decide, by decide, at0⟩
    · exact ⟨10 ^ 30 - 1000, by decide, by decide, at1⟩
  obtain ⟨v, v1, v2, pick⟩ := pick
  rw [e_at pick]
  refine fish_use p1 ⟨by omega, by omega, by omega⟩ fun b0 x2 b1 b2 p2 => ?_
  walk_at "dl"
  obtain ⟨c, hc⟩ : ∃ c, c = 1000 + b0 := ⟨_, rfl⟩
  rw [← hc]
  refine fish_use p2 ⟨by omega, by omega, by omega⟩ fun b x3 bb0 bb1 p3 => ?_
  refine fish_use p3 ⟨by omega, by omega, by omega⟩ fun st x4 st0 st1 p4 => ?_
  refine fish_use p4 ⟨by omega, by omega, by omega⟩ fun f x5 f0 f1 p5 => ?_
  walk_at "dl"
  refine ⟨Dv.of (by decide) (by decide), Dv.of (by decide) (by decide), ?_⟩
  refine fish_use p5 ⟨by omega, by omega, by omega⟩ fun l0 x6 l1 l2 p6 => ?_
  walk_at "dl"
  obtain ⟨l, hl⟩ : ∃ l, l = c / 9 + l0 := ⟨_, rfl⟩
  rw [← hl]
  refine ⟨⟨by omega, by omega, by omega, by omega⟩, fun r hr => ?_⟩
  obtain ⟨P, hP0⟩ : ∃ P : Int → Bool, P = fun n => decide ((b + n * st - f) % c < l) := ⟨_, rfl⟩
  have hit : ∀ n, P n = true ↔ FHit c b st f l n := fun n => by
    rw [hP0]
    exact decide_eq_true_iff
  refine dLc_if (rgD 0 60) yes _ (fun K h => by walk_at "dl"; exact ⟨⟨by decide, by decide⟩, h⟩) (pickD P) (by rw [rgD_len]; decide) (fun i d acc hd Q N hQ hN => ?_) ?_ (fun _ => trivial)
  · obtain ⟨hj, rfl⟩ := rgD_get hd
    walk_at "dl"
    refine ⟨⟨Sm.of (by omega) (by omega), Sm.of (by omega) (by omega)⟩, by omega, ?_⟩
    by_cases z : (b + (0 + (i : Int)) * st - f) % c < l
    · rw [if_pos (decide_eq_true z)]
      exact hQ _ (pick_t ((hit _).mpr z))
    · rw [if_neg (by simpa using z)]
      exact hN (pick_f fun q => z ((hit _).mp q))
  have eqo := filt_eqo P (rgD 0 60)
  rcases filt_least P 60 0 with ⟨e, hn⟩ | ⟨m, ys, e, m0, m1, hm, hn⟩
  · rw [e] at eqo ⊢
    walk_at "dl"
    refine ⟨⟨eqo, eqo_nil⟩, ?_⟩
    rw [eqv_nil]
    simp only [List.isEmpty_nil, Bool.not_true, Bool.false_eq_true, if_false]
    cases r with
    | none =>
      obtain ⟨n, n1, n2, en⟩ := order_small (by omega) st0 (by omega) hr
      simp only [optD]
      walk_at "dl"
      obtain ⟨R, hR⟩ : ∃ R : Int → Bool, R = fun n => decide (n * st % c = 0) := ⟨_, rfl⟩
      refine dLc_if (rgD 1 60) yes _ (fun K h => by walk_at "dl"; exact ⟨⟨⟨by decide, by decide⟩, ⟨by decide, by decide⟩⟩, h⟩) (pickD R) (by rw [rgD_len]; decide) (fun i d acc hd Q N hQ hN => ?_) ?_ (fun _ => trivial)
      · obtain ⟨hj, rfl⟩ := rgD_get hd
        walk_at "dl"
        refine ⟨⟨Sm.of (by omega) (by omega), Sm.of (by omega) (by omega)⟩, by omega, ?_⟩
        by_cases z : (1 + (i : Int)) * st % c = 0
        · rw [if_pos (decide_eq_true z)]
          exact hQ _ (pick_t (by rw [hR]; exact decide_eq_true z))
        · rw [if_neg (by simpa using z)]
          exact hN (pick_f (by rw [hR]; simpa using z))
      have eqo := filt_eqo R (rgD 1 60)
      rcases filt_least R 60 1 with ⟨e, hn⟩ | ⟨m, ys, e, m0, m1, hm, hn⟩
      · have := hn n n1 (by omega)
        rw [hR] at this
        simp only [en, decide_true] at this
        cases this
      · rw [e] at eqo ⊢
        walk_at "dl"
        refine ⟨⟨eqo, eqo_nil⟩, ?_⟩
        rw [eqv_nil]
        exact h _ (p6.le (by omega))
    | some t =>
      obtain ⟨t0, ht, tl⟩ := hr
      have tb := fans_lt (by omega) (show FAns c b st f l (some t) from ⟨t0, ht, tl⟩)
      have t59 : 59 < t := by
        refine Int.not_le.mp fun q => ?_
        have := hn t t0 (by omega)
        rw [(hit t).mpr ht] at this
        cases this
      simp only [optD]
      walk_at "dl"
      rw [if_pos (decide_eq_true t59)]
      refine ⟨⟨Sm.of (by omega) (by omega), Sm.of (by omega) (by omega)⟩, by omega, ?_⟩
      have ht' : (b + t * st - f) % c < l := ht
      rw [decide_eq_true ht']
      exact h _ (p6.le (by omega))
  · rw [e] at eqo ⊢
    have hr2 : r = some m := Least.uniq hr (show FAns c b st f l (some m) from ⟨m0, (hit m).mp hm, fun z z0 z1 q => by
      have := hn z z0 z1
      rw [(hit z).mpr q] at this
      cases this⟩)
    subst hr2
    simp only [optD]
    walk_at "dl"
    refine ⟨⟨eqo, eqo_nil⟩, ?_⟩
    rw [eqv_nil]
    simp only [List.isEmpty_cons, Bool.not_false, if_true]
    exact h _ (p6.le (by omega))
def sp_l_between_right : DSpec := fun zs cs k => match zs, cs with
  | [.c 0], x :: rest => ∃ L, Pond L x ∧ L ≤ 10 ^ 10 ∧ ∀ x', Pond (L + 100) x' → k (.d (.bl true)) (x' :: rest)
  | _, _ => False
theorem len_l_between_right : ∀ zs cs q, sp_l_between_right zs cs q → zs.length = (["_law_pond_here"] : List Str).length := fun zs cs q h => by
  unfold sp_l_between_right at h
  split at h
  · rfl
  · exact h.elim
def t_l_between_right : DS :=
  (dSeq (dAsg (dOp addD (dOp powD (dC (.int 10)) (dC (.int 7))) (dCall sp_l_fish (dCons (dVar 0) (dCons (dOp ixD (dLst (dCons (dOp powD (dC (.int 10)) (dC (.int 8))) (dCons (dOp powD (dC (.int 10)) (dC (.int 29))) dNil))) (dCall sp_l_fish (dCons (dVar 0) (dCons (dC (.int 2)) dNil)))) dNil)))) (dgName 1))
  (dSeq (dPar3 2 3 4 (dCons (dCall sp_l_fish (dCons (dVar 0) (dCons (dVar 1) dNil))) (dCons (dCall sp_l_fish (dCons (dVar 0) (dCons (dVar 1) dNil))) (dCons (dCall sp_l_fish (dCons (dVar 0) (dCons (dVar 1) dNil))) dNil))))
  (dSeq (dAsg (dOp addD (dC (.int 201)) (dCall sp_l_fish (dCons (dVar 0) (dCons (dOp powD (dC (.int 10)) (dC (.int 6))) dNil)))) (dgName 5))
  (dSeq (dAsg (dOp subD (dOp addD (dVar 2) (dOp mulD (dVar 4) (dVar 3))) (dCall sp_l_fish (dCons (dVar 0) (dCons (dVar 5) dNil)))) (dgName 6))
  (dSeq (dAsg (dCall sp_first_hit (dCons (dVar 1) (dCons (dVar 2) (dCons (dVar 3) (dCons (dVar 6) (dCons (dVar 5) dNil)))))) (dgName 7))
  (dSeq (dIfS (dOr (dB (dOp isD (dVar 7) (dC .non))) (dB (dOp gtD (dVar 7) (dVar 4)))) (dRet (dC (.bl false))) dNext)
  (dSeq (dAsg (dOp modD (dOp subD (dOp addD (dVar 2) (dOp mulD (dVar 7) (dVar 3))) (dVar 6)) (dVar 1)) (dgName 8))
  (dSeq (dIfS (dB (dOp geD (dVar 8) (dVar 5))) (dRet (dC (.bl false))) dNext)
  (dSeq (dFor (diSeq (dLst (dCons (dTup (dCons (dVar 6) (dCons (dVar 8) dNil))) (dCons (dTup (dCons (dOp addD (dOp addD (dVar 6) (dVar 8)) (dC (.int 1))) (dCons (dOp subD (dOp subD (dVar 5) (dVar 8)) (dC (.int 1))) dNil))) dNil)))) (dgTup 2 (dgsCons (dgName 9) (dgsCons (dgName 10) dgsNil))) (dLock (dSeq (dAsg (dIf (dB (dOp gtD (dVar 10) (dC (.int 0)))) (dCall sp_first_hit (dCons (dVar 1) (dCons (dVar 2) (dCons (dVar 3) (dCons (dVar 9) (dCons (dVar 10) dNil)))))) (dC .non)) (dgName 11))
  (dIfS (dAnd (dB (dOp isNotD (dVar 11) (dC .non))) (dB (dOp leD (dVar 11) (dVar 7)))) (dRet (dC (.bl false))) dNext))))
  (dRet (dC (.bl true))))))))))))
theorem rd_l_between_right : ∀ zs cs q, sp_l_between_right zs cs q → t_l_between_right (endD cs.length q) (startD ["_law_pond_here", "_law_span", "_law_begin", "_law_step", "_law_n", "_law_size", "_law_place", "_law_told", "_law_spot", "_law_first", "_law_length", "_law_other"] zs) cs := fun zs cs q h => by
  unfold sp_l_between_right at h
  split at h
  rotate_left
  · exact h.elim
  simp only [startD, List.map_cons, List.map_nil, List.length_cons, List.length_nil, Nat.reduceAdd, Nat.zero_add, Nat.reduceSub, List.replicate_zero, List.replicate_succ, List.cons_append, List.nil_append, List.append_nil]
  rename_i x rest
  obtain ⟨L, hP, hL, h⟩ := h
  have s10 : Sm 10 := Sm.of (by decide) (by decide)
  unfold t_l_between_right
  walk_at "dl"
  refine ⟨s10, s10, s10, ?_⟩
  refine fish_use hP ⟨by decide, by decide, by omega⟩ fun a0 x1 a1 a2 p1 => ?_
  walk_at "dl"
  have pick : ∃ v : Int, 1 ≤ v ∧ v ≤ 10 ^ 29 ∧ atI [D.int (10 ^ 8), .int (10 ^ 29)] a0 = some (.int v) := by
    have : a0 = 0 ∨ a0 = 1 := by omega
    rcases this with rfl | rfl
    · exact ⟨10 ^ 8, by decide, by decide, at0⟩
    · exact ⟨10 ^ 29, by decide, by decide, at1⟩
  obtain ⟨v, v1, v2, pick⟩ := pick
  rw [e_at pick]
  refine fish_use p1 ⟨by omega, by omega, by omega⟩ fun b0 x2 b1 b2 p2 => ?_
  walk_at "dl"
  obtain ⟨c, hc⟩ : ∃ c, c = 10 ^ 7 + b0 := ⟨_, rfl⟩
  rw [← hc]
  simp only [u_dPar3]
  walk_at "dl"
  refine fish_use p2 ⟨by omega, by omega, by omega⟩ fun b x3 bb0 bb1 p3 => ?_
  refine fish_use p3 ⟨by omega, by omega, by omega⟩ fun st x4 st0 st1 p4 => ?_
  refine fish_use p4 ⟨by omega, by omega, by omega⟩ fun n x5 n0 n1 p5 => ?_
  walk_at "dl"
  refine ⟨s10, ?_⟩
  refine fish_use p5 ⟨by omega, by omega, by omega⟩ fun l0 x6 l1 l2 p6 => ?_
  walk_at "dl"
  obtain ⟨l, hl⟩ : ∃ l, l = 201 + l0 := ⟨_, rfl⟩
  rw [← hl]
  refine ⟨⟨Sm.of (by omega) (by omega), Sm.of (by omega) (by omega)⟩, ?_⟩
  refine fish_use p6 ⟨by omega, by omega, by omega⟩ fun w x7 w0 w1 p7 => ?_
  walk_at "dl"
  obtain ⟨f, hf⟩ : ∃ f, f = b + n * st - w := ⟨_, rfl⟩
  rw [← hf]
  refine ⟨⟨by omega, by omega, by omega, by omega⟩, fun r hr => ?_⟩
  have hitn : FHit c b st f l n := by
    show (b + n * st - f) % c < l
    rw [hf, show b + n * st - (b + n * st - w) = w by omega, Int.emod_eq_of_lt w0 (by omega)]
    exact w1
  cases r with
  | none => exact absurd hitn (hr n n0)
  | some t =>
    obtain ⟨t0, ht, tl⟩ := hr
    have tn : t ≤ n := Int.not_lt.mp fun q => tl n n0 q hitn
    simp only [optD]
    walk_at "dl"
    rw [if_neg (by simpa using tn)]
    obtain ⟨sp, hsp⟩ : ∃ sp, sp = (b + t * st - f) % c := ⟨_, rfl⟩
    have ht' : (b + t * st - f) % c < l := ht
    rw [← hsp] at ht' ⊢
    have sp0 : 0 ≤ sp := by rw [hsp]; exact Int.emod_nonneg _ (by omega)
    refine ⟨⟨Sm.of (by omega) (by omega), Sm.of (by omega) (by omega)⟩, by omega, ?_⟩
    rw [if_neg (by simpa using ht')]
    have beside : ∀ g ln o, (g = f ∧ ln = sp) ∨ (g = f + sp + 1 ∧ ln = l - sp - 1) → 0 < ln → FAns c b st g ln (some o) → t < o := fun g ln o hg l0 ho => by
      obtain ⟨o0, oh, _⟩ := ho
      have oh : (b + o * st - g) % c < ln := oh
      have res : (b + o * st - f) % c < l ∧ (b + o * st - f) % c ≠ sp := by
        rcases hg with ⟨rfl, rfl⟩ | ⟨rfl, rfl⟩
        · omega
        · have y0 := Int.emod_nonneg (b + o * st - (f + sp + 1)) (show c ≠ 0 by omega)
          have d := Int.emod_add_mul_ediv (b + o * st - (f + sp + 1)) c
          have e : (b + o * st - f) % c = (b + o * st - (f + sp + 1)) % c + (sp + 1) := by
            have e1 := mod_eq (a := b + o * st - f) (b := (b + o * st - (f + sp + 1)) % c + (sp + 1)) (c := c) ((b + o * st - (f + sp + 1)) / c) (by rw [Int.mul_comm ((b + o * st - (f + sp + 1)) / c) c]; omega)
            rw [e1, Int.emod_eq_of_lt (by omega) (by omega)]
          omega
      by_cases q : o < t
      · exact absurd res.1 (tl o o0 q)
      · by_cases q2 : o = t
        · exact absurd (by rw [q2]; exact hsp.symm) res.2
        · omega
    refine dFor_mk [.tup [.int f, .int sp], .tup [.int (f + sp + 1), .int (l - sp - 1)]] yes (x7 :: rest) (fun K h => by walk_at "dl"; exact h) (fun i en cx => ∃ o9 o10 o11 : Option Z, en = [some (.c 0), some (.d (.int c)), some (.d (.int b)), some (.d (.int st)), some (.d (.int n)), some (.d (.int l)), some (.d (.int f)), some (.d (.int t)), some (.d (.int sp)), o9, o10, o11] ∧ cx = x7 :: rest) ⟨_, _, _, rfl, rfl⟩ (fun i d en cx hd hI => ?_) (fun en cx hI => ?_) (fun _ _ _ _ => trivial)
    · obtain ⟨o9, o10, o11, rfl, rfl⟩ := hI
      obtain ⟨g, ln, hg, rfl⟩ : ∃ g ln, ((g = f ∧ ln = sp) ∨ (g = f + sp + 1 ∧ ln = l - sp - 1)) ∧ d = .tup [.int g, .int ln] := by
        rcases i with _ | _ | i
        · exact ⟨_, _, .inl ⟨rfl, rfl⟩, (Option.some.inj hd).symm⟩
        · exact ⟨_, _, .inr ⟨rfl, rfl⟩, (Option.some.inj hd).symm⟩
        · simp at hd
      have lnb : ln ≤ c := by omega
      walk_at "dl"
      unfold dLock
      walk_at "dl"
      by_cases l0 : 0 < ln
      · simp only [l0, decide_true, if_true]
        refine ⟨⟨by omega, by omega, by omega, lnb⟩, fun r' hr' => ?_⟩
        cases r' with
        | none =>
          simp only [optD]
          walk_at "dl"
          exact .inl ⟨_, _, _, rfl, rfl⟩
        | some o =>
          have lt := beside g ln o hg l0 hr'
          simp only [optD]
          walk_at "dl"
          rw [if_neg (by simpa using lt)]
          exact .inl ⟨_, _, _, rfl, rfl⟩
      · simp only [l0, decide_false, Bool.false_eq_true, if_false]
        exact .inl ⟨_, _, _, rfl, rfl⟩
    · obtain ⟨o9, o10, o11, rfl, rfl⟩ := hI
      walk_at "dl"
      exact h _ (p7.le (by omega))
end K04
set_option Elab.async false
set_option linter.all false
set_option maxRecDepth 100000
set_option maxHeartbeats 2000000
set_option autoImplicit false
namespace K04
open PySem L2 DL K01
local macro_rules | `(tactic| walk_at "dl") => `(tactic| simp only [u_dSeq, u_dNext, u_dOwn, u_dOwnE, u_dFld, u_dMake, u_dMeth, u_dProp, u_dIsiO, u_dCallI, u_dSortSet, u_dFrz, e_isC, e_rgO, e_rgn, e_rgi, e_rgs, e_rgb, e_rgt, e_rgl, e_fz1, e_fz2, le_lim, lt_lim, set_snoc0, e_srtI, u_dBreak, u_dCont, u_dDrop, u_dRet, u_dRetN, u_dIfS, u_dNever, u_dAsg, u_dPar, u_dPutK, u_dAppend, u_dExtend, u_dCall, u_dVar, u_dC, u_dOp, u_dChain, u_dUn, u_dB, u_dNot, u_dAnd, u_dOr, u_dAndV, u_dOrV, u_dNotV, u_dIf, u_dNil, u_dCons, u_dTup, u_dLst, u_dLstC, u_dCB, u_dInK, u_dGetK, u_dDicC, u_dNoPart, u_dPart, u_dSl, u_dBits, u_dRev, u_dgName, u_dgsNil, u_dgsCons, u_dgTup, u_dgSet, u_diSeq, u_diR1, e_diR2, e_r2, u_diEnum, u_diEnumU, u_diZip, endD, finZ_d, finD, finC, List.take_length, u_dYes, wipeD, ix0, ix1, ix2, get_snoc, set_snoc, take_snoc, u_dOpC, u_dSlC, u_dListC, e_addC, e_mulC, e_loCl, e_loCt, e_loCs, e_wd, e_wc0, e_wcs, e_wsn, e_wc1, e_wc2, e_wl0, e_wl1, e_dl0, e_dl1, e_sl, e_st, e_ss, e_addi, e_adds, e_addt, e_addl, e_sub, e_muli, e_mult, e_mull, e_fdiv, e_mod, e_pow, e_neg, e_lt, e_le, e_gt, e_ge, e_eqi, e_eqs, e_eql, e_eqt, e_eqb, e_eqn, e_nei, e_nes, e_nel, e_net, e_neb, e_nen, e_isb, e_isn, e_inb, e_inn, e_in1, e_in2, e_in3, e_in4, e_in5, e_ixt, e_ixl, e_ixs, e_at0, e_at1, e_at2, e_at3, e_at4, e_at5, e_atl, e_keyi, e_keys, e_lenl, e_lent, e_lens, e_lend, e_maxi, e_mini, e_maxl, e_minl, e_sum, e_all, e_any, e_inti, e_intb, e_abs, e_tol, e_tot, e_tos, e_lol, e_lot, e_los, e_sll, e_slt, e_rvl, e_rvt, e_repr, e_isi, e_srtl, e_srtt, List.map_cons, List.map_nil, List.length_cons, List.length_nil, List.cons_append, List.nil_append, List.flatten_cons, List.flatten_nil, List.append_nil, List.replicate_succ, List.replicate_zero, List.getElem?_cons_zero, List.getElem?_cons_succ, List.set_cons_zero, List.set_cons_succ, Nat.reduceSub, Nat.reduceAdd, Int.reduceToNat, Int.reduceLE, Int.reduceLT, Int.reduceNeg, Nat.reduceLeDiff, Nat.reduceLT, Nat.zero_add, Option.some.injEq, Z.d.injEq, Z.c.injEq, D.bl.injEq, D.int.injEq, D.tup.injEq, D.lst.injEq, List.take_succ_cons, List.take_zero, exists_eq_left', exists_eq_left, true_and, and_true, if_true, Bool.not_true, Bool.not_false, Bool.false_eq_true, if_false, decide_true, decide_false, n_vK])
instance {c b st f l n : Int} : Decidable (FHit c b st f l n) := by unfold FHit; infer_instance
theorem told1 : FAns 10 0 4 3 2 (some 1) := ⟨by decide, by decide, fun z z0 z1 => by
  have : z = 0 := by omega
  subst this
  decide⟩
theorem told2 : FAns 10 0 4 5 1 none := fans_none (by decide) fun z z0 z1 => by
  have : z = 0 ∨ z = 1 ∨ z = 2 ∨ z = 3 ∨ z = 4 ∨ z = 5 ∨ z = 6 ∨ z = 7 ∨ z = 8 ∨ z = 9 := by omega
  rcases this with rfl | rfl | rfl | rfl | rfl | rfl | rfl | rfl | rfl | rfl <;> decide
theorem told3 : FAns 10 3 0 3 1 (some 0) := straight_now (by decide)
def sp_law : DSpec := fun zs cs k => match zs, cs with
  | [.d (.scr ns)], [] => ns.length ≤ 63 ∧ k (.d (.bl true)) []
  | _, _ => False
theorem len_law : ∀ zs cs q, sp_law zs cs q → zs.length = (["_law_script"] : List Str).length := fun zs cs q h => by
  unfold sp_law at h
  split at h
  · rfl
  · exact h.elim
def t_law : DS :=
  (dSeq (dFor (diR1 (dCB maxD (dCons (dC (.int 1)) (dCons (dCB minD (dCons (dC (.int 6)) (dCons (dCB lenD (dCons (dVar 0) dNil)) dNil))) dNil)))) (dgName 1) (dSeq (dAsg (dCall sp_l_pond (dCons (dVar 0) (dCons (dVar 1) dNil))) (dgName 2))
  (dSeq (dFor (diR1 (dC (.int 20))) (dgName 3) (dIfS (dNot (dB (dCall sp_l_small_right (dCons (dVar 2) (dCons (dOp ixD (dLst (dCons (dOp addD (dC (.int 1)) (dCall sp_l_fish (dCons (dVar 2) (dCons (dC (.int 40)) dNil)))) (dCons (dC (.int 10)) (dCons (dC (.int 2)) (dCons (dC (.int 1)) dNil))))) (dCall sp_l_fish (dCons (dVar 2) (dCons (dC (.int 4)) dNil)))) dNil))))) (dRet (dC (.bl false))) dNext))
  (dFor (diR1 (dC (.int 6))) (dgName 3) (dSeq (dIfS (dOr (dNot (dB (dCall sp_l_great_right (dCons (dVar 2) dNil)))) (dOr (dNot (dB (dCall sp_l_turns_right (dCons (dVar 2) dNil)))) (dNot (dB (dCall sp_l_straight_right (dCons (dVar 2) dNil)))))) (dRet (dC (.bl false))) dNext)
  (dIfS (dOr (dNot (dB (dCall sp_l_wide_right (dCons (dVar 2) dNil)))) (dNot (dB (dCall sp_l_between_right (dCons (dVar 2) dNil))))) (dRet (dC (.bl false))) dNext))))))
  (dRet (dOp eqUD (dLst (dCons (dCall sp_first_hit (dCons (dC (.int 10)) (dCons (dC (.int 0)) (dCons (dC (.int 4)) (dCons (dC (.int 3)) (dCons (dC (.int 2)) dNil)))))) (dCons (dCall sp_first_hit (dCons (dC (.int 10)) (dCons (dC (.int 0)) (dCons (dC (.int 4)) (dCons (dC (.int 5)) (dCons (dC (.int 1)) dNil)))))) (dCons (dCall sp_first_hit (dCons (dC (.int 10)) (dCons (dC (.int 3)) (dCons (dC (.int 0)) (dCons (dC (.int 3)) (dCons (dC (.int 1)) dNil)))))) dNil)))) (dLst (dCons (dC (.int 1)) (dCons (dC .non) (dCons (dC (.int 0)) dNil)))))))
theorem rd_law : ∀ zs cs q, sp_law zs cs q → t_law (endD cs.length q) (startD ["_law_script", "_law_k", "_law_pond_here", "_law_turn"] zs) cs := fun zs cs q h => by
  unfold sp_law at h
  split at h
  rotate_left
  · exact h.elim
  simp only [startD, List.map_cons, List.map_nil, List.length_cons, List.length_nil, Nat.reduceAdd, Nat.zero_add, Nat.reduceSub, List.replicate_zero, List.replicate_succ, List.cons_append, List.nil_append, List.append_nil]
  rename_i ns
  obtain ⟨hn, h⟩ := h
  unfold t_law
  try walk_at "dl"
  refine dFor_mk (rgD 0 (max 1 (min 6 (ns.length : Int))).toNat) yes [] (fun K h => by walk_at "dl"; exact ⟨⟨by omega, by omega⟩, h⟩) (fun i en c1 => ∃ o1 o2 o3 : Option Z, en = [some (.d (.scr ns)), o1, o2, o3] ∧ c1 = [])
    ⟨_, _, _, rfl, rfl⟩ (fun i d en c1 hd hI => ?_) (fun en c1 hI => ?_) (fun _ _ _ _ => trivial)
  · obtain ⟨hi, rfl⟩ := rgD_get hd
    obtain ⟨o1, o2, o3, rfl, rfl⟩ := hI
    try walk_at "dl"
    refine ⟨⟨by omega, by omega⟩, fun x0 hx0 => ?_⟩
    try walk_at "dl"
    refine dFor_mk (rgD 0 20) yes [x0] (fun K h => by walk_at "dl"; exact ⟨⟨by decide, by decide⟩, h⟩) (fun j en c1 => ∃ (x : D) (o3 : Option Z), en = [some (.d (.scr ns)), some (.d (.int (0 + (i : Int)))), some (.c 0), o3] ∧ c1 = [x] ∧ Pond (j * 10000) x)
      ⟨_, _, rfl, rfl, hx0.le (by omega)⟩ (fun j d en c1 hd hI => ?_) (fun en c1 hI => ?_) (fun _ _ _ _ => trivial)
    · obtain ⟨hj, rfl⟩ := rgD_get hd
      obtain ⟨x, o3, rfl, rfl, hp⟩ := hI
      try walk_at "dl"
      refine fish_use hp ⟨by decide, by decide, by omega⟩ fun r1 x1 r1a r1b p1 => ?_
      try walk_at "dl"
      refine fish_use p1 ⟨by decide, by decide, by omega⟩ fun r2 x2 r2a r2b p2 => ?_
      try walk_at "dl"
      have pick : ∃ v : Int, 1 ≤ v ∧ v ≤ 40 ∧ atI [D.int (1 + r1), .int 10, .int 2, .int 1] r2 = some (.int v) := by
        have : r2 = 0 ∨ r2 = 1 ∨ r2 = 2 ∨ r2 = 3 := by omega
        rcases this with rfl | rfl | rfl | rfl
        · exact ⟨1 + r1, by omega, by omega, at0⟩
        · exact ⟨10, by decide, by decide, at1⟩
        · exact ⟨2, by decide, by decide, at2⟩
        · exact ⟨1, by decide, by decide, at3⟩
      obtain ⟨c, c1, c40, pick⟩ := pick
      rw [e_at pick]
      refine ⟨_, p2, ⟨c1, c40, by omega⟩, fun x3 p3 => ?_⟩
      try walk_at "dl"
      exact .inl ⟨_, _, rfl, rfl, p3.le (by omega)⟩
    · obtain ⟨x, o3, rfl, rfl, hp⟩ := hI
      rw [rgD_len] at hp
      try walk_at "dl"
      refine dFor_mk (rgD 0 6) yes [x] (fun K h => by walk_at "dl"; exact ⟨⟨by decide, by decide⟩, h⟩) (fun j en c1 => ∃ (x : D) (o3 : Option Z), en = [some (.d (.scr ns)), some (.d (.int (0 + (i : Int)))), some (.c 0), o3] ∧ c1 = [x] ∧ Pond (200000 + j * 10000) x)
        ⟨_, _, rfl, rfl, hp.le (by omega)⟩ (fun j d en c1 hd hI => ?_) (fun en c1 hI => ?_) (fun _ _ _ _ => trivial)
      · obtain ⟨hj, rfl⟩ := rgD_get hd
        obtain ⟨x, o3, rfl, rfl, hp⟩ := hI
        try walk_at "dl"
        refine ⟨_, hp, by omega, fun x1 p1 => ?_⟩
        try walk_at "dl"
        refine ⟨_, p1, by omega, fun x2 p2 => ?_⟩
        try walk_at "dl"
        refine ⟨_, p2, by omega, fun x3 p3 => ?_⟩
        try walk_at "dl"
        refine ⟨_, p3, by omega, fun x4 p4 => ?_⟩
        try walk_at "dl"
        refine ⟨_, p4, by omega, fun x5 p5 => ?_⟩
        try walk_at "dl"
        exact .inl ⟨_, _, rfl, rfl, p5.le (by omega)⟩
      · obtain ⟨x, o3, rfl, rfl, hp⟩ := hI
        exact .inr ⟨0, Nat.le_refl _, _, _, _, rfl, rfl⟩
  · obtain ⟨o1, o2, o3, rfl, rfl⟩ := hI
    try walk_at "dl"
    refine ⟨⟨by decide, by decide, by decide, by decide⟩, fun r1 e1 => ?_⟩
    rw [Least.uniq e1 told1]
    refine ⟨⟨by decide, by decide, by decide, by decide⟩, fun r2 e2 => ?_⟩
    rw [Least.uniq e2 told2]
    refine ⟨⟨by decide, by decide, by decide, by decide⟩, fun r3 e3 => ?_⟩
    rw [Least.uniq e3 told3]
    simp only [optD]
    try walk_at "dl"
    have eo : EqOk (.lst [.int 1, .non, .int 0]) := (EqN.lst (e := 0) fun d hd => by
      simp only [List.mem_cons, List.not_mem_nil, or_false] at hd
      rcases hd with rfl | rfl | rfl
      · exact EqN.int _
      · exact EqN.non
      · exact EqN.int _).eq (by decide)
    refine ⟨⟨eo, eo⟩, ?_⟩
    rw [show eqvD (D.lst [D.int 1, D.non, D.int 0]) (D.lst [D.int 1, D.non, D.int 0]) = true from by decide +kernel]
    exact h
theorem law_true : ∀ ns : List Int, ns.length ≤ 63 → sp_law [.d (.scr ns)] [] fun z _ => z = .d (.bl true) := fun ns h => ⟨h, rfl⟩
end K04
set_option Elab.async false
set_option linter.all false
set_option maxRecDepth 100000
set_option maxHeartbeats 4000000
set_option autoImplicit false
namespace K04
open PySem PySem.Spec PyProof.Rows L2 DL 
open K01
def topS (i : Nat) : Stmt := PySem.Challenge.pw_greenroads_k04_first_hits.main.body.getD i (.Pass ⟨0, 0, 0, 0⟩)
structure Bt (mg : Str → Option Value) : Prop where
  bool_ : mg "bool" = none
  int_ : mg "int" = none
  isinstance_ : mg "isinstance" = none
  len_ : mg "len" = none
  max_ : mg "max" = none
  min_ : mg "min" = none
  range_ : mg "range" = none
  repr_ : mg "repr" = none
abbrev s_is_int : Stmt := topS 6
abbrev N_is_int : List Str := ["value"]
theorem sc_is_int : FnScope N_is_int ["value"] (defScope s_is_int) := ⟨rfl, rfl, rfl, by decide +kernel, rfl, by decide +kernel, by decide +kernel⟩
abbrev s_in_range : Stmt := topS 7
abbrev N_in_range : List Str := ["value", "low", "high"]
theorem sc_in_range : FnScope N_in_range ["value", "low", "high"] (defScope s_in_range) := ⟨rfl, rfl, rfl, by decide +kernel, rfl, by decide +kernel, by decide +kernel⟩
abbrev s_require_cycle : Stmt := topS 8
abbrev N_require_cycle : List Str := ["value"]
theorem sc_require_cycle : FnScope N_require_cycle ["value"] (defScope s_require_cycle) := ⟨rfl, rfl, rfl, by decide +kernel, rfl, by decide +kernel, by decide +kernel⟩
abbrev s_require_number : Stmt := topS 9
abbrev N_require_number : List Str := ["value"]
theorem sc_require_number : FnScope N_require_number ["value"] (defScope s_require_number) := ⟨rfl, rfl, rfl, by decide +kernel, rfl, by decide +kernel, by decide +kernel⟩
abbrev s_least_multiple : Stmt := topS 11
abbrev N_least_multiple : List Str := ["step", "modulus", "low", "high", "frames", "found"]
theorem sc_least_multiple : FnScope N_least_multiple ["step", "modulus", "low", "high"] (defScope s_least_multiple) := ⟨rfl, rfl, rfl, by decide +kernel, rfl, by decide +kernel, by decide +kernel⟩
abbrev s_hit_from : Stmt := topS 12
abbrev N_hit_from : List Str := ["cycle", "begin", "step", "first", "length", "ahead"]
theorem sc_hit_from : FnScope N_hit_from ["cycle", "begin", "step", "first", "length"] (defScope s_hit_from) := ⟨rfl, rfl, rfl, by decide +kernel, rfl, by decide +kernel, by decide +kernel⟩
abbrev s_first_hit : Stmt := topS 13
abbrev N_first_hit : List Str := ["cycle", "begin", "step", "first", "length"]
theorem sc_first_hit : FnScope N_first_hit ["cycle", "begin", "step", "first", "length"] (defScope s_first_hit) := ⟨rfl, rfl, rfl, by decide +kernel, rfl, by decide +kernel, by decide +kernel⟩
abbrev s_l_pond : Stmt := topS 15
abbrev N_l_pond : List Str := ["_law_script", "_law_k", "_law_cell"]
theorem sc_l_pond : FnScope N_l_pond ["_law_script", "_law_k"] (defScope s_l_pond) := ⟨rfl, rfl, rfl, by decide +kernel, rfl, by decide +kernel, by decide +kernel⟩
abbrev s_l_fish : Stmt := topS 16
abbrev N_l_fish : List Str := ["_law_pond_here", "_law_bound", "_law_found", "_law_turn", "_law_mixed"]
theorem sc_l_fish : FnScope N_l_fish ["_law_pond_here", "_law_bound"] (defScope s_l_fish) := ⟨rfl, rfl, rfl, by decide +kernel, rfl, by decide +kernel, by decide +kernel⟩
abbrev s_l_least : Stmt := topS 17
abbrev N_l_least : List Str := ["_law_span", "_law_begin", "_law_step", "_law_place", "_law_size", "_law_n"]
theorem sc_l_least : FnScope N_l_least ["_law_span", "_law_begin", "_law_step", "_law_place", "_law_size"] (defScope s_l_least) := ⟨rfl, rfl, rfl, by decide +kernel, rfl, by decide +kernel, by decide +kernel⟩
abbrev s_l_small_right : Stmt := topS 18
abbrev N_l_small_right : List Str := ["_law_pond_here", "_law_span", "_law_begin", "_law_step", "_law_place", "_law_size", "_law_due", "_law_far", "_law_factor", "_law_rest", "_law_told", "_law_whole", "_law_great", "_law_turn", "_law_number"]
theorem sc_l_small_right : FnScope N_l_small_right ["_law_pond_here", "_law_span"] (defScope s_l_small_right) := ⟨rfl, rfl, rfl, by decide +kernel, rfl, by decide +kernel, by decide +kernel⟩
abbrev s_l_great_right : Stmt := topS 19
abbrev N_l_great_right : List Str := ["_law_pond_here", "_law_up", "_law_turns", "_law_span", "_law_pairs", "_law_step", "_law_inverse", "_law_begin", "_law_place", "_law_size", "_law_due", "_law_times", "_law_j"]
theorem sc_l_great_right : FnScope N_l_great_right ["_law_pond_here"] (defScope s_l_great_right) := ⟨rfl, rfl, rfl, by decide +kernel, rfl, by decide +kernel, by decide +kernel⟩
abbrev s_l_turns_right : Stmt := topS 20
abbrev N_l_turns_right : List Str := ["_law_pond_here", "_law_span", "_law_step", "_law_turn", "_law_more", "_law_one", "_law_other", "_law_back", "_law_inverse", "_law_begin", "_law_place", "_law_size", "_law_due", "_law_j"]
theorem sc_l_turns_right : FnScope N_l_turns_right ["_law_pond_here"] (defScope s_l_turns_right) := ⟨rfl, rfl, rfl, by decide +kernel, rfl, by decide +kernel, by decide +kernel⟩
abbrev s_l_wide_right : Stmt := topS 21
abbrev N_l_wide_right : List Str := ["_law_pond_here", "_law_span", "_law_begin", "_law_step", "_law_place", "_law_size", "_law_told", "_law_hits", "_law_n"]
theorem sc_l_wide_right : FnScope N_l_wide_right ["_law_pond_here"] (defScope s_l_wide_right) := ⟨rfl, rfl, rfl, by decide +kernel, rfl, by decide +kernel, by decide +kernel⟩
abbrev s_l_between_right : Stmt := topS 22
abbrev N_l_between_right : List Str := ["_law_pond_here", "_law_span", "_law_begin", "_law_step", "_law_n", "_law_size", "_law_place", "_law_told", "_law_spot", "_law_first", "_law_length", "_law_other"]
theorem sc_l_between_right : FnScope N_l_between_right ["_law_pond_here"] (defScope s_l_between_right) := ⟨rfl, rfl, rfl, by decide +kernel, rfl, by decide +kernel, by decide +kernel⟩
abbrev s_l_straight_right : Stmt := topS 23
abbrev N_l_straight_right : List Str := ["_law_pond_here", "_law_span", "_law_begin", "_law_place", "_law_size", "_law_ahead", "_law_due"]
theorem sc_l_straight_right : FnScope N_l_straight_right ["_law_pond_here"] (defScope s_l_straight_right) := ⟨rfl, rfl, rfl, by decide +kernel, rfl, by decide +kernel, by decide +kernel⟩
abbrev s_law : Stmt := topS 24
abbrev N_law : List Str := ["_law_script", "_law_k", "_law_pond_here", "_law_turn"]
theorem sc_law : FnScope N_law ["_law_script"] (defScope s_law) := ⟨rfl, rfl, rfl, by decide +kernel, rfl, by decide +kernel, by decide +kernel⟩
variable {P : Program} {w : World} {K : PySem.W.Frag} {mg : Str → Option Value} {base : Heap}
theorem ok_l_fish_1 (T : DefT K mg "_law_fish" s_l_fish ["_law_pond_here", "_law_bound"]) (B : Bt mg)  : Got P w K mg base "_law_fish" 1 ["_law_pond_here", "_law_bound"] sp_l_fish_1 :=
  Got.mk T sc_l_fish (len_l_fish_1) (t_l_fish_1) (fun f cdv A outer s H hr hg => ⟨_,
      (qss_cons (qs_if (q_cmpT op_gt o_cmp (qv 1) (q_op op_powW o_pow q_int q_int) (nomark _)) qss_never qss_nil)
      (qss_cons (qs_if (q_cmpT op_gt o_cmp (q_ix ix_seq o_ix (qv 0) q_int (fun _ _ => rfl)) q_int (nomark _)) (qss_cons (qs_set 2 sc_l_fish.nd (q_op op_mod o_mod (q_ix ix_seq o_ix (qv 0) q_int (fun _ _ => rfl)) (qv 1)))
      (qss_cons (qs_asg (q_op op_fdivW o_fdiv (q_ix ix_seq o_ix (qv 0) q_int (fun _ _ => rfl)) (qv 1)) (qg_set (qv 0) q_int))
      (qss_one (qs_ret (qv 2))))) qss_nil)
      (qss_cons (qs_asg (q_op op_addU o_add (q_ix ix_seq o_ix (qv 0) q_int (fun _ _ => rfl)) q_int) (qg_set (qv 0) q_int))
      (qss_cons (qs_set 4 sc_l_fish.nd (q_op op_mod o_mod (q_op op_powW o_pow (q_op op_addU o_add (q_ix ix_seq o_ix (qv 0) q_int (fun _ _ => rfl)) (q_op op_mulU o_mul q_int (q_ix ix_seq o_ix (qv 0) q_int (fun _ _ => rfl)))) q_int) (q_op op_addU o_add (q_op op_powW o_pow q_int q_int) q_int)))
      (qss_cons (qs_set 4 sc_l_fish.nd (q_op op_mod o_mod (q_op op_powW o_pow (q_op op_addU o_add (qv 4) (q_op op_mulU o_mul q_int (q_ix ix_seq o_ix (qv 0) q_int (fun _ _ => rfl)))) q_int) (q_op op_addU o_add (q_op op_powW o_pow q_int q_int) q_int)))
      (qss_one (qs_ret (q_op op_mod o_mod (q_op op_fdivW o_fdiv (qv 4) q_int) (qv 1)))))))))⟩) (rd_l_fish_1)
theorem ok_l_fish (T : DefT K mg "_law_fish" s_l_fish ["_law_pond_here", "_law_bound"]) (B : Bt mg) (G_l_fish_1 : Got P w K mg base "_law_fish" 1 ["_law_pond_here", "_law_bound"] sp_l_fish_1) : Got P w K mg base "_law_fish" 2 ["_law_pond_here", "_law_bound"] sp_l_fish :=
  Got.mk T sc_l_fish (len_l_fish) (t_l_fish) (fun f cdv A outer s H hr hg => ⟨_,
      (qss_cons (qs_if (q_cmpT op_gt o_cmp (qv 1) (q_op op_powW o_pow q_int q_int) (nomark _)) (qss_cons (qs_set 2 sc_l_fish.nd q_int)
      (qss_cons (qs_for PassesOwn.never (qi_range1 B.range_ (q_op op_addU o_add q_int (q_op op_fdivW o_fdiv (q_bits (qv 1)) q_int))) (qg_name 3 sc_l_fish.nd) (qss_one (qs_set 2 sc_l_fish.nd (q_op op_addU o_add (q_op op_mulU o_mul (qv 2) (q_op op_powW o_pow q_int q_int)) (qc G_l_fish_1 (hr.mono (by decide)) hg (qa_cons (qv 0) (qa_cons (q_op op_powW o_pow q_int q_int) qa_nil)))))))
      (qss_one (qs_ret (q_op op_mod o_mod (qv 2) (qv 1)))))) qss_nil)
      (qss_cons (qs_if (q_cmpT op_gt o_cmp (q_ix ix_seq o_ix (qv 0) q_int (fun _ _ => rfl)) q_int (nomark _)) (qss_cons (qs_set 2 sc_l_fish.nd (q_op op_mod o_mod (q_ix ix_seq o_ix (qv 0) q_int (fun _ _ => rfl)) (qv 1)))
      (qss_cons (qs_asg (q_op op_fdivW o_fdiv (q_ix ix_seq o_ix (qv 0) q_int (fun _ _ => rfl)) (qv 1)) (qg_set (qv 0) q_int))
      (qss_one (qs_ret (qv 2))))) qss_nil)
      (qss_cons (qs_asg (q_op op_addU o_add (q_ix ix_seq o_ix (qv 0) q_int (fun _ _ => rfl)) q_int) (qg_set (qv 0) q_int))
      (qss_cons (qs_set 4 sc_l_fish.nd (q_op op_mod o_mod (q_op op_powW o_pow (q_op op_addU o_add (q_ix ix_seq o_ix (qv 0) q_int (fun _ _ => rfl)) (q_op op_mulU o_mul q_int (q_ix ix_seq o_ix (qv 0) q_int (fun _ _ => rfl)))) q_int) (q_op op_addU o_add (q_op op_powW o_pow q_int q_int) q_int)))
      (qss_cons (qs_set 4 sc_l_fish.nd (q_op op_mod o_mod (q_op op_powW o_pow (q_op op_addU o_add (qv 4) (q_op op_mulU o_mul q_int (q_ix ix_seq o_ix (qv 0) q_int (fun _ _ => rfl)))) q_int) (q_op op_addU o_add (q_op op_powW o_pow q_int q_int) q_int)))
      (qss_one (qs_ret (q_op op_mod o_mod (q_op op_fdivW o_fdiv (qv 4) q_int) (qv 1)))))))))⟩) (rd_l_fish)
theorem ok_least_multiple (T : DefT K mg "least_multiple" s_least_multiple ["step", "modulus", "low", "high"]) (B : Bt mg)  : Got P w K mg base "least_multiple" 1 ["step", "modulus", "low", "high"] sp_least_multiple :=
  Got.mk T sc_least_multiple (len_least_multiple) (t_least_multiple) (fun f cdv A outer s H hr hg => ⟨_,
      (qss_cons (qs_set 4 sc_least_multiple.nd (q_lstC qa_nil))
      (qss_cons (qs_set 5 sc_least_multiple.nd q_int)
      (qss_cons (qs_while PassesOwn.never (q_cmpT op_gt o_cmp (qv 2) q_int (nomark _)) (qss_cons (qs_if (q_cmpT (op_eqU hr.units) o_eqU (qv 0) q_int (nomark _)) (qss_one (qs_ret q_non)) qss_nil)
      (qss_cons (qs_set 5 sc_least_multiple.nd (q_op op_fdivW o_fdiv (q_op op_sub o_sub (q_op op_addU o_add (qv 2) (qv 0)) q_int) (qv 0)))
      (qss_one (qs_if (q_cmpT op_le o_cmp (q_op op_mulU o_mul (qv 5) (qv 0)) (qv 3) (nomark _)) (qss_one (qs_set 2 sc_least_multiple.nd q_int)) (qss_cons (qs_expr (q_append (qv 4) (q_tup (qa_cons (qv 0) (qa_cons (qv 1) (qa_cons (qv 2) qa_nil))))))
      (qss_cons (qs_par 2 3 sc_least_multiple.nd (qa_cons (q_op op_mod o_mod (q_op op_sub o_sub q_int (qv 3)) (qv 0)) (qa_cons (q_op op_mod o_mod (q_op op_sub o_sub q_int (qv 2)) (qv 0)) qa_nil)))
      (qss_cons (qs_par 0 1 sc_least_multiple.nd (qa_cons (q_op op_mod o_mod (qv 1) (qv 0)) (qa_cons (qv 0) qa_nil)))
      (qss_one (qs_set 5 sc_least_multiple.nd q_int))))))))))
      (qss_frz 4 (qss_cons (qs_for PassesOwn.never (qi_seq (q_rev (qv 4))) (qg_tup (qgs_cons (qg_name 0 sc_least_multiple.nd) (qgs_cons (qg_name 1 sc_least_multiple.nd) (qgs_cons (qg_name 2 sc_least_multiple.nd) qgs_nil)))) (qss_one (qs_set 5 sc_least_multiple.nd (q_op op_fdivW o_fdiv (q_op op_sub o_sub (q_op op_addU o_add (q_op op_addU o_add (qv 2) (q_op op_mulU o_mul (qv 1) (qv 5))) (qv 0)) q_int) (qv 0)))))
      (qss_one (qs_ret (qv 5))))))))⟩) (rd_least_multiple)
theorem ok_hit_from (T : DefT K mg "hit_from" s_hit_from ["cycle", "begin", "step", "first", "length"]) (B : Bt mg) (G_least_multiple : Got P w K mg base "least_multiple" 1 ["step", "modulus", "low", "high"] sp_least_multiple) : Got P w K mg base "hit_from" 2 ["cycle", "begin", "step", "first", "length"] sp_hit_from :=
  Got.mk T sc_hit_from (len_hit_from) (t_hit_from) (fun f cdv A outer s H hr hg => ⟨_,
      (qss_cons (qs_set 5 sc_hit_from.nd (q_op op_mod o_mod (q_op op_sub o_sub (qv 1) (qv 3)) (qv 0)))
      (qss_cons (qs_if (q_cmpT op_lt o_cmp (qv 5) (qv 4) (nomark _)) (qss_one (qs_ret q_int)) qss_nil)
      (qss_one (qs_ret (qc G_least_multiple (hr.mono (by decide)) hg (qa_cons (q_op op_mod o_mod (qv 2) (qv 0)) (qa_cons (qv 0) (qa_cons (q_op op_sub o_sub (qv 0) (qv 5)) (qa_cons (q_op op_sub o_sub (q_op op_addU o_add (q_op op_sub o_sub (qv 0) (qv 5)) (qv 4)) q_int) qa_nil)))))))))⟩) (rd_hit_from)
theorem ok_is_int (T : DefT K mg "is_int" s_is_int ["value"]) (B : Bt mg)  : Got P w K mg base "is_int" 1 ["value"] sp_is_int :=
  Got.mk T sc_is_int (len_is_int) (t_is_int) (fun f cdv A outer s H hr hg => ⟨_,
      (qss_one (qs_ret (q_and (q_callB call_isi (c_isi "int" (by decide +kernel)) B.isinstance_ PyProof.Rows.boot_isinstance (qa_cons (qv 0) (qa_cons (q_bty B.int_ PyProof.Rows.boot_int) qa_nil))) (q_one (q_not (q_callB call_isi (c_isi "bool" (by decide +kernel)) B.isinstance_ PyProof.Rows.boot_isinstance (qa_cons (qv 0) (qa_cons (q_bty B.bool_ PyProof.Rows.boot_bool) qa_nil))))))))⟩) (rd_is_int)
theorem ok_in_range (T : DefT K mg "in_range" s_in_range ["value", "low", "high"]) (B : Bt mg) (G_is_int : Got P w K mg base "is_int" 1 ["value"] sp_is_int) : Got P w K mg base "in_range" 2 ["value", "low", "high"] sp_in_range :=
  Got.mk T sc_in_range (len_in_range) (t_in_range) (fun f cdv A outer s H hr hg => ⟨_,
      (qss_one (qs_ret (q_and (qc G_is_int (hr.mono (by decide)) hg (qa_cons (qv 0) qa_nil)) (q_one (q_chain op_le op_le o_cmp o_cmp (qv 1) (qv 0) (qv 2))))))⟩) (rd_in_range)
theorem ok_require_cycle (T : DefT K mg "require_cycle" s_require_cycle ["value"]) (B : Bt mg) (c_MOST_CYCLE : ∃ t, mg "MOST_CYCLE" = some (.int 1000000000000000000000000000000 t)) (G_in_range : Got P w K mg base "in_range" 2 ["value", "low", "high"] sp_in_range) : Got P w K mg base "require_cycle" 3 ["value"] sp_require_cycle :=
  Got.mk T sc_require_cycle (len_require_cycle) (t_require_cycle) (fun f cdv A outer s H hr hg => ⟨_,
      (qss_one (qs_if (q_notT (q_val (qc G_in_range (hr.mono (by decide)) hg (qa_cons (qv 0) (qa_cons q_int (qa_cons (q_gint c_MOST_CYCLE) qa_nil)))))) (qss_one qs_never) qss_nil))⟩) (rd_require_cycle)
theorem ok_require_number (T : DefT K mg "require_number" s_require_number ["value"]) (B : Bt mg) (G_is_int : Got P w K mg base "is_int" 1 ["value"] sp_is_int) : Got P w K mg base "require_number" 2 ["value"] sp_require_number :=
  Got.mk T sc_require_number (len_require_number) (t_require_number) (fun f cdv A outer s H hr hg => ⟨_,
      (qss_one (qs_if (q_notT (q_val (qc G_is_int (hr.mono (by decide)) hg (qa_cons (qv 0) qa_nil)))) (qss_one qs_never) qss_nil))⟩) (rd_require_number)
theorem ok_first_hit (T : DefT K mg "first_hit" s_first_hit ["cycle", "begin", "step", "first", "length"]) (B : Bt mg) (G_hit_from : Got P w K mg base "hit_from" 2 ["cycle", "begin", "step", "first", "length"] sp_hit_from) (G_in_range : Got P w K mg base "in_range" 2 ["value", "low", "high"] sp_in_range) (G_require_cycle : Got P w K mg base "require_cycle" 3 ["value"] sp_require_cycle) (G_require_number : Got P w K mg base "require_number" 2 ["value"] sp_require_number) : Got P w K mg base "first_hit" 4 ["cycle", "begin", "step", "first", "length"] sp_first_hit :=
  Got.mk T sc_first_hit (len_first_hit) (t_first_hit) (fun f cdv A outer s H hr hg => ⟨_,
      (qss_cons (qs_expr (qc G_require_cycle (hr.mono (by decide)) hg (qa_cons (qv 0) qa_nil)))
      (qss_cons (qs_expr (qc G_require_number (hr.mono (by decide)) hg (qa_cons (qv 1) qa_nil)))
      (qss_cons (qs_expr (qc G_require_number (hr.mono (by decide)) hg (qa_cons (qv 2) qa_nil)))
      (qss_cons (qs_expr (qc G_require_number (hr.mono (by decide)) hg (qa_cons (qv 3) qa_nil)))
      (qss_cons (qs_if (q_notT (q_val (qc G_in_range (hr.mono (by decide)) hg (qa_cons (qv 4) (qa_cons q_int (qa_cons (qv 0) qa_nil)))))) (qss_one qs_never) qss_nil)
      (qss_one (qs_ret (qc G_hit_from (hr.mono (by decide)) hg (qa_cons (qv 0) (qa_cons (qv 1) (qa_cons (qv 2) (qa_cons (qv 3) (qa_cons (qv 4) qa_nil)))))))))))))⟩) (rd_first_hit)
theorem ok_l_between_right (T : DefT K mg "_law_between_right" s_l_between_right ["_law_pond_here"]) (B : Bt mg) (G_l_fish : Got P w K mg base "_law_fish" 2 ["_law_pond_here", "_law_bound"] sp_l_fish) (G_first_hit : Got P w K mg base "first_hit" 4 ["cycle", "begin", "step", "first", "length"] sp_first_hit) : Got P w K mg base "_law_between_right" 5 ["_law_pond_here"] sp_l_between_right :=
  Got.mk T sc_l_between_right (len_l_between_right) (t_l_between_right) (fun f cdv A outer s H hr hg => ⟨_,
      (qss_cons (qs_set 1 sc_l_between_right.nd (q_op op_addU o_add (q_op op_powW o_pow q_int q_int) (qc G_l_fish (hr.mono (by decide)) hg (qa_cons (qv 0) (qa_cons (q_ix ix_seq o_ix (q_lst (qa_cons (q_op op_powW o_pow q_int q_int) (qa_cons (q_op op_powW o_pow q_int q_int) qa_nil))) (qc G_l_fish (hr.mono (by decide)) hg (qa_cons (qv 0) (qa_cons q_int qa_nil))) (fun _ _ => rfl)) qa_nil)))))
      (qss_cons (qs_par3 2 3 4 sc_l_between_right.nd (qa_cons (qc G_l_fish (hr.mono (by decide)) hg (qa_cons (qv 0) (qa_cons (qv 1) qa_nil))) (qa_cons (qc G_l_fish (hr.mono (by decide)) hg (qa_cons (qv 0) (qa_cons (qv 1) qa_nil))) (qa_cons (qc G_l_fish (hr.mono (by decide)) hg (qa_cons (qv 0) (qa_cons (qv 1) qa_nil))) qa_nil))))
      (qss_cons (qs_set 5 sc_l_between_right.nd (q_op op_addU o_add q_int (qc G_l_fish (hr.mono (by decide)) hg (qa_cons (qv 0) (qa_cons (q_op op_powW o_pow q_int q_int) qa_nil)))))
      (qss_cons (qs_set 6 sc_l_between_right.nd (q_op op_sub o_sub (q_op op_addU o_add (qv 2) (q_op op_mulU o_mul (qv 4) (qv 3))) (qc G_l_fish (hr.mono (by decide)) hg (qa_cons (qv 0) (qa_cons (qv 5) qa_nil)))))
      (qss_cons (qs_set 7 sc_l_between_right.nd (qc G_first_hit (hr.mono (by decide)) hg (qa_cons (qv 1) (qa_cons (qv 2) (qa_cons (qv 3) (qa_cons (qv 6) (qa_cons (qv 5) qa_nil)))))))
      (qss_cons (qs_if (QW.t (q_orT (q_cmpT op_isU o_is (qv 7) q_non (nomark _)) (q_or1 (q_cmpT op_gt o_cmp (qv 7) (qv 4) (nomark _))))) (qss_one (qs_ret q_bl)) qss_nil)
      (qss_cons (qs_set 8 sc_l_between_right.nd (q_op op_mod o_mod (q_op op_sub o_sub (q_op op_addU o_add (qv 2) (q_op op_mulU o_mul (qv 7) (qv 3))) (qv 6)) (qv 1)))
      (qss_cons (qs_if (q_cmpT op_ge o_cmp (qv 8) (qv 5) (nomark _)) (qss_one (qs_ret q_bl)) qss_nil)
      (qss_cons (qs_for PassesOwn.never (qi_seq (q_lst (qa_cons (q_tup (qa_cons (qv 6) (qa_cons (qv 8) qa_nil))) (qa_cons (q_tup (qa_cons (q_op op_addU o_add (q_op op_addU o_add (qv 6) (qv 8)) q_int) (qa_cons (q_op op_sub o_sub (q_op op_sub o_sub (qv 5) (qv 8)) q_int) qa_nil))) qa_nil)))) (qg_tup (qgs_cons (qg_name 9 sc_l_between_right.nd) (qgs_cons (qg_name 10 sc_l_between_right.nd) qgs_nil))) (qss_cons (qs_set 11 sc_l_between_right.nd (q_ifExp (q_cmpT op_gt o_cmp (qv 10) q_int (nomark _)) (qc G_first_hit (hr.mono (by decide)) hg (qa_cons (qv 1) (qa_cons (qv 2) (qa_cons (qv 3) (qa_cons (qv 9) (qa_cons (qv 10) qa_nil)))))) q_non))
      (qss_one (qs_if (QW.t (q_andT (q_cmpT op_isNotU o_isNot (qv 11) q_non (nomark _)) (q_and1 (q_cmpT op_le o_cmp (qv 11) (qv 7) (nomark _))))) (qss_one (qs_ret q_bl)) qss_nil))))
      (qss_one (qs_ret q_bl)))))))))))⟩) (rd_l_between_right)
theorem ok_l_great_right (T : DefT K mg "_law_great_right" s_l_great_right ["_law_pond_here"]) (B : Bt mg) (G_l_fish : Got P w K mg base "_law_fish" 2 ["_law_pond_here", "_law_bound"] sp_l_fish) (G_first_hit : Got P w K mg base "first_hit" 4 ["cycle", "begin", "step", "first", "length"] sp_first_hit) : Got P w K mg base "_law_great_right" 5 ["_law_pond_here"] sp_l_great_right :=
  Got.mk T sc_l_great_right (len_l_great_right) (t_l_great_right) (fun f cdv A outer s H hr hg => ⟨_,
      (qss_cons (qs_par 1 2 sc_l_great_right.nd (qa_cons (q_op op_addU o_add q_int (qc G_l_fish (hr.mono (by decide)) hg (qa_cons (qv 0) (qa_cons (q_op op_powW o_pow q_int q_int) qa_nil)))) (qa_cons (q_op op_addU o_add q_int (qc G_l_fish (hr.mono (by decide)) hg (qa_cons (qv 0) (qa_cons (q_op op_powW o_pow q_int q_int) qa_nil)))) qa_nil)))
      (qss_cons (qs_set 3 sc_l_great_right.nd (q_op op_addU o_add (q_op op_mulU o_mul (qv 1) (qv 2)) q_int))
      (qss_cons (qs_set 4 sc_l_great_right.nd (q_lst (qa_cons (q_tup (qa_cons (qv 1) (qa_cons (q_op op_sub o_sub q_int (qv 2)) qa_nil))) (qa_cons (q_tup (qa_cons (q_op op_sub o_sub q_int (qv 2)) (qa_cons (qv 1) qa_nil))) (qa_cons (q_tup (qa_cons (qv 2) (qa_cons (q_op op_sub o_sub q_int (qv 1)) qa_nil))) (qa_cons (q_tup (qa_cons q_int (qa_cons q_int qa_nil))) (qa_cons (q_tup (qa_cons (q_un un_neg o_neg q_int) (qa_cons (q_un un_neg o_neg q_int) qa_nil))) qa_nil)))))))
      (qss_cons (qs_asg (q_ix ix_seq o_ix (qv 4) (qc G_l_fish (hr.mono (by decide)) hg (qa_cons (qv 0) (qa_cons q_int qa_nil))) (fun _ _ => rfl)) (qg_tup (qgs_cons (qg_name 5 sc_l_great_right.nd) (qgs_cons (qg_name 6 sc_l_great_right.nd) qgs_nil))))
      (qss_cons (qs_asg (q_tup (qa_cons (qc G_l_fish (hr.mono (by decide)) hg (qa_cons (qv 0) (qa_cons (q_op op_powW o_pow q_int q_int) qa_nil))) (qa_cons (qc G_l_fish (hr.mono (by decide)) hg (qa_cons (qv 0) (qa_cons (q_op op_powW o_pow q_int q_int) qa_nil))) (qa_cons (q_op op_addU o_add q_int (qc G_l_fish (hr.mono (by decide)) hg (qa_cons (qv 0) (qa_cons (q_callB call_minU c_min B.min_ (by decide +kernel) (qa_cons q_int (qa_cons (qv 3) qa_nil))) qa_nil)))) qa_nil)))) (qg_tup (qgs_cons (qg_name 7 sc_l_great_right.nd) (qgs_cons (qg_name 8 sc_l_great_right.nd) (qgs_cons (qg_name 9 sc_l_great_right.nd) qgs_nil)))))
      (qss_cons (qs_set 10 sc_l_great_right.nd (q_callB call_minU c_min B.min_ (by decide +kernel) (qa_cons (q_lcH (own := [("_law_j", 12)]) fin_d sc_l_great_right.nd (qi_range1 B.range_ (qv 9)) (blkOk_by (own := [("_law_j", 12)]) (N := N_l_great_right) (sc := defScope s_l_great_right) (by decide +kernel)) s (qg_name 12 sc_l_great_right.nd) qts_nil (q_op op_mod o_mod (q_op op_mulU o_mul (q_op op_sub o_sub (q_op op_addU o_add (qv 8) (qv 12)) (qv 7)) (qv 6)) (qv 3)) (fun _ _ _ _ _ => (qg_name 12 sc_l_great_right.nd)) (fun _ _ _ _ _ => qts_nil) (fun _ _ _ _ _ => (q_op op_mod o_mod (q_op op_mulU o_mul (q_op op_sub o_sub (q_op op_addU o_add (qv 8) (qv 12)) (qv 7)) (qv 6)) (qv 3))) (by decide)) qa_nil)))
      (qss_cons (qs_if (q_cmpT (op_neU hr.units) o_neU (qc G_first_hit (hr.mono (by decide)) hg (qa_cons (qv 3) (qa_cons (qv 7) (qa_cons (qv 5) (qa_cons (qv 8) (qa_cons (qv 9) qa_nil)))))) (qv 10) (nomark _)) (qss_one (qs_ret q_bl)) qss_nil)
      (qss_cons (qs_set 11 sc_l_great_right.nd (q_op op_addU o_add q_int (qc G_l_fish (hr.mono (by decide)) hg (qa_cons (qv 0) (qa_cons (q_op op_fdivW o_fdiv (q_op op_powW o_pow q_int q_int) (qv 3)) qa_nil)))))
      (qss_one (qs_ret (q_cmp (op_eqU hr.units) o_eqU (qc G_first_hit (hr.mono (by decide)) hg (qa_cons (q_op op_mulU o_mul (qv 3) (qv 11)) (qa_cons (q_op op_mulU o_mul (qv 7) (qv 11)) (qa_cons (q_op op_mulU o_mul (qv 5) (qv 11)) (qa_cons (q_op op_mulU o_mul (qv 8) (qv 11)) (qa_cons (q_op op_mulU o_mul (qv 9) (qv 11)) qa_nil)))))) (qv 10) (nomark _))))))))))))⟩) (rd_l_great_right)
theorem ok_l_pond (T : DefT K mg "_law_pond" s_l_pond ["_law_script", "_law_k"]) (B : Bt mg)  : Got P w K mg base "_law_pond" 1 ["_law_script", "_law_k"] sp_l_pond :=
  Got.mk T sc_l_pond (len_l_pond) (t_l_pond) (fun f cdv A outer s H hr hg => ⟨_,
      (qss_cons (qs_set 2 sc_l_pond.nd q_int)
      (qss_cons (qs_if (q_cmpT op_lt o_cmp (qv 1) (q_callB call_lenU c_len B.len_ PySem.boot_len (qa_cons (qv 0) qa_nil)) (nomark _)) (qss_one (qs_set 2 sc_l_pond.nd (q_ix ix_seq o_ix (qv 0) (qv 1) (fun _ _ => rfl)))) qss_nil)
      (qss_one (qs_ret (q_lstC (qa_cons (q_callB call_maxU c_max B.max_ (by decide +kernel) (qa_cons q_int (qa_cons (q_op op_sub o_sub (qv 2) (q_op op_powW o_pow q_int q_int)) qa_nil))) (qa_cons (q_op op_addU o_add (q_op op_mod o_mod (qv 2) (q_op op_addU o_add (q_op op_powW o_pow q_int q_int) q_int)) (q_op op_mulU o_mul q_int (qv 1))) (qa_cons q_int qa_nil))))))))⟩) (rd_l_pond)
theorem ok_l_least (T : DefT K mg "_law_least" s_l_least ["_law_span", "_law_begin", "_law_step", "_law_place", "_law_size"]) (B : Bt mg)  : Got P w K mg base "_law_least" 1 ["_law_span", "_law_begin", "_law_step", "_law_place", "_law_size"] sp_l_least :=
  Got.mk T sc_l_least (len_l_least) (t_l_least) (fun f cdv A outer s H hr hg => ⟨_,
      (qss_cons (qs_for PassesOwn.never (qi_range1 B.range_ (qv 0)) (qg_name 5 sc_l_least.nd) (qss_one (qs_if (q_cmpT op_lt o_cmp (q_op op_mod o_mod (q_op op_sub o_sub (q_op op_addU o_add (qv 1) (q_op op_mulU o_mul (qv 5) (qv 2))) (qv 3)) (qv 0)) (qv 4) (nomark _)) (qss_one (qs_ret (qv 5))) qss_nil)))
      (qss_one (qs_ret q_non)))⟩) (rd_l_least)
theorem ok_l_small_right (T : DefT K mg "_law_small_right" s_l_small_right ["_law_pond_here", "_law_span"]) (B : Bt mg) (G_l_fish : Got P w K mg base "_law_fish" 2 ["_law_pond_here", "_law_bound"] sp_l_fish) (G_l_least : Got P w K mg base "_law_least" 1 ["_law_span", "_law_begin", "_law_step", "_law_place", "_law_size"] sp_l_least) (G_first_hit : Got P w K mg base "first_hit" 4 ["cycle", "begin", "step", "first", "length"] sp_first_hit) : Got P w K mg base "_law_small_right" 5 ["_law_pond_here", "_law_span"] sp_l_small_right :=
  Got.mk T sc_l_small_right (len_l_small_right) (t_l_small_right) (fun f cdv A outer s H hr hg => ⟨_,
      (qss_cons (qs_par 2 3 sc_l_small_right.nd (qa_cons (q_op op_sub o_sub (qc G_l_fish (hr.mono (by decide)) hg (qa_cons (qv 0) (qa_cons (q_op op_mulU o_mul q_int (qv 1)) qa_nil))) (qv 1)) (qa_cons (q_op op_sub o_sub (qc G_l_fish (hr.mono (by decide)) hg (qa_cons (qv 0) (qa_cons (q_op op_mulU o_mul q_int (qv 1)) qa_nil))) (qv 1)) qa_nil)))
      (qss_cons (qs_par 4 5 sc_l_small_right.nd (qa_cons (qc G_l_fish (hr.mono (by decide)) hg (qa_cons (qv 0) (qa_cons (qv 1) qa_nil))) (qa_cons (q_op op_addU o_add q_int (qc G_l_fish (hr.mono (by decide)) hg (qa_cons (qv 0) (qa_cons (q_ix ix_seq o_ix (q_lst (qa_cons q_int (qa_cons (q_callB call_minU c_min B.min_ (by decide +kernel) (qa_cons q_int (qa_cons (qv 1) qa_nil))) (qa_cons (qv 1) qa_nil)))) (qc G_l_fish (hr.mono (by decide)) hg (qa_cons (qv 0) (qa_cons q_int qa_nil))) (fun _ _ => rfl)) qa_nil)))) qa_nil)))
      (qss_cons (qs_set 6 sc_l_small_right.nd (qc G_l_least (hr.mono (by decide)) hg (qa_cons (qv 1) (qa_cons (qv 2) (qa_cons (qv 3) (qa_cons (qv 4) (qa_cons (qv 5) qa_nil)))))))
      (qss_cons (qs_setLcH (own := [("_law_turn", 13)]) 7 fin_d sc_l_small_right.nd (sw_true rfl rfl rfl (by decide +kernel)) (qi_range1 B.range_ q_int) (blkOk_by (own := [("_law_turn", 13)]) (N := N_l_small_right) (sc := defScope s_l_small_right) (by decide +kernel)) s (qg_name 13 sc_l_small_right.nd) qts_nil (q_op op_mulU o_mul (q_op op_sub o_sub (qc G_l_fish (hr.mono (by decide)) hg (qa_cons (qv 0) (qa_cons (q_op op_powW o_pow q_int q_int) qa_nil))) (q_op op_powW o_pow q_int q_int)) (qv 1)) (fun _ _ _ _ _ => (qg_name 13 sc_l_small_right.nd)) (fun _ _ _ _ _ => qts_nil) (fun _ _ _ _ _ => (q_op op_mulU o_mul (q_op op_sub o_sub (qc G_l_fish (hr.mono (by decide)) hg (qa_cons (qv 0) (qa_cons (q_op op_powW o_pow q_int q_int) qa_nil))) (q_op op_powW o_pow q_int q_int)) (qv 1))) (by decide))
      (qss_cons (qs_set 8 sc_l_small_right.nd (q_op op_addU o_add q_int (qc G_l_fish (hr.mono (by decide)) hg (qa_cons (qv 0) (qa_cons (q_op op_powW o_pow q_int q_int) qa_nil)))))
      (qss_cons (qs_set 9 sc_l_small_right.nd (qc G_l_fish (hr.mono (by decide)) hg (qa_cons (qv 0) (qa_cons (qv 8) qa_nil))))
      (qss_cons (qs_set 10 sc_l_small_right.nd (q_lstC (qa_cons (qc G_first_hit (hr.mono (by decide)) hg (qa_cons (qv 1) (qa_cons (qv 2) (qa_cons (qv 3) (qa_cons (qv 4) (qa_cons (qv 5) qa_nil)))))) qa_nil)))
      (qss_cons (qs_expr (q_append (qv 10) (qc G_first_hit (hr.mono (by decide)) hg (qa_cons (qv 1) (qa_cons (q_op op_addU o_add (qv 2) (q_ix ix_seq o_ix (qv 7) q_int (fun _ _ => rfl))) (qa_cons (q_op op_addU o_add (qv 3) (q_ix ix_seq o_ix (qv 7) q_int (fun _ _ => rfl))) (qa_cons (q_op op_addU o_add (qv 4) (q_ix ix_seq o_ix (qv 7) q_int (fun _ _ => rfl))) (qa_cons (qv 5) qa_nil))))))))
      (qss_cons (qs_par 11 12 sc_l_small_right.nd (qa_cons (q_op op_mulU o_mul (qv 1) (qv 8)) (qa_cons (q_lcH (own := [("_law_number", 14)]) fin_d sc_l_small_right.nd (qi_seq (q_tup (qa_cons (qv 2) (qa_cons (qv 3) (qa_cons (qv 4) (qa_cons (qv 5) qa_nil)))))) (blkOk_by (own := [("_law_number", 14)]) (N := N_l_small_right) (sc := defScope s_l_small_right) (by decide +kernel)) s (qg_name 14 sc_l_small_right.nd) qts_nil (q_op op_mulU o_mul (qv 14) (qv 8)) (fun _ _ _ _ _ => (qg_name 14 sc_l_small_right.nd)) (fun _ _ _ _ _ => qts_nil) (fun _ _ _ _ _ => (q_op op_mulU o_mul (qv 14) (qv 8))) (by decide)) qa_nil)))
      (qss_cons (qs_expr (q_append (qv 10) (qc G_first_hit (hr.mono (by decide)) hg (qa_cons (qv 11) (qa_cons (q_op op_addU o_add (q_ix ix_seq o_ix (qv 12) q_int (fun _ _ => rfl)) (qv 9)) (qa_cons (q_ix ix_seq o_ix (qv 12) q_int (fun _ _ => rfl)) (qa_cons (q_ix ix_seq o_ix (qv 12) q_int (fun _ _ => rfl)) (qa_cons (q_ix ix_seq o_ix (qv 12) q_int (fun _ _ => rfl)) qa_nil))))))))
      (qss_frz 10 (qss_cons (qs_if (q_cmpT (op_neU hr.units) o_neU (q_callB (call_reprD hg hr.units) c_repr B.repr_ (by decide +kernel) (qa_cons (qv 10) qa_nil)) (q_callB (call_reprD hg hr.units) c_repr B.repr_ (by decide +kernel) (qa_cons (q_op op_mulU o_mul (q_lst (qa_cons (qv 6) qa_nil)) q_int) qa_nil)) (nomark _)) (qss_one (qs_ret q_bl)) qss_nil)
      (qss_one (qs_ret (q_or (q_cmp (op_eqU hr.units) o_eqU (qv 9) q_int (nomark _)) (q_one (q_cmp op_isU o_is (qc G_first_hit (hr.mono (by decide)) hg (qa_cons (qv 11) (qa_cons (q_op op_addU o_add (q_ix ix_seq o_ix (qv 12) q_int (fun _ _ => rfl)) (qv 9)) (qa_cons (q_ix ix_seq o_ix (qv 12) q_int (fun _ _ => rfl)) (qa_cons (q_ix ix_seq o_ix (qv 12) q_int (fun _ _ => rfl)) (qa_cons (qv 9) qa_nil)))))) q_non (nomark _))))))))))))))))))⟩) (rd_l_small_right)
theorem ok_l_straight_right (T : DefT K mg "_law_straight_right" s_l_straight_right ["_law_pond_here"]) (B : Bt mg) (G_l_fish : Got P w K mg base "_law_fish" 2 ["_law_pond_here", "_law_bound"] sp_l_fish) (G_first_hit : Got P w K mg base "first_hit" 4 ["cycle", "begin", "step", "first", "length"] sp_first_hit) : Got P w K mg base "_law_straight_right" 5 ["_law_pond_here"] sp_l_straight_right :=
  Got.mk T sc_l_straight_right (len_l_straight_right) (t_l_straight_right) (fun f cdv A outer s H hr hg => ⟨_,
      (qss_cons (qs_set 1 sc_l_straight_right.nd (q_op op_addU o_add q_int (qc G_l_fish (hr.mono (by decide)) hg (qa_cons (qv 0) (qa_cons (q_op op_powW o_pow q_int q_int) qa_nil)))))
      (qss_cons (qs_par3 2 3 4 sc_l_straight_right.nd (qa_cons (qc G_l_fish (hr.mono (by decide)) hg (qa_cons (qv 0) (qa_cons (qv 1) qa_nil))) (qa_cons (qc G_l_fish (hr.mono (by decide)) hg (qa_cons (qv 0) (qa_cons (qv 1) qa_nil))) (qa_cons (q_op op_addU o_add q_int (qc G_l_fish (hr.mono (by decide)) hg (qa_cons (qv 0) (qa_cons (qv 1) qa_nil)))) qa_nil))))
      (qss_cons (qs_set 5 sc_l_straight_right.nd (q_op op_mod o_mod (q_op op_sub o_sub (qv 2) (qv 3)) (qv 1)))
      (qss_cons (qs_set 6 sc_l_straight_right.nd (q_ifExp (q_cmpT op_lt o_cmp (qv 5) (qv 4) (nomark _)) (q_lst (qa_cons q_int (qa_cons q_int qa_nil))) (q_lst (qa_cons (q_op op_sub o_sub (qv 1) (qv 5)) (qa_cons (q_op op_addU o_add (q_op op_sub o_sub (qv 5) (qv 4)) q_int) qa_nil)))))
      (qss_one (qs_ret (q_cmp (op_eqU hr.units) o_eqU (q_lst (qa_cons (qc G_first_hit (hr.mono (by decide)) hg (qa_cons (qv 1) (qa_cons (qv 2) (qa_cons q_int (qa_cons (qv 3) (qa_cons (qv 4) qa_nil)))))) (qa_cons (qc G_first_hit (hr.mono (by decide)) hg (qa_cons (qv 1) (qa_cons (qv 2) (qa_cons (q_un un_neg o_neg q_int) (qa_cons (qv 3) (qa_cons (qv 4) qa_nil)))))) qa_nil))) (qv 6) (nomark _))))))))⟩) (rd_l_straight_right)
theorem ok_l_turns_right (T : DefT K mg "_law_turns_right" s_l_turns_right ["_law_pond_here"]) (B : Bt mg) (G_l_fish : Got P w K mg base "_law_fish" 2 ["_law_pond_here", "_law_bound"] sp_l_fish) (G_first_hit : Got P w K mg base "first_hit" 4 ["cycle", "begin", "step", "first", "length"] sp_first_hit) : Got P w K mg base "_law_turns_right" 5 ["_law_pond_here"] sp_l_turns_right :=
  Got.mk T sc_l_turns_right (len_l_turns_right) (t_l_turns_right) (fun f cdv A outer s H hr hg => ⟨_,
      (qss_cons (qs_asg (q_tup (qa_cons q_int (qa_cons q_int qa_nil))) (qg_tup (qgs_cons (qg_name 1 sc_l_turns_right.nd) (qgs_cons (qg_name 2 sc_l_turns_right.nd) qgs_nil))))
      (qss_cons (qs_for PassesOwn.never (qi_range1 B.range_ (q_op op_addU o_add q_int (qc G_l_fish (hr.mono (by decide)) hg (qa_cons (qv 0) (qa_cons q_int qa_nil))))) (qg_name 3 sc_l_turns_right.nd) (qss_cons (qs_set 4 sc_l_turns_right.nd (q_op op_addU o_add (q_op op_mulU o_mul (q_op op_addU o_add q_int (qc G_l_fish (hr.mono (by decide)) hg (qa_cons (qv 0) (qa_cons (q_ix ix_seq o_ix (q_lst (qa_cons q_int (qa_cons q_int (qa_cons q_int qa_nil)))) (qc G_l_fish (hr.mono (by decide)) hg (qa_cons (qv 0) (qa_cons q_int qa_nil))) (fun _ _ => rfl)) qa_nil)))) (qv 1)) (qv 2)))
      (qss_one (qs_if (q_cmpT op_le o_cmp (qv 4) (q_op op_powW o_pow q_int q_int) (nomark _)) (qss_one (qs_asg (q_tup (qa_cons (qv 4) (qa_cons (qv 1) qa_nil))) (qg_tup (qgs_cons (qg_name 1 sc_l_turns_right.nd) (qgs_cons (qg_name 2 sc_l_turns_right.nd) qgs_nil))))) qss_nil))))
      (qss_cons (qs_asg (q_tup (qa_cons (qv 1) (qa_cons (qv 2) (qa_cons q_int (qa_cons q_int qa_nil))))) (qg_tup (qgs_cons (qg_name 5 sc_l_turns_right.nd) (qgs_cons (qg_name 6 sc_l_turns_right.nd) (qgs_cons (qg_name 7 sc_l_turns_right.nd) (qgs_cons (qg_name 8 sc_l_turns_right.nd) qgs_nil))))))
      (qss_cons (qs_while PassesOwn.never (q_cmpT op_gt o_cmp (q_op op_mod o_mod (qv 5) (qv 6)) q_int (nomark _)) (qss_cons (qs_asg (q_tup (qa_cons (qv 8) (qa_cons (q_op op_sub o_sub (qv 7) (q_op op_mulU o_mul (q_op op_fdivW o_fdiv (qv 5) (qv 6)) (qv 8))) qa_nil))) (qg_tup (qgs_cons (qg_name 7 sc_l_turns_right.nd) (qgs_cons (qg_name 8 sc_l_turns_right.nd) qgs_nil))))
      (qss_one (qs_par 5 6 sc_l_turns_right.nd (qa_cons (qv 6) (qa_cons (q_op op_mod o_mod (qv 5) (qv 6)) qa_nil))))))
      (qss_cons (qs_asg (q_tup (qa_cons (qc G_l_fish (hr.mono (by decide)) hg (qa_cons (qv 0) (qa_cons (q_op op_powW o_pow q_int q_int) qa_nil))) (qa_cons (qc G_l_fish (hr.mono (by decide)) hg (qa_cons (qv 0) (qa_cons (qv 1) qa_nil))) (qa_cons (q_op op_addU o_add q_int (qc G_l_fish (hr.mono (by decide)) hg (qa_cons (qv 0) (qa_cons (q_callB call_minU c_min B.min_ (by decide +kernel) (qa_cons q_int (qa_cons (qv 1) qa_nil))) qa_nil)))) qa_nil)))) (qg_tup (qgs_cons (qg_name 9 sc_l_turns_right.nd) (qgs_cons (qg_name 10 sc_l_turns_right.nd) (qgs_cons (qg_name 11 sc_l_turns_right.nd) qgs_nil)))))
      (qss_cons (qs_set 12 sc_l_turns_right.nd (q_callB call_minU c_min B.min_ (by decide +kernel) (qa_cons (q_lcH (own := [("_law_j", 13)]) fin_d sc_l_turns_right.nd (qi_range1 B.range_ (qv 11)) (blkOk_by (own := [("_law_j", 13)]) (N := N_l_turns_right) (sc := defScope s_l_turns_right) (by decide +kernel)) s (qg_name 13 sc_l_turns_right.nd) qts_nil (q_op op_mod o_mod (q_op op_mulU o_mul (q_op op_sub o_sub (q_op op_addU o_add (qv 10) (qv 13)) (qv 9)) (qv 8)) (qv 1)) (fun _ _ _ _ _ => (qg_name 13 sc_l_turns_right.nd)) (fun _ _ _ _ _ => qts_nil) (fun _ _ _ _ _ => (q_op op_mod o_mod (q_op op_mulU o_mul (q_op op_sub o_sub (q_op op_addU o_add (qv 10) (qv 13)) (qv 9)) (qv 8)) (qv 1))) (by decide)) qa_nil)))
      (qss_one (qs_ret (q_cmp (op_eqU hr.units) o_eqU (qc G_first_hit (hr.mono (by decide)) hg (qa_cons (qv 1) (qa_cons (qv 9) (qa_cons (qv 2) (qa_cons (qv 10) (qa_cons (qv 11) qa_nil)))))) (qv 12) (nomark _))))))))))⟩) (rd_l_turns_right)
theorem ok_l_wide_right (T : DefT K mg "_law_wide_right" s_l_wide_right ["_law_pond_here"]) (B : Bt mg) (G_l_fish : Got P w K mg base "_law_fish" 2 ["_law_pond_here", "_law_bound"] sp_l_fish) (G_first_hit : Got P w K mg base "first_hit" 4 ["cycle", "begin", "step", "first", "length"] sp_first_hit) : Got P w K mg base "_law_wide_right" 5 ["_law_pond_here"] sp_l_wide_right :=
  Got.mk T sc_l_wide_right (len_l_wide_right) (t_l_wide_right) (fun f cdv A outer s H hr hg => ⟨_,
      (qss_cons (qs_set 1 sc_l_wide_right.nd (q_op op_addU o_add q_int (qc G_l_fish (hr.mono (by decide)) hg (qa_cons (qv 0) (qa_cons (q_ix ix_seq o_ix (q_lst (qa_cons (q_op op_powW o_pow q_int q_int) (qa_cons (q_op op_sub o_sub (q_op op_powW o_pow q_int q_int) q_int) qa_nil))) (qc G_l_fish (hr.mono (by decide)) hg (qa_cons (qv 0) (qa_cons q_int qa_nil))) (fun _ _ => rfl)) qa_nil)))))
      (qss_cons (qs_asg (q_tup (qa_cons (qc G_l_fish (hr.mono (by decide)) hg (qa_cons (qv 0) (qa_cons (qv 1) qa_nil))) (qa_cons (qc G_l_fish (hr.mono (by decide)) hg (qa_cons (qv 0) (qa_cons (qv 1) qa_nil))) (qa_cons (qc G_l_fish (hr.mono (by decide)) hg (qa_cons (qv 0) (qa_cons (qv 1) qa_nil))) qa_nil)))) (qg_tup (qgs_cons (qg_name 2 sc_l_wide_right.nd) (qgs_cons (qg_name 3 sc_l_wide_right.nd) (qgs_cons (qg_name 4 sc_l_wide_right.nd) qgs_nil)))))
      (qss_cons (qs_set 5 sc_l_wide_right.nd (q_op op_addU o_add (q_op op_fdivW o_fdiv (qv 1) q_int) (qc G_l_fish (hr.mono (by decide)) hg (qa_cons (qv 0) (qa_cons (q_op op_sub o_sub (qv 1) (q_op op_fdivW o_fdiv (qv 1) q_int)) qa_nil)))))
      (qss_cons (qs_set 6 sc_l_wide_right.nd (qc G_first_hit (hr.mono (by decide)) hg (qa_cons (qv 1) (qa_cons (qv 2) (qa_cons (qv 3) (qa_cons (qv 4) (qa_cons (qv 5) qa_nil)))))))
      (qss_cons (qs_setLcH (own := [("_law_n", 8)]) 7 fin_d sc_l_wide_right.nd (sw_true rfl rfl rfl (by decide +kernel)) (qi_range1 B.range_ q_int) (blkOk_by (own := [("_law_n", 8)]) (N := N_l_wide_right) (sc := defScope s_l_wide_right) (by decide +kernel)) s (qg_name 8 sc_l_wide_right.nd) (qts_one (q_cmpT op_lt o_cmp (q_op op_mod o_mod (q_op op_sub o_sub (q_op op_addU o_add (qv 2) (q_op op_mulU o_mul (qv 8) (qv 3))) (qv 4)) (qv 1)) (qv 5) (nomark _))) (qv 8) (fun _ _ _ _ _ => (qg_name 8 sc_l_wide_right.nd)) (fun _ _ _ _ _ => (qts_one (q_cmpT op_lt o_cmp (q_op op_mod o_mod (q_op op_sub o_sub (q_op op_addU o_add (qv 2) (q_op op_mulU o_mul (qv 8) (qv 3))) (qv 4)) (qv 1)) (qv 5) (nomark _)))) (fun _ _ _ _ _ => (qv 8)) (by decide))
      (qss_cons (qs_if (q_cmpT (op_neU hr.units) o_neU (qv 7) (q_lst qa_nil) (nomark _)) (qss_one (qs_ret (q_cmp (op_eqU hr.units) o_eqU (qv 6) (q_ix ix_seq o_ix (qv 7) q_int (fun _ _ => rfl)) (nomark _)))) qss_nil)
      (qss_cons (qs_if (q_cmpT op_isU o_is (qv 6) q_non (nomark _)) (qss_one (qs_ret (q_cmp (op_neU hr.units) o_neU (q_lcH (own := [("_law_n", 8)]) fin_d sc_l_wide_right.nd (qi_range2 B.range_ q_int q_int) (blkOk_by (own := [("_law_n", 8)]) (N := N_l_wide_right) (sc := defScope s_l_wide_right) (by decide +kernel)) s (qg_name 8 sc_l_wide_right.nd) (qts_one (q_cmpT (op_eqU hr.units) o_eqU (q_op op_mod o_mod (q_op op_mulU o_mul (qv 8) (qv 3)) (qv 1)) q_int (nomark _))) (qv 8) (fun _ _ _ _ _ => (qg_name 8 sc_l_wide_right.nd)) (fun _ _ _ _ _ => (qts_one (q_cmpT (op_eqU hr.units) o_eqU (q_op op_mod o_mod (q_op op_mulU o_mul (qv 8) (qv 3)) (qv 1)) q_int (nomark _)))) (fun _ _ _ _ _ => (qv 8)) (by decide)) (q_lst qa_nil) (nomark _)))) qss_nil)
      (qss_one (qs_ret (q_and (q_cmp op_gt o_cmp (qv 6) q_int (nomark _)) (q_one (q_cmp op_lt o_cmp (q_op op_mod o_mod (q_op op_sub o_sub (q_op op_addU o_add (qv 2) (q_op op_mulU o_mul (qv 6) (qv 3))) (qv 4)) (qv 1)) (qv 5) (nomark _)))))))))))))⟩) (rd_l_wide_right)
theorem ok_law (T : DefT K mg "law" s_law ["_law_script"]) (B : Bt mg) (G_l_between_right : Got P w K mg base "_law_between_right" 5 ["_law_pond_here"] sp_l_between_right) (G_l_fish : Got P w K mg base "_law_fish" 2 ["_law_pond_here", "_law_bound"] sp_l_fish) (G_l_great_right : Got P w K mg base "_law_great_right" 5 ["_law_pond_here"] sp_l_great_right) (G_l_pond : Got P w K mg base "_law_pond" 1 ["_law_script", "_law_k"] sp_l_pond) (G_l_small_right : Got P w K mg base "_law_small_right" 5 ["_law_pond_here", "_law_span"] sp_l_small_right) (G_l_straight_right : Got P w K mg base "_law_straight_right" 5 ["_law_pond_here"] sp_l_straight_right) (G_l_turns_right : Got P w K mg base "_law_turns_right" 5 ["_law_pond_here"] sp_l_turns_right) (G_l_wide_right : Got P w K mg base "_law_wide_right" 5 ["_law_pond_here"] sp_l_wide_right) (G_first_hit : Got P w K mg base "first_hit" 4 ["cycle", "begin", "step", "first", "length"] sp_first_hit) : Got P w K mg base "law" 6 ["_law_script"] sp_law :=
  Got.mk T sc_law (len_law) (t_law) (fun f cdv A outer s H hr hg => ⟨_,
      (qss_cons (qs_for PassesOwn.never (qi_range1 B.range_ (q_callB call_maxU c_max B.max_ (by decide +kernel) (qa_cons q_int (qa_cons (q_callB call_minU c_min B.min_ (by decide +kernel) (qa_cons q_int (qa_cons (q_callB call_lenU c_len B.len_ PySem.boot_len (qa_cons (qv 0) qa_nil)) qa_nil))) qa_nil)))) (qg_name 1 sc_law.nd) (qss_cons (qs_set 2 sc_law.nd (qc G_l_pond (hr.mono (by decide)) hg (qa_cons (qv 0) (qa_cons (qv 1) qa_nil))))
      (qss_cons (qs_for PassesOwn.never (qi_range1 B.range_ q_int) (qg_name 3 sc_law.nd) (qss_one (qs_if (q_notT (q_val (qc G_l_small_right (hr.mono (by decide)) hg (qa_cons (qv 2) (qa_cons (q_ix ix_seq o_ix (q_lst (qa_cons (q_op op_addU o_add q_int (qc G_l_fish (hr.mono (by decide)) hg (qa_cons (qv 2) (qa_cons q_int qa_nil)))) (qa_cons q_int (qa_cons q_int (qa_cons q_int qa_nil))))) (qc G_l_fish (hr.mono (by decide)) hg (qa_cons (qv 2) (qa_cons q_int qa_nil))) (fun _ _ => rfl)) qa_nil))))) (qss_one (qs_ret q_bl)) qss_nil)))
      (qss_one (qs_for PassesOwn.never (qi_range1 B.range_ q_int) (qg_name 3 sc_law.nd) (qss_cons (qs_if (QW.t (q_orT (q_notT (q_val (qc G_l_great_right (hr.mono (by decide)) hg (qa_cons (qv 2) qa_nil)))) (q_orT (q_notT (q_val (qc G_l_turns_right (hr.mono (by decide)) hg (qa_cons (qv 2) qa_nil)))) (q_or1 (q_notT (q_val (qc G_l_straight_right (hr.mono (by decide)) hg (qa_cons (qv 2) qa_nil)))))))) (qss_one (qs_ret q_bl)) qss_nil)
      (qss_one (qs_if (QW.t (q_orT (q_notT (q_val (qc G_l_wide_right (hr.mono (by decide)) hg (qa_cons (qv 2) qa_nil)))) (q_or1 (q_notT (q_val (qc G_l_between_right (hr.mono (by decide)) hg (qa_cons (qv 2) qa_nil))))))) (qss_one (qs_ret q_bl)) qss_nil))))))))
      (qss_one (qs_ret (q_cmp (op_eqU hr.units) o_eqU (q_lst (qa_cons (qc G_first_hit (hr.mono (by decide)) hg (qa_cons q_int (qa_cons q_int (qa_cons q_int (qa_cons q_int (qa_cons q_int qa_nil)))))) (qa_cons (qc G_first_hit (hr.mono (by decide)) hg (qa_cons q_int (qa_cons q_int (qa_cons q_int (qa_cons q_int (qa_cons q_int qa_nil)))))) (qa_cons (qc G_first_hit (hr.mono (by decide)) hg (qa_cons q_int (qa_cons q_int (qa_cons q_int (qa_cons q_int (qa_cons q_int qa_nil)))))) qa_nil)))) (q_lst (qa_cons q_int (qa_cons q_non (qa_cons q_int qa_nil)))) (nomark _)))))⟩) (rd_law)
theorem all_G {P : Program} {w : World} {K : PySem.W.Frag} {mg : Str → Option Value} {base : Heap} 
    (c_MOST_CYCLE : ∃ t, mg "MOST_CYCLE" = some (.int 1000000000000000000000000000000 t)) (B : Bt mg)
    (T_is_int : DefT K mg "is_int" s_is_int ["value"])
    (T_in_range : DefT K mg "in_range" s_in_range ["value", "low", "high"])
    (T_require_cycle : DefT K mg "require_cycle" s_require_cycle ["value"])
    (T_require_number : DefT K mg "require_number" s_require_number ["value"])
    (T_least_multiple : DefT K mg "least_multiple" s_least_multiple ["step", "modulus", "low", "high"])
    (T_hit_from : DefT K mg "hit_from" s_hit_from ["cycle", "begin", "step", "first", "length"])
    (T_first_hit : DefT K mg "first_hit" s_first_hit ["cycle", "begin", "step", "first", "length"])
    (T_l_pond : DefT K mg "_law_pond" s_l_pond ["_law_script", "_law_k"])
    (T_l_fish : DefT K mg "_law_fish" s_l_fish ["_law_pond_here", "_law_bound"])
    (T_l_least : DefT K mg "_law_least" s_l_least ["_law_span", "_law_begin", "_law_step", "_law_place", "_law_size"])
    (T_l_small_right : DefT K mg "_law_small_right" s_l_small_right ["_law_pond_here", "_law_span"])
    (T_l_great_right : DefT K mg "_law_great_right" s_l_great_right ["_law_pond_here"])
    (T_l_turns_right : DefT K mg "_law_turns_right" s_l_turns_right ["_law_pond_here"])
    (T_l_wide_right : DefT K mg "_law_wide_right" s_l_wide_right ["_law_pond_here"])
    (T_l_between_right : DefT K mg "_law_between_right" s_l_between_right ["_law_pond_here"])
    (T_l_straight_right : DefT K mg "_law_straight_right" s_l_straight_right ["_law_pond_here"])
    (T_law : DefT K mg "law" s_law ["_law_script"])
    : Got P w K mg base "law" 6 ["_law_script"] sp_law := by
  have G_l_fish_1 := ok_l_fish_1 (P := P) (w := w) (base := base) T_l_fish B 
  have G_l_fish := ok_l_fish (P := P) (w := w) (base := base) T_l_fish B G_l_fish_1
  have G_least_multiple := ok_least_multiple (P := P) (w := w) (base := base) T_least_multiple B 
  have G_hit_from := ok_hit_from (P := P) (w := w) (base := base) T_hit_from B G_least_multiple
  have G_is_int := ok_is_int (P := P) (w := w) (base := base) T_is_int B 
  have G_in_range := ok_in_range (P := P) (w := w) (base := base) T_in_range B G_is_int
  have G_require_cycle := ok_require_cycle (P := P) (w := w) (base := base) T_require_cycle B c_MOST_CYCLE G_in_range
  have G_require_number := ok_require_number (P := P) (w := w) (base := base) T_require_number B G_is_int
  have G_first_hit := ok_first_hit (P := P) (w := w) (base := base) T_first_hit B G_hit_from G_in_range G_require_cycle G_require_number
  have G_l_between_right := ok_l_between_right (P := P) (w := w) (base := base) T_l_between_right B G_l_fish G_first_hit
  have G_l_great_right := ok_l_great_right (P := P) (w := w) (base := base) T_l_great_right B G_l_fish G_first_hit
  have G_l_pond := ok_l_pond (P := P) (w := w) (base := base) T_l_pond B 
  have G_l_least := ok_l_least (P := P) (w := w) (base := base) T_l_least B 
  have G_l_small_right := ok_l_small_right (P := P) (w := w) (base := base) T_l_small_right B G_l_fish G_l_least G_first_hit
  have G_l_straight_right := ok_l_straight_right (P := P) (w := w) (base := base) T_l_straight_right B G_l_fish G_first_hit
  have G_l_turns_right := ok_l_turns_right (P := P) (w := w) (base := base) T_l_turns_right B G_l_fish G_first_hit
  have G_l_wide_right := ok_l_wide_right (P := P) (w := w) (base := base) T_l_wide_right B G_l_fish G_first_hit
  have G_law := ok_law (P := P) (w := w) (base := base) T_law B G_l_between_right G_l_fish G_l_great_right G_l_pond G_l_small_right G_l_straight_right G_l_turns_right G_l_wide_right G_first_hit
  exact G_law
end K04
open PySem PySem.W PyProof.Rows
set_option maxHeartbeats 0 in
theorem PySem.Challenge.cw_greenroads_k04_first_hits_holds : PySem.Challenge.rw_greenroads_k04_first_hits.Holds := by
  w_on; o_law; k_head; (case hw => w_witness2)
  k_fill
  refine DL.walk_G (l := PySem.Challenge.rw_greenroads_k04_first_hits) (n := 63) (k := 6) (x := "_law_script") (sp := K04.sp_law) rfl (by decide) rfl ⟨rfl, by decide, by decide⟩ (fun w h Y => PySem.W.kIn_of Y) ?F K04.law_true
  case F =>
    intro w mg h KX G base _ _
    refine' K04.all_G  (DL.mg_int KX G ?c0) ⟨PySem.W.mg_none_of KX G ?b0, PySem.W.mg_none_of KX G ?b1, PySem.W.mg_none_of KX G ?b2, PySem.W.mg_none_of KX G ?b3, PySem.W.mg_none_of KX G ?b4, PySem.W.mg_none_of KX G ?b5, PySem.W.mg_none_of KX G ?b6, PySem.W.mg_none_of KX G ?b7⟩  (DL.defT_mk (st := K04.s_is_int) KX G ?a0 ?l0 ?d0 ?k0 (fun _ _ _ _ _ _ us hl => match us, hl with | [_], _ => rfl))
      (DL.defT_mk (st := K04.s_in_range) KX G ?a1 ?l1 ?d1 ?k1 (fun _ _ _ _ _ _ us hl => match us, hl with | [_, _, _], _ => rfl))
      (DL.defT_mk (st := K04.s_require_cycle) KX G ?a2 ?l2 ?d2 ?k2 (fun _ _ _ _ _ _ us hl => match us, hl with | [_], _ => rfl))
      (DL.defT_mk (st := K04.s_require_number) KX G ?a3 ?l3 ?d3 ?k3 (fun _ _ _ _ _ _ us hl => match us, hl with | [_], _ => rfl))
      (DL.defT_mk (st := K04.s_least_multiple) KX G ?a4 ?l4 ?d4 ?k4 (fun _ _ _ _ _ _ us hl => match us, hl with | [_, _, _, _], _ => rfl))
      (DL.defT_mk (st := K04.s_hit_from) KX G ?a5 ?l5 ?d5 ?k5 (fun _ _ _ _ _ _ us hl => match us, hl with | [_, _, _, _, _], _ => rfl))
      (DL.defT_mk (st := K04.s_first_hit) KX G ?a6 ?l6 ?d6 ?k6 (fun _ _ _ _ _ _ us hl => match us, hl with | [_, _, _, _, _], _ => rfl))
      (DL.defT_mk (st := K04.s_l_pond) KX G ?a7 ?l7 ?d7 ?k7 (fun _ _ _ _ _ _ us hl => match us, hl with | [_, _], _ => rfl))
      (DL.defT_mk (st := K04.s_l_fish) KX G ?a8 ?l8 ?d8 ?k8 (fun _ _ _ _ _ _ us hl => match us, hl with | [_, _], _ => rfl))
      (DL.defT_mk (st := K04.s_l_least) KX G ?a9 ?l9 ?d9 ?k9 (fun _ _ _ _ _ _ us hl => match us, hl with | [_, _, _, _, _], _ => rfl))
      (DL.defT_mk (st := K04.s_l_small_right) KX G ?a10 ?l10 ?d10 ?k10 (fun _ _ _ _ _ _ us hl => match us, hl with | [_, _], _ => rfl))
      (DL.defT_mk (st := K04.s_l_great_right) KX G ?a11 ?l11 ?d11 ?k11 (fun _ _ _ _ _ _ us hl => match us, hl with | [_], _ => rfl))
      (DL.defT_mk (st := K04.s_l_turns_right) KX G ?a12 ?l12 ?d12 ?k12 (fun _ _ _ _ _ _ us hl => match us, hl with | [_], _ => rfl))
      (DL.defT_mk (st := K04.s_l_wide_right) KX G ?a13 ?l13 ?d13 ?k13 (fun _ _ _ _ _ _ us hl => match us, hl with | [_], _ => rfl))
      (DL.defT_mk (st := K04.s_l_between_right) KX G ?a14 ?l14 ?d14 ?k14 (fun _ _ _ _ _ _ us hl => match us, hl with | [_], _ => rfl))
      (DL.defT_mk (st := K04.s_l_straight_right) KX G ?a15 ?l15 ?d15 ?k15 (fun _ _ _ _ _ _ us hl => match us, hl with | [_], _ => rfl))
      (DL.defT_mk (st := K04.s_law) KX G ?a16 ?l16 ?d16 ?k16 (fun _ _ _ _ _ _ us hl => match us, hl with | [_], _ => rfl))
    (case c0 => k_is)
    (case b0 => k_is)
    (case b1 => k_is)
    (case b2 => k_is)
    (case b3 => k_is)
    (case b4 => k_is)
    (case b5 => k_is)
    (case b6 => k_is)
    (case b7 => k_is)
    (case a0 => k_is)
    (case l0 => k_is)
    (case d0 => k_is)
    (case k0 => k_is)
    (case a1 => k_is)
    (case l1 => k_is)
    (case d1 => k_is)
    (case k1 => k_is)
    (case a2 => k_is)
    (case l2 => k_is)
    (case d2 => k_is)
    (case k2 => k_is)
    (case a3 => k_is)
    (case l3 => k_is)
    (case d3 => k_is)
    (case k3 => k_is)
    (case a4 => k_is)
    (case l4 => k_is)
    (case d4 => k_is)
    (case k4 => k_is)
    (case a5 => k_is)
    (case l5 => k_is)
    (case d5 => k_is)
    (case k5 => k_is)
    (case a6 => k_is)
    (case l6 => k_is)
    (case d6 => k_is)
    (case k6 => k_is)
    (case a7 => k_is)
    (case l7 => k_is)
    (case d7 => k_is)
    (case k7 => k_is)
    (case a8 => k_is)
    (case l8 => k_is)
    (case d8 => k_is)
    (case k8 => k_is)
    (case a9 => k_is)
    (case l9 => k_is)
    (case d9 => k_is)
    (case k9 => k_is)
    (case a10 => k_is)
    (case l10 => k_is)
    (case d10 => k_is)
    (case k10 => k_is)
    (case a11 => k_is)
    (case l11 => k_is)
    (case d11 => k_is)
    (case k11 => k_is)
    (case a12 => k_is)
    (case l12 => k_is)
    (case d12 => k_is)
    (case k12 => k_is)
    (case a13 => k_is)
    (case l13 => k_is)
    (case d13 => k_is)
    (case k13 => k_is)
    (case a14 => k_is)
    (case l14 => k_is)
    (case d14 => k_is)
    (case k14 => k_is)
    (case a15 => k_is)
    (case l15 => k_is)
    (case d15 => k_is)
    (case k15 => k_is)
    (case a16 => k_is)
    (case l16 => k_is)
    (case d16 => k_is)
    (case k16 => k_is)
