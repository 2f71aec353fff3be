import PyProof.Rows.All
import Wide.All
import OpenK.AllK
import Wide.FinOn
import HandS.ForMost
import HandS.Wide
import HandS.WideBits
import HandS.TupAny
import HandS.TupMul
import HandS.IsInst
import HandS.Style
import HandS.Flow
import HandS.SortRule
import HandS.SortInts
import PySem.Challenge.RW_greenroads_k51_records_that_fit
set_option Elab.async false
set_option linter.all false
set_option maxRecDepth 100000
set_option maxHeartbeats 2000000
/-! DL: readings over plain data. D: data; Z: data or a numbered cell (a list or dict of the def's own that changes). -/
namespace DL
open PySem L2

inductive D where
  | non | bl (b : Bool) | int (i : Int) | str (x : Str)
  | tup (ds : List D) | lst (ds : List D) | dic (kvs : List (Key × D)) | scr (ns : List Int) | ty (n : String) | obj (a : Addr)
inductive Z where
  | d (x : D) | c (n : Nat)
abbrev Cs := List D
abbrev En := List (Option Z)
abbrev DE := En → Cs → (Z → Cs → Prop) → Prop
abbrev DT := En → Cs → (Bool → Cs → Prop) → Prop
abbrev DA := En → Cs → (List Z → Cs → Prop) → Prop
structure DEnds where
  nx : En → Cs → Prop
  rt : Z → Cs → Prop
  bk : En → Cs → Prop := fun _ _ => False
  ct : En → Cs → Prop := fun _ _ => False
abbrev DS := DEnds → En → Cs → Prop
abbrev DG := Z → En → Cs → (En → Cs → Prop) → Prop
abbrev DGs := List D → En → Cs → (En → Cs → Prop) → Prop
abbrev DI := En → Cs → (List D → (Cs → Prop) → Cs → Prop) → Prop
abbrev DSpec := List Z → Cs → (Z → Cs → Prop) → Prop

mutual
/-- the value v stands for the data, by the objects of S, which never change -/
def Is (K : PySem.W.Frag) (S : Hp) : D → V → Prop
  | .non, v => v = .non
  | .bl b, v => v = .bl b
  | .int i, v => v = .int i
  | .str x, v => v = .str x
  | .tup ds, v => ∃ a vs, v = .ref a ∧ SqT K S a vs ∧ IsL K S ds vs
  | .lst ds, v => ∃ a vs, v = .ref a ∧ S a = some (.lst vs) ∧ IsL K S ds vs
  | .dic kvs, v => ∃ a kv, v = .ref a ∧ S a = some (.dK kv) ∧ IsK K S kvs kv
  | .scr ns, v => ∃ a, v = .ref a ∧ SqL K S a (ns.map V.int)
  | .ty n, v => v = .ty n
  | .obj a, v => v = .ref a
def IsL (K : PySem.W.Frag) (S : Hp) : List D → List V → Prop
  | [], vs => vs = []
  | d :: ds, vs => ∃ v r, vs = v :: r ∧ Is K S d v ∧ IsL K S ds r
def IsK (K : PySem.W.Frag) (S : Hp) : List (Key × D) → List (Key × V) → Prop
  | [], l => l = []
  | kd :: r, l => ∃ v l', l = (kd.1, v) :: l' ∧ Is K S kd.2 v ∧ IsK K S r l'
end

/-- all of S stands in H -/
def Sub (S H : Hp) : Prop := ∀ a o, S a = some o → H a = some o
theorem Sub.refl (S : Hp) : Sub S S := fun _ _ h => h
theorem Sub.trans {S T U : Hp} (a : Sub S T) (b : Sub T U) : Sub S U := fun x o h => b x o (a x o h)
theorem Sub.new {S : Hp} {p : Addr} {o : HO} (h : S p = none) : Sub S (upd S p o) := fun a u e => by
  rw [upd_ne (ne_of_none e h)]
  exact e
theorem Sub.both {S H : Hp} {p : Addr} {o : HO} (h : Sub S H) : Sub (upd S p o) (upd H p o) := fun a u e => by
  by_cases ha : a = p
  · subst ha
    rw [upd_same] at e ⊢
    exact e
  · rw [upd_ne ha] at e ⊢
    exact h a u e
theorem Sub.free {S H : Hp} {p : Addr} (h : Sub S H) (n : H p = none) : S p = none := by
  cases q : S p with
  | none => rfl
  | some o => rw [h p o q] at n; cases n
theorem Sub.other {S H : Hp} {p : Addr} {o : HO} (h : Sub S H) (n : S p = none) : Sub S (upd H p o) := fun a u e => by
  rw [upd_ne (ne_of_none e n)]
  exact h a u e
theorem Sub.rd {S H : Hp} {a : Addr} {u : HO} (e : Sub S H) (h : Rd S a u) : Rd H a u := by
  rcases h with h | ⟨o, h⟩
  · exact Or.inl (e a _ h)
  · exact Or.inr ⟨o, e a _ h⟩
theorem Sub.l {K : PySem.W.Frag} {S H : Hp} {a : Addr} {xs : List V} (e : Sub S H) (h : SqL K S a xs) : SqL K H a xs := by
  rcases h with h | h
  · exact Or.inl (e.rd h)
  · exact Or.inr h
theorem Sub.t {K : PySem.W.Frag} {S H : Hp} {a : Addr} {xs : List V} (e : Sub S H) (h : SqT K S a xs) : SqT K H a xs := by
  rcases h with h | h
  · exact Or.inl (e.rd h)
  · exact Or.inr h

mutual
theorem Is.mono {K : PySem.W.Frag} {S T : Hp} (e : Sub S T) : ∀ (d : D) (v : V), Is K S d v → Is K T d v
  | .non, _, h => h
  | .bl _, _, h => h
  | .int _, _, h => h
  | .str _, _, h => h
  | .tup ds, v, h => by
    obtain ⟨a, vs, h1, h2, h3⟩ := h
    exact ⟨a, vs, h1, e.t h2, IsL.mono e ds vs h3⟩
  | .lst ds, v, h => by
    obtain ⟨a, vs, h1, h2, h3⟩ := h
    exact ⟨a, vs, h1, e _ _ h2, IsL.mono e ds vs h3⟩
  | .dic kvs, v, h => by
    obtain ⟨a, kv, h1, h2, h3⟩ := h
    exact ⟨a, kv, h1, e _ _ h2, IsK.mono e kvs kv h3⟩
  | .scr ns, v, h => by
    obtain ⟨a, h1, h2⟩ := h
    exact ⟨a, h1, e.l h2⟩
  | .ty _, _, h => h
  | .obj _, _, h => h
theorem IsL.mono {K : PySem.W.Frag} {S T : Hp} (e : Sub S T) : ∀ (ds : List D) (vs : List V), IsL K S ds vs → IsL K T ds vs
  | [], _, h => h
  | d :: ds, vs, h => by
    obtain ⟨v, r, h1, h2, h3⟩ := h
    exact ⟨v, r, h1, Is.mono e d v h2, IsL.mono e ds r h3⟩
theorem IsK.mono {K : PySem.W.Frag} {S T : Hp} (e : Sub S T) : ∀ (kvs : List (Key × D)) (l : List (Key × V)), IsK K S kvs l → IsK K T kvs l
  | [], _, h => h
  | kd :: r, l, h => by
    obtain ⟨v, l', h1, h2, h3⟩ := h
    exact ⟨v, l', h1, Is.mono e kd.2 v h2, IsK.mono e r l' h3⟩
end

/-- the object itself read in H, what lies within by S -/
def Sh (K : PySem.W.Frag) (S H : Hp) : D → V → Prop
  | .lst ds, v => ∃ a vs, v = .ref a ∧ H a = some (.lst vs) ∧ IsL K S ds vs
  | .dic kvs, v => ∃ a kv, v = .ref a ∧ H a = some (.dK kv) ∧ IsK K S kvs kv
  | d, v => Is K S d v
theorem Is.sh {K : PySem.W.Frag} {S H : Hp} (e : Sub S H) : ∀ {d : D} {v : V}, Is K S d v → Sh K S H d v
  | .non, _, h => h
  | .bl _, _, h => h
  | .int _, _, h => h
  | .str _, _, h => h
  | .tup _, _, h => h
  | .scr _, _, h => h
  | .ty _, _, h => h
  | .obj _, _, h => h
  | .lst ds, v, h => by
    obtain ⟨a, vs, h1, h2, h3⟩ := h
    exact ⟨a, vs, h1, e _ _ h2, h3⟩
  | .dic kvs, v, h => by
    obtain ⟨a, kv, h1, h2, h3⟩ := h
    exact ⟨a, kv, h1, e _ _ h2, h3⟩

/-- a cell at a: a list or dict that this def (or a caller) may change -/
def CelAt (K : PySem.W.Frag) (S H : Hp) (a : Addr) : D → Prop
  | .lst ds => S a = none ∧ ∃ vs, H a = some (.lst vs) ∧ IsL K S ds vs
  | .dic kvs => S a = none ∧ ∃ kv, H a = some (.dK kv) ∧ IsK K S kvs kv
  | _ => False
structure Rep (K : PySem.W.Frag) (S H : Hp) (as : List Addr) (cs : Cs) : Prop where
  sub : Sub S H
  len : as.length = cs.length
  nod : as.Nodup
  cel : ∀ (n : Nat) (a : Addr) (c : D), as[n]? = some a → cs[n]? = some c → CelAt K S H a c
  liv : ∀ a ∈ as, H a ≠ none
structure Ext (S : Hp) (as : List Addr) (S' : Hp) (as' : List Addr) : Prop where
  sub : Sub S S'
  pre : ∃ more, as' = as ++ more
theorem Ext.refl {S : Hp} {as : List Addr} : Ext S as S as := ⟨Sub.refl S, [], (List.append_nil as).symm⟩
theorem Ext.trans {S T U : Hp} {as bs cs : List Addr} (a : Ext S as T bs) (b : Ext T bs U cs) : Ext S as U cs := by
  obtain ⟨m1, e1⟩ := a.pre
  obtain ⟨m2, e2⟩ := b.pre
  exact ⟨a.sub.trans b.sub, m1 ++ m2, by rw [e2, e1, List.append_assoc]⟩
theorem Ext.of {S S' : Hp} {as : List Addr} (h : Sub S S') : Ext S as S' as := ⟨h, [], (List.append_nil as).symm⟩
theorem Ext.get {S S' : Hp} {as as' : List Addr} (h : Ext S as S' as') {n : Nat} {a : Addr} (e : as[n]? = some a) : as'[n]? = some a := by
  obtain ⟨m, rfl⟩ := h.pre
  rw [List.getElem?_append_left (List.getElem?_eq_some_iff.mp e).1]
  exact e

def VZ (K : PySem.W.Frag) (S : Hp) (as : List Addr) : Z → V → Prop
  | .d x, v => Is K S x v
  | .c n, v => ∃ a, as[n]? = some a ∧ v = .ref a
theorem VZ.mono {K : PySem.W.Frag} {S S' : Hp} {as as' : List Addr} (e : Ext S as S' as') : ∀ {z : Z} {v : V}, VZ K S as z v → VZ K S' as' z v
  | .d _, _, h => Is.mono e.sub _ _ h
  | .c _, _, ⟨a, h1, h2⟩ => ⟨a, e.get h1, h2⟩
def VZL (K : PySem.W.Frag) (S : Hp) (as : List Addr) : List Z → List V → Prop
  | [], vs => vs = []
  | z :: zs, vs => ∃ v r, vs = v :: r ∧ VZ K S as z v ∧ VZL K S as zs r
theorem VZL.mono {K : PySem.W.Frag} {S S' : Hp} {as as' : List Addr} (e : Ext S as S' as') : ∀ {zs : List Z} {vs : List V}, VZL K S as zs vs → VZL K S' as' zs vs
  | [], _, h => h
  | _ :: _, _, ⟨v, r, h1, h2, h3⟩ => ⟨v, r, h1, h2.mono e, VZL.mono e h3⟩
theorem VZL.len {K : PySem.W.Frag} {S : Hp} {as : List Addr} : ∀ {zs : List Z} {vs : List V}, VZL K S as zs vs → vs.length = zs.length
  | [], _, h => by rw [h]; rfl
  | _ :: zs, _, ⟨v, r, h1, h2, h3⟩ => by rw [h1, List.length_cons, List.length_cons, VZL.len h3]

/-- what a Z holds -/
def look (cs : Cs) : Z → Option D
  | .d x => some x
  | .c n => cs[n]?
theorem look_sh {K : PySem.W.Frag} {S H : Hp} {as : List Addr} {cs : Cs} (r : Rep K S H as cs) : ∀ {z : Z} {v : V} {d : D}, VZ K S as z v → look cs z = some d → Sh K S H d v
  | .d x, v, d, h, e => by
    have e' : x = d := Option.some.inj e
    subst e'
    exact h.sh r.sub
  | .c n, v, d, ⟨a, h1, h2⟩, e => by
    have q := r.cel n a d h1 e
    subst h2
    cases d with
    | lst ds =>
      obtain ⟨_, vs, h3, h4⟩ := q
      exact ⟨a, vs, rfl, h3, h4⟩
    | dic kvs =>
      obtain ⟨_, kv, h3, h4⟩ := q
      exact ⟨a, kv, rfl, h3, h4⟩
    | scr _ => exact q.elim
    | ty _ => exact q.elim
    | obj _ => exact q.elim
    | non => exact q.elim
    | bl _ => exact q.elim
    | int _ => exact q.elim
    | str _ => exact q.elim
    | tup _ => exact q.elim

/-- the slots -/
structure EnvOk (K : PySem.W.Frag) (S : Hp) (as : List Addr) (en : En) (σ : L2.St) : Prop where
  len : σ.length = en.length
  at_ : ∀ (i : Nat) (z : Z), en[i]? = some (some z) → ∃ v, σ[i]? = some (some v) ∧ VZ K S as z v
theorem EnvOk.mono {K : PySem.W.Frag} {S S' : Hp} {as as' : List Addr} {en : En} {σ : L2.St} (h : EnvOk K S as en σ) (e : Ext S as S' as') : EnvOk K S' as' en σ :=
  ⟨h.len, fun i z q => let ⟨v, h1, h2⟩ := h.at_ i z q; ⟨v, h1, h2.mono e⟩⟩
theorem EnvOk.set {K : PySem.W.Frag} {S : Hp} {as : List Addr} {en : En} {σ : L2.St} (h : EnvOk K S as en σ) {z : Z} {v : V} (q : VZ K S as z v) (i : Nat) : EnvOk K S as (en.set i (some z)) (σ.set i (some v)) := by
  refine ⟨by rw [List.length_set, List.length_set]; exact h.len, fun j y e => ?_⟩
  by_cases hj : i = j
  · subst hj
    by_cases hi : i < en.length
    · rw [List.getElem?_set_self hi] at e
      cases e
      exact ⟨v, List.getElem?_set_self (by rw [h.len]; exact hi), q⟩
    · rw [List.getElem?_eq_none (by rw [List.length_set]; omega)] at e
      cases e
  · rw [List.getElem?_set_ne hj] at e ⊢
    exact h.at_ j y e
theorem EnvOk.forget {K : PySem.W.Frag} {S : Hp} {as : List Addr} {en : En} {σ : L2.St} (h : EnvOk K S as en σ) (i : Nat) : EnvOk K S as (en.set i none) (σ.set i none) := by
  refine ⟨by rw [List.length_set, List.length_set]; exact h.len, fun j y e => ?_⟩
  by_cases hj : i = j
  · subst hj
    by_cases hi : i < en.length
    · rw [List.getElem?_set_self hi] at e
      cases e
    · rw [List.getElem?_eq_none (by rw [List.length_set]; omega)] at e
      cases e
  · rw [List.getElem?_set_ne hj] at e ⊢
    exact h.at_ j y e
/-- slots forgotten -/
def wipeD (en : En) : List Nat → En
  | [] => en
  | i :: is => (wipeD en is).set i none
theorem EnvOk.wipe {K : PySem.W.Frag} {S : Hp} {as : List Addr} {en : En} {σ : L2.St} (h : EnvOk K S as en σ) : ∀ is : List Nat, EnvOk K S as (wipeD en is) (L2.wipe σ is)
  | [] => h
  | i :: is => (EnvOk.wipe h is).forget i

/-! ### the heap's steps -/
section
variable {K : PySem.W.Frag} {S H : Hp} {as : List Addr} {cs : Cs}
theorem CelAt.mono {S' H' : Hp} {a : Addr} (e : Sub S S') (n : S a = none → S' a = none) (k : H' a = H a) : ∀ {c : D}, CelAt K S H a c → CelAt K S' H' a c
  | .lst ds, ⟨h1, vs, h2, h3⟩ => ⟨n h1, vs, k.trans h2, IsL.mono e _ _ h3⟩
  | .dic kvs, ⟨h1, kv, h2, h3⟩ => ⟨n h1, kv, k.trans h2, IsK.mono e _ _ h3⟩
  | .scr _, h => h.elim
  | .ty _, h => h.elim
  | .obj _, h => h.elim
  | .non, h => h.elim
  | .bl _, h => h.elim
  | .int _, h => h.elim
  | .str _, h => h.elim
  | .tup _, h => h.elim
/-- a new object that never changes -/
theorem Rep.lay (r : Rep K S H as cs) {p : Addr} (hp : H p = none) (o : HO) : Rep K (upd S p o) (upd H p o) as cs := by
  refine ⟨r.sub.both, r.len, r.nod, fun n a c e1 e2 => ?_, fun a ha => ?_⟩
  · have ne : a ≠ p := fun z => by
      subst z
      exact r.liv a (List.mem_of_getElem? e1) hp
    exact CelAt.mono (Sub.new (r.sub.free hp)) (fun q => by rw [upd_ne ne]; exact q) (upd_ne ne) (r.cel n a c e1 e2)
  · by_cases e : a = p
    · subst e; rw [upd_same]; exact fun z => nomatch z
    · rw [upd_ne e]; exact r.liv a ha
theorem Rep.ext (r : Rep K S H as cs) {p : Addr} (hp : H p = none) (o : HO) : Ext S as (upd S p o) as := Ext.of (Sub.new (r.sub.free hp))
/-- a new cell -/
theorem Rep.cell (r : Rep K S H as cs) {p : Addr} (hp : H p = none) {o : HO} {c : D} (h : CelAt K S (upd H p o) p c) : Rep K S (upd H p o) (as ++ [p]) (cs ++ [c]) := by
  have hS := r.sub.free hp
  have np : p ∉ as := fun z => r.liv p z hp
  refine ⟨r.sub.other hS, by rw [List.length_append, List.length_append, r.len]; rfl, ?_, fun n a d e1 e2 => ?_, fun a ha => ?_⟩
  · exact List.nodup_append.mpr ⟨r.nod, by simp, fun x hx y hy => by
      have hy' : y = p := by simpa using hy
      subst hy'
      exact fun z => np (z ▸ hx)⟩
  · by_cases hn : n < as.length
    · rw [List.getElem?_append_left hn] at e1
      rw [List.getElem?_append_left (by rw [← r.len]; exact hn)] at e2
      have ne : a ≠ p := fun z => np (z ▸ List.mem_of_getElem? e1)
      exact CelAt.mono (Sub.refl S) (fun q => q) (upd_ne ne) (r.cel n a d e1 e2)
    · rw [List.getElem?_append_right (by omega)] at e1
      rw [List.getElem?_append_right (by rw [← r.len]; omega)] at e2
      rw [← r.len] at e2
      have hz : n - as.length = 0 := by
        have := (List.getElem?_eq_some_iff.mp e1).1
        simp at this
        omega
      rw [hz] at e1 e2
      cases e1
      cases e2
      exact h
  · rcases List.mem_append.mp ha with ha | ha
    · by_cases e : a = p
      · subst e; rw [upd_same]; exact fun z => nomatch z
      · rw [upd_ne e]; exact r.liv a ha
    · have : a = p := by simpa using ha
      subst this
      rw [upd_same]
      exact fun z => nomatch z
/-- a cell is written -/
theorem Rep.put (r : Rep K S H as cs) {n : Nat} {a : Addr} (hn : as[n]? = some a) {o : HO} {c : D} (h : CelAt K S (upd H a o) a c) (hS : S a = none) : Rep K S (upd H a o) as (cs.set n c) := by
  refine ⟨r.sub.other hS, by rw [List.length_set]; exact r.len, r.nod, fun m b d e1 e2 => ?_, fun b hb => ?_⟩
  · by_cases hm : n = m
    · subst hm
      rw [hn] at e1; cases e1
      have hl : n < cs.length := by rw [← r.len]; exact (List.getElem?_eq_some_iff.mp hn).1
      rw [List.getElem?_set_self hl] at e2; cases e2
      exact h
    · rw [List.getElem?_set_ne hm] at e2
      have ne : b ≠ a := fun z => by
        subst z
        exact hm (nd_ix r.nod hn e1)
      exact CelAt.mono (Sub.refl S) (fun q => q) (upd_ne ne) (r.cel m b d e1 e2)
  · by_cases e : b = a
    · subst e; rw [upd_same]; exact fun z => nomatch z
    · rw [upd_ne e]; exact r.liv b hb
/-- the last cells forgotten -/
theorem Rep.take (r : Rep K S H as cs) (n : Nat) : Rep K S H (as.take n) (cs.take n) := by
  refine ⟨r.sub, by rw [List.length_take, List.length_take, r.len], r.nod.sublist (List.take_sublist _ _), fun m b d e1 e2 => ?_, fun b hb => r.liv b (List.mem_of_mem_take hb)⟩
  rw [List.getElem?_take] at e1 e2
  split at e1
  · rename_i hm
    rw [if_pos hm] at e2
    exact r.cel m b d e1 e2
  · cases e1
theorem Ext.take {S S' : Hp} {as as' : List Addr} (e : Ext S as S' as') : Ext S as S' (as'.take as.length) := by
  obtain ⟨m, rfl⟩ := e.pre
  exact ⟨e.sub, [], by rw [List.take_left, List.append_nil]⟩
end

/-! ### lists of data -/
section
variable {K : PySem.W.Frag} {S : Hp}
theorem IsL.len : ∀ {ds : List D} {vs : List V}, IsL K S ds vs → vs.length = ds.length
  | [], _, h => by rw [IsL] at h; rw [h]; rfl
  | _ :: _, _, h => by
    obtain ⟨v, r, h1, h2, h3⟩ := h
    rw [h1, List.length_cons, List.length_cons, IsL.len h3]
theorem IsL.get : ∀ {ds : List D} {vs : List V} {i : Nat} {d : D}, IsL K S ds vs → ds[i]? = some d → ∃ v, vs[i]? = some v ∧ Is K S d v
  | [], _, _, _, _, e => by simp at e
  | _ :: _, _, 0, _, h, e => by
    obtain ⟨v, r, h1, h2, h3⟩ := h
    have e' := Option.some.inj e
    subst e' h1
    exact ⟨v, rfl, h2⟩
  | _ :: _, _, i + 1, _, h, e => by
    obtain ⟨v, r, h1, h2, h3⟩ := h
    subst h1
    exact IsL.get (i := i) h3 e
theorem IsL.back : ∀ {ds : List D} {vs : List V} {i : Nat} {v : V}, IsL K S ds vs → vs[i]? = some v → ∃ d, ds[i]? = some d ∧ Is K S d v
  | [], _, _, _, h, e => by rw [IsL] at h; rw [h] at e; simp at e
  | d :: _, _, 0, _, h, e => by
    obtain ⟨v, r, h1, h2, h3⟩ := h
    subst h1
    have e' := Option.some.inj e
    subst e'
    exact ⟨d, rfl, h2⟩
  | _ :: _, _, i + 1, _, h, e => by
    obtain ⟨v, r, h1, h2, h3⟩ := h
    subst h1
    exact IsL.back (i := i) h3 e
theorem IsL.append : ∀ {ds es : List D} {vs us : List V}, IsL K S ds vs → IsL K S es us → IsL K S (ds ++ es) (vs ++ us)
  | [], _, _, _, h, g => by rw [IsL] at h; rw [h]; exact g
  | _ :: _, _, _, _, h, g => by
    obtain ⟨v, r, h1, h2, h3⟩ := h
    subst h1
    exact ⟨v, _, rfl, h2, IsL.append h3 g⟩
theorem IsL.set : ∀ {ds : List D} {vs : List V} {i : Nat} {d : D} {v : V}, IsL K S ds vs → Is K S d v → IsL K S (ds.set i d) (vs.set i v)
  | [], _, _, _, _, h, _ => by rw [IsL] at h; rw [h]; exact rfl
  | _ :: _, _, 0, _, _, h, g => by
    obtain ⟨v, r, h1, h2, h3⟩ := h
    subst h1
    exact ⟨_, r, rfl, g, h3⟩
  | _ :: _, _, i + 1, _, _, h, g => by
    obtain ⟨v, r, h1, h2, h3⟩ := h
    subst h1
    exact ⟨v, _, rfl, h2, IsL.set (i := i) h3 g⟩
theorem IsL.take : ∀ {ds : List D} {vs : List V} (n : Nat), IsL K S ds vs → IsL K S (ds.take n) (vs.take n)
  | _, _, 0, _ => rfl
  | [], _, n + 1, h => by rw [IsL] at h; rw [h]; exact rfl
  | _ :: _, _, n + 1, h => by
    obtain ⟨v, r, h1, h2, h3⟩ := h
    subst h1
    exact ⟨v, _, rfl, h2, IsL.take n h3⟩
theorem IsL.drop : ∀ {ds : List D} {vs : List V} (n : Nat), IsL K S ds vs → IsL K S (ds.drop n) (vs.drop n)
  | _, _, 0, h => h
  | [], _, n + 1, h => by rw [IsL] at h; rw [h]; exact rfl
  | _ :: _, _, n + 1, h => by
    obtain ⟨v, r, h1, h2, h3⟩ := h
    subst h1
    exact IsL.drop n h3
theorem IsL.rev : ∀ {ds : List D} {vs : List V}, IsL K S ds vs → IsL K S ds.reverse vs.reverse
  | [], _, h => by rw [IsL] at h; rw [h]; exact rfl
  | _ :: _, _, h => by
    obtain ⟨v, r, h1, h2, h3⟩ := h
    subst h1
    rw [List.reverse_cons, List.reverse_cons]
    exact (IsL.rev h3).append ⟨v, [], rfl, h2, rfl⟩
theorem IsL.ints : ∀ {ns : List Int} {vs : List V}, IsL K S (ns.map D.int) vs → vs = ns.map V.int
  | [], _, h => h
  | n :: ns, _, h => by
    obtain ⟨v, r, h1, h2, h3⟩ := h
    rw [h1, List.map_cons, IsL.ints h3]
    rw [Is] at h2
    rw [h2]
theorem isL_ints : ∀ (ns : List Int), IsL K S (ns.map D.int) (ns.map V.int)
  | [] => rfl
  | n :: ns => ⟨.int n, _, rfl, rfl, isL_ints ns⟩
theorem IsL.bls : ∀ {ns : List Bool} {vs : List V}, IsL K S (ns.map D.bl) vs → vs = ns.map V.bl
  | [], _, h => h
  | n :: ns, _, h => by
    obtain ⟨v, r, h1, h2, h3⟩ := h
    rw [h1, List.map_cons, IsL.bls h3]
    rw [Is] at h2
    rw [h2]
theorem IsL.rep : ∀ {ds : List D} {vs : List V} (n : Nat), IsL K S ds vs → IsL K S (List.replicate n ds).flatten (List.replicate n vs).flatten
  | _, _, 0, _ => rfl
  | ds, vs, n + 1, h => by
    rw [List.replicate_succ, List.replicate_succ, List.flatten_cons, List.flatten_cons]
    exact h.append (IsL.rep n h)
end
/-! ### dicts -/
def getK (kvs : List (Key × D)) (k : Key) : Option D := (kvs.find? fun kv => decide (kv.1 = k)).map (·.2)
def setK (kvs : List (Key × D)) (k : Key) (d : D) : List (Key × D) := if (kvs.any fun kv => decide (kv.1 = k)) = true then kvs.map fun kv => if kv.1 = k then (kv.1, d) else kv else kvs ++ [(k, d)]
end DL
set_option Elab.async false
set_option linter.all false
set_option maxRecDepth 100000
set_option maxHeartbeats 2000000
namespace DL
open PySem L2

/-! ### what a reading over data says of a reading over values -/
def PQ (K : PySem.W.Frag) (S : Hp) (as : List Addr) (k : Z → Cs → Prop) (Q : VK) : Prop :=
  ∀ (z : Z) (v : V) (S' H' : Hp) (as' : List Addr) (cs' : Cs), Ext S as S' as' → Rep K S' H' as' cs' → VZ K S' as' z v → k z cs' → Q v H'
def PB (K : PySem.W.Frag) (S : Hp) (as : List Addr) (k : Bool → Cs → Prop) (Q : Bool → Hp → Prop) : Prop :=
  ∀ (b : Bool) (S' H' : Hp) (as' : List Addr) (cs' : Cs), Ext S as S' as' → Rep K S' H' as' cs' → k b cs' → Q b H'
def PL (K : PySem.W.Frag) (S : Hp) (as : List Addr) (k : List Z → Cs → Prop) (Q : List V → Hp → Prop) : Prop :=
  ∀ (zs : List Z) (vs : List V) (S' H' : Hp) (as' : List Addr) (cs' : Cs), Ext S as S' as' → Rep K S' H' as' cs' → VZL K S' as' zs vs → k zs cs' → Q vs H'
def SemE (K : PySem.W.Frag) (te : TE) (t : DE) : Prop :=
  ∀ (σ : L2.St) (H S : Hp) (as : List Addr) (en : En) (cs : Cs) (k : Z → Cs → Prop) (Q : VK), Rep K S H as cs → EnvOk K S as en σ → t en cs k → PQ K S as k Q → te σ H Q
def SemT (K : PySem.W.Frag) (tt : TT) (t : DT) : Prop :=
  ∀ (σ : L2.St) (H S : Hp) (as : List Addr) (en : En) (cs : Cs) (k : Bool → Cs → Prop) (Q : Bool → Hp → Prop), Rep K S H as cs → EnvOk K S as en σ → t en cs k → PB K S as k Q → tt σ H Q
def SemA (K : PySem.W.Frag) (ta : TA) (t : DA) : Prop :=
  ∀ (σ : L2.St) (H S : Hp) (as : List Addr) (en : En) (cs : Cs) (k : List Z → Cs → Prop) (Q : List V → Hp → Prop), Rep K S H as cs → EnvOk K S as en σ → t en cs k → PL K S as k Q → ta σ H Q
structure QE (X : Cx) (e : Expr) (te : TE) (t : DE) : Prop where
  pe : PE X e te
  sem : SemE X.K te t
structure QT (X : Cx) (e : Expr) (tt : TT) (t : DT) : Prop where
  pt : PT X e tt
  sem : SemT X.K tt t
structure QA (X : Cx) (es : List Expr) (ta : TA) (t : DA) : Prop where
  pa : PA X es ta
  sem : SemA X.K ta t

section
variable {K : PySem.W.Frag} {S T H : Hp} {as bs : List Addr} {cs : Cs}
theorem PQ.mono {k : Z → Cs → Prop} {Q : VK} (e : Ext S as T bs) (h : PQ K S as k Q) : PQ K T bs k Q := fun z v S' H' as' cs' e' => h z v S' H' as' cs' (e.trans e')
theorem PB.mono {k : Bool → Cs → Prop} {Q : Bool → Hp → Prop} (e : Ext S as T bs) (h : PB K S as k Q) : PB K T bs k Q := fun b S' H' as' cs' e' => h b S' H' as' cs' (e.trans e')
theorem PL.mono {k : List Z → Cs → Prop} {Q : List V → Hp → Prop} (e : Ext S as T bs) (h : PL K S as k Q) : PL K T bs k Q := fun z v S' H' as' cs' e' => h z v S' H' as' cs' (e.trans e')
theorem SemE.use {te : TE} {t : DE} (h : SemE K te t) {σ : L2.St} {en : En} {k : Z → Cs → Prop} {Q : VK} (r : Rep K S H as cs) (e : EnvOk K S as en σ) (q : t en cs k) (p : PQ K S as k Q) : te σ H Q := h σ H S as en cs k Q r e q p
end

/-! ### what a Z holds, for an operation -/
def withD (cs : Cs) (z : Z) (k : D → Prop) : Prop :=
  match z with
  | .d x => k x
  | .c n => match cs[n]? with
    | some x => k x
    | none => False
theorem withD_look {cs : Cs} {z : Z} {k : D → Prop} (h : withD cs z k) : ∃ d, look cs z = some d ∧ k d := by
  cases z with
  | d x => exact ⟨x, rfl, h⟩
  | c n =>
    have h' : (match cs[n]? with
      | some x => k x
      | none => False) := h
    show ∃ d, cs[n]? = some d ∧ k d
    cases e : cs[n]? with
    | none => rw [e] at h'; exact h'.elim
    | some x => rw [e] at h'; exact ⟨x, rfl, h'⟩
def withL (cs : Cs) : List Z → (List D → Prop) → Prop
  | [], k => k []
  | z :: zs, k => withD cs z fun x => withL cs zs fun xs => k (x :: xs)
/-- plain data, no cell -/
def datL : List Z → (List D → Prop) → Prop
  | [], k => k []
  | .d x :: zs, k => datL zs fun xs => k (x :: xs)
  | .c _ :: _, _ => False
def ShL (K : PySem.W.Frag) (S H : Hp) : List D → List V → Prop
  | [], vs => vs = []
  | d :: ds, vs => ∃ v r, vs = v :: r ∧ Sh K S H d v ∧ ShL K S H ds r
section
variable {K : PySem.W.Frag} {S H : Hp} {as : List Addr} {cs : Cs}
theorem withL_sh (r : Rep K S H as cs) : ∀ {zs : List Z} {vs : List V} {k : List D → Prop}, VZL K S as zs vs → withL cs zs k → ∃ ds, ShL K S H ds vs ∧ k ds
  | [], _, _, h, q => by rw [h]; exact ⟨[], rfl, q⟩
  | z :: zs, _, _, ⟨v, vr, h1, h2, h3⟩, q => by
    obtain ⟨d, e, q⟩ := withD_look q
    obtain ⟨ds, s, q⟩ := withL_sh r h3 q
    exact ⟨d :: ds, ⟨v, vr, h1, look_sh r h2 e, s⟩, q⟩
theorem datL_is : ∀ {zs : List Z} {vs : List V} {k : List D → Prop}, VZL K S as zs vs → datL zs k → ∃ ds, IsL K S ds vs ∧ k ds
  | [], _, _, h, q => by rw [h]; exact ⟨[], rfl, q⟩
  | .d x :: zs, _, _, ⟨v, vr, h1, h2, h3⟩, q => by
    obtain ⟨ds, s, q⟩ := datL_is h3 q
    exact ⟨x :: ds, ⟨v, vr, h1, h2, s⟩, q⟩
  | .c _ :: _, _, _, _, q => q.elim
end

/-! ### names, constants -/
def dVar (i : Nat) : DE := fun en cs k =>
  match en[i]? with
  | some (some z) => k z cs
  | _ => False
def dC (x : D) : DE := fun _ cs k => k (.d x) cs
section
variable {X : Cx} {pos : Pos}
theorem sem_var {K : PySem.W.Frag} (i : Nat) : SemE K (tVar i) (dVar i) := by
  intro σ H S as en cs k Q r e h p
  unfold dVar at h
  split at h
  · rename_i z hz
    obtain ⟨v, h1, h2⟩ := e.at_ i z hz
    exact ⟨v, h1, p z v S H as cs Ext.refl r h2 h⟩
  · exact h.elim
theorem sem_c {K : PySem.W.Frag} {x : D} {v : V} (h : ∀ S, Is K S x v) : SemE K (tC v) (dC x) := fun σ H S as en cs k Q r e q p => p (.d x) v S H as cs Ext.refl r (h S) q
theorem qv (i : Nat) {x : Str} (hN : X.N[i]? = some x := by rfl) (hv : Vis X.env.scope x := by first | exact Or.inl rfl | exact Or.inr (Or.inl rfl) | exact Or.inr (Or.inr rfl)) (hd : (x == ("__debug__" : Str)) = false := by decide)
    (hcd : (x == ("__classdict__" : Str)) = false := by decide) : QE X (.Name x pos) (tVar i) (dVar i) := ⟨pe_var hN hv hd hcd, sem_var i⟩
theorem q_int {i : Int} {j} : QE X (.Constant (.int i) j pos) (tC (.int i)) (dC (.int i)) := ⟨pe_int, sem_c fun _ => rfl⟩
theorem q_bl {b : Bool} {j} : QE X (.Constant (.bool b) j pos) (tC (.bl b)) (dC (.bl b)) := ⟨pe_bl, sem_c fun _ => rfl⟩
theorem q_non {j} : QE X (.Constant .none j pos) (tC .non) (dC .non) := ⟨pe_non, sem_c fun _ => rfl⟩
theorem q_str {x : Str} {j} : QE X (.Constant (.str x) j pos) (tC (.str x)) (dC (.str x)) := ⟨pe_str, sem_c fun _ => rfl⟩
/-- a module's int -/
theorem q_gint {x : Str} {n : Int} (hm : ∃ t, X.mg x = some (.int n t)) (hg : Gl X x := by rfl) (hd : (x == ("__debug__" : Str)) = false := by decide) : QE X (.Name x pos) (tC (.int n)) (dC (.int n)) := by
  obtain ⟨t, h⟩ := hm
  exact ⟨pe_glob hg h ⟨t, rfl⟩ hd, sem_c fun _ => rfl⟩

/-! ### two-place operations -/
def Op2 (K : PySem.W.Frag) (r : R2) (f : D → D → (D → Prop) → Prop) : Prop :=
  ∀ (S H : Hp) (as : List Addr) (cs : Cs) (dx dy : D) (x y : V) (k : D → Prop) (Q : VK), Rep K S H as cs → Sh K S H dx x → Sh K S H dy y → f dx dy k →
    (∀ (z : D) (v : V) (S' H' : Hp), Sub S S' → Rep K S' H' as cs → Is K S' z v → k z → Q v H') → r x y H Q
def dOp (f : D → D → (D → Prop) → Prop) (a b : DE) : DE := fun en cs k => a en cs fun x cs1 => b en cs1 fun y cs2 => withD cs2 x fun dx => withD cs2 y fun dy => f dx dy fun z => k (.d z) cs2
theorem sem_op {K : PySem.W.Frag} {r : R2} {f : D → D → (D → Prop) → Prop} {ta tb : TE} {da db : DE} (h : Op2 K r f) (ha : SemE K ta da) (hb : SemE K tb db) : SemE K (tOp r ta tb) (dOp f da db) := by
  intro σ H S as en cs k Q rp e q p
  refine ha.use rp e q fun z v S1 H1 as1 cs1 e1 r1 v1 q1 => ?_
  refine hb.use r1 (e.mono e1) q1 fun z2 v2 S2 H2 as2 cs2 e2 r2 w2 q2 => ?_
  obtain ⟨dx, l1, q2⟩ := withD_look q2
  obtain ⟨dy, l2, q2⟩ := withD_look q2
  refine h S2 H2 as2 cs2 dx dy v v2 _ Q r2 (look_sh r2 (v1.mono e2) l1) (look_sh r2 w2 l2) q2 fun z w S' H' s' r' i' k' => ?_
  exact p (.d z) w S' H' as2 cs2 ((e1.trans e2).trans (Ext.of s')) r' i' k'
theorem q_op {op : Operator} {r : R2} {f : D → D → (D → Prop) → Prop} {a b : Expr} {ta tb : TE} {da db : DE} (ho : OpR X (binaryOp op) r) (h : Op2 X.K r f) (ha : QE X a ta da) (hb : QE X b tb db) : QE X (.BinOp a op b pos) (tOp r ta tb) (dOp f da db) :=
  ⟨pe_op ho ha.pe hb.pe, sem_op h ha.sem hb.sem⟩
theorem q_cmp {op : CmpOp} {r : R2} {f : D → D → (D → Prop) → Prop} {a b : Expr} {ta tb : TE} {da db : DE} (ho : OpR X (compareOp op) r) (h : Op2 X.K r f) (ha : QE X a ta da) (hb : QE X b tb db) (hm : behindInMarks op b = false) : QE X (.Compare a [op] [b] pos) (tOp r ta tb) (dOp f da db) :=
  ⟨pe_cmpR ho ha.pe hb.pe hm, sem_op h ha.sem hb.sem⟩
theorem q_ix {r : R2} {f : D → D → (D → Prop) → Prop} {a b : Expr} {ta tb : TE} {da db : DE} (ho : IxR X r) (h : Op2 X.K r f) (ha : QE X a ta da) (hb : QE X b tb db) (hs : PlainIx b) : QE X (.Subscript a b pos) (tOp r ta tb) (dOp f da db) :=
  ⟨pe_ix ho ha.pe hb.pe hs, sem_op h ha.sem hb.sem⟩
/-- a op b op' c -/
def dChain (f g : D → D → (D → Prop) → Prop) (a b c : DE) : DE := fun en cs k => a en cs fun x cs1 => b en cs1 fun y cs2 => withD cs2 x fun dx => withD cs2 y fun dy => f dx dy fun z => ∃ q, z = .bl q ∧
  if q = true then c en cs2 fun w cs3 => withD cs3 y fun dy => withD cs3 w fun dw => g dy dw fun z => k (.d z) cs3 else k (.d (.bl false)) cs2
theorem q_chain {op op' : CmpOp} {r r' : R2} {f g : D → D → (D → Prop) → Prop} {a b c : Expr} {ta tb tc : TE} {da db dc : DE} (ho : OpR X (compareOp op) r) (ho' : OpR X (compareOp op') r') (h : Op2 X.K r f) (h' : Op2 X.K r' g) (ha : QE X a ta da) (hb : QE X b tb db) (hc : QE X c tc dc) (hm : lastMarks [op, op'] [b, c] = false := by with_unfolding_all rfl) :
    QE X (.Compare a [op, op'] [b, c] pos) (tChain r r' ta tb tc) (dChain f g da db dc) := by
  refine ⟨pe_chain ho ho' ha.pe hb.pe hc.pe (hm := hm), ?_⟩
  intro σ H S as en cs k Q rp e q p
  refine ha.sem.use rp e q fun z v S1 H1 as1 cs1 e1 r1 v1 q1 => ?_
  refine hb.sem.use r1 (e.mono e1) q1 fun z2 v2 S2 H2 as2 cs2 e2 r2 w2 q2 => ?_
  obtain ⟨dx, l1, q2⟩ := withD_look q2
  obtain ⟨dy, l2, q2⟩ := withD_look q2
  refine h S2 H2 as2 cs2 dx dy v v2 _ _ r2 (look_sh r2 (v1.mono e2) l1) (look_sh r2 w2 l2) q2 fun z w S3 H3 s3 r3 i3 k3 => ?_
  obtain ⟨b, eb, k3⟩ := k3
  subst eb
  refine ⟨b, i3, ?_⟩
  cases b with
  | true =>
    rw [if_pos rfl] at k3 ⊢
    have e3 : Ext S2 as2 S3 as2 := Ext.of s3
    refine hc.sem.use r3 ((e.mono (e1.trans e2)).mono e3) k3 fun z4 v4 S4 H4 as4 cs4 e4 r4 w4 q4 => ?_
    obtain ⟨dy', l3, q4⟩ := withD_look q4
    obtain ⟨dw, l4, q4⟩ := withD_look q4
    refine h' S4 H4 as4 cs4 dy' dw v2 v4 _ Q r4 (look_sh r4 (w2.mono (e3.trans e4)) l3) (look_sh r4 w4 l4) q4 fun z w S' H' s' r' i' k' => ?_
    exact p (.d z) w S' H' as4 cs4 ((((e1.trans e2).trans e3).trans e4).trans (Ext.of s')) r' i' k'
  | false =>
    rw [if_neg Bool.false_ne_true] at k3 ⊢
    exact p (.d (.bl false)) (.bl false) S3 H3 as2 cs2 ((e1.trans e2).trans (Ext.of s3)) r3 rfl k3
/-- -a -/
def Op1 (K : PySem.W.Frag) (r : V → Hp → VK → Prop) (f : D → (D → Prop) → Prop) : Prop :=
  ∀ (S H : Hp) (as : List Addr) (cs : Cs) (dx : D) (x : V) (k : D → Prop) (Q : VK), Rep K S H as cs → Sh K S H dx x → f dx k →
    (∀ (z : D) (v : V) (S' H' : Hp), Sub S S' → Rep K S' H' as cs → Is K S' z v → k z → Q v H') → r x H Q
def dUn (f : D → (D → Prop) → Prop) (a : DE) : DE := fun en cs k => a en cs fun x cs1 => withD cs1 x fun dx => f dx fun z => k (.d z) cs1
theorem sem_un {K : PySem.W.Frag} {r : V → Hp → VK → Prop} {f : D → (D → Prop) → Prop} {ta : TE} {da : DE} (h : Op1 K r f) (ha : SemE K ta da) : SemE K (tUn r ta) (dUn f da) := by
  intro σ H S as en cs k Q rp e q p
  refine ha.use rp e q fun z v S1 H1 as1 cs1 e1 r1 v1 q1 => ?_
  obtain ⟨dx, l1, q1⟩ := withD_look q1
  refine h S1 H1 as1 cs1 dx v _ Q r1 (look_sh r1 v1 l1) q1 fun z w S' H' s' r' i' k' => ?_
  exact p (.d z) w S' H' as1 cs1 (e1.trans (Ext.of s')) r' i' k'
theorem q_un {op : UnaryOp} {r : V → Hp → VK → Prop} {f : D → (D → Prop) → Prop} {a : Expr} {ta : TE} {da : DE} (ho : UnR X (unaryOp op) r) (h : Op1 X.K r f) (ha : QE X a ta da) : QE X (.UnaryOp op a pos) (tUn r ta) (dUn f da) := ⟨pe_un ho ha.pe, sem_un h ha.sem⟩

/-! ### tests -/
/-- an expression whose value is a bool, as a test -/
def dB (a : DE) : DT := fun en cs k => a en cs fun x cs1 => ∃ b, x = .d (.bl b) ∧ k b cs1
theorem q_val {a : Expr} {ta : TE} {da : DE} (ha : QE X a ta da) (he : ∀ whole, isTrue a X.env whole = (do let v ← whole; standAt a.pos; holding [v] (truthy v)) := by intro _; rfl) : QT X a (tB ta) (dB da) := by
  refine ⟨pt_val ha.pe he, ?_⟩
  intro σ H S as en cs k Q rp e q p
  refine ha.sem.use rp e q fun z v S1 H1 as1 cs1 e1 r1 v1 q1 => ?_
  obtain ⟨b, rfl, q1⟩ := q1
  exact ⟨b, v1, p b S1 H1 as1 cs1 e1 r1 q1⟩
theorem q_cmpT {op : CmpOp} {r : R2} {f : D → D → (D → Prop) → Prop} {a b : Expr} {ta tb : TE} {da db : DE} (ho : OpR X (compareOp op) r) (h : Op2 X.K r f) (ha : QE X a ta da) (hb : QE X b tb db) (hm : behindInMarks op b = false) : QT X (.Compare a [op] [b] pos) (tTest (tOp r ta tb)) (dB (dOp f da db)) := by
  refine ⟨pt_cmpR ho ha.pe hb.pe hm, ?_⟩
  intro σ H S as en cs k Q rp e q p
  refine (sem_op h ha.sem hb.sem).use rp e q fun z v S1 H1 as1 cs1 e1 r1 v1 q1 => ?_
  obtain ⟨b, rfl, q1⟩ := q1
  exact ⟨b, v1, p b S1 H1 as1 cs1 e1 r1 q1⟩
theorem q_chainT {op op' : CmpOp} {r r' : R2} {f g : D → D → (D → Prop) → Prop} {a b c : Expr} {ta tb tc : TE} {da db dc : DE} (ho : OpR X (compareOp op) r) (ho' : OpR X (compareOp op') r') (h : Op2 X.K r f) (h' : Op2 X.K r' g) (ha : QE X a ta da) (hb : QE X b tb db) (hc : QE X c tc dc) (hm : lastMarks [op, op'] [b, c] = false := by with_unfolding_all rfl) :
    QT X (.Compare a [op, op'] [b, c] pos) (tTest (tChain r r' ta tb tc)) (dB (dChain f g da db dc)) := by
  refine ⟨pt_chain ho ho' ha.pe hb.pe hc.pe (hm := hm), ?_⟩
  intro σ H S as en cs k Q rp e q p
  refine (q_chain (pos := pos) ho ho' h h' ha hb hc hm).sem.use rp e q fun z v S1 H1 as1 cs1 e1 r1 v1 q1 => ?_
  obtain ⟨b, rfl, q1⟩ := q1
  exact ⟨b, v1, p b S1 H1 as1 cs1 e1 r1 q1⟩
def dNot (t : DT) : DT := fun en cs k => t en cs fun b cs1 => k (!b) cs1
theorem q_notT {a : Expr} {ta : TT} {da : DT} (ha : QT X a ta da) : QT X (.UnaryOp .Not a pos) (tNot ta) (dNot da) := by
  refine ⟨pt_not ha.pt, ?_⟩
  intro σ H S as en cs k Q rp e q p
  exact ha.sem σ H S as en cs _ _ rp e q fun b S1 H1 as1 cs1 e1 r1 q1 => p (!b) S1 H1 as1 cs1 e1 r1 q1
/-- and, or within a test -/
structure QW (X : Cx) (e : Expr) (tt : TT) (t : DT) : Prop where
  pw : PW X e tt
  sem : SemT X.K tt t
theorem QW.t {e : Expr} {tt : TT} {t : DT} (h : QW X e tt t) : QT X e tt t := ⟨h.pw.pt, h.sem⟩
def dAnd (t u : DT) : DT := fun en cs k => t en cs fun b cs1 => if b = true then u en cs1 k else k false cs1
def dOr (t u : DT) : DT := fun en cs k => t en cs fun b cs1 => if b = true then k true cs1 else u en cs1 k
theorem q_and1 {a : Expr} {ta : TT} {da : DT} (ha : QT X a ta da) : QW X (.BoolOp .And [a] pos) ta da := ⟨pw_and1 ha.pt, ha.sem⟩
theorem q_or1 {a : Expr} {ta : TT} {da : DT} (ha : QT X a ta da) : QW X (.BoolOp .Or [a] pos) ta da := ⟨pw_or1 ha.pt, ha.sem⟩
theorem q_andT {a b : Expr} {rest : List Expr} {ta tb : TT} {da db : DT} (ha : QT X a ta da) (hb : QW X (.BoolOp .And (b :: rest) pos) tb db) : QW X (.BoolOp .And (a :: b :: rest) pos) (tAnd ta tb) (dAnd da db) := by
  refine ⟨pw_and ha.pt hb.pw, ?_⟩
  intro σ H S as en cs k Q rp e q p
  refine ha.sem σ H S as en cs _ _ rp e q fun b S1 H1 as1 cs1 e1 r1 q1 => ?_
  cases b with
  | true =>
    rw [if_pos rfl] at q1 ⊢
    exact hb.sem σ H1 S1 as1 en cs1 k Q r1 (e.mono e1) q1 (p.mono e1)
  | false =>
    rw [if_neg Bool.false_ne_true] at q1 ⊢
    exact p false S1 H1 as1 cs1 e1 r1 q1
theorem q_orT {a b : Expr} {rest : List Expr} {ta tb : TT} {da db : DT} (ha : QT X a ta da) (hb : QW X (.BoolOp .Or (b :: rest) pos) tb db) : QW X (.BoolOp .Or (a :: b :: rest) pos) (tOr ta tb) (dOr da db) := by
  refine ⟨pw_or ha.pt hb.pw, ?_⟩
  intro σ H S as en cs k Q rp e q p
  refine ha.sem σ H S as en cs _ _ rp e q fun b S1 H1 as1 cs1 e1 r1 q1 => ?_
  cases b with
  | true =>
    rw [if_pos rfl] at q1 ⊢
    exact p true S1 H1 as1 cs1 e1 r1 q1
  | false =>
    rw [if_neg Bool.false_ne_true] at q1 ⊢
    exact hb.sem σ H1 S1 as1 en cs1 k Q r1 (e.mono e1) q1 (p.mono e1)
/-- and, or, not as values: all but the last a bool -/
def dAndV (a b : DE) : DE := fun en cs k => a en cs fun x cs1 => ∃ c, x = .d (.bl c) ∧ if c = true then b en cs1 k else k (.d (.bl false)) cs1
def dOrV (a b : DE) : DE := fun en cs k => a en cs fun x cs1 => ∃ c, x = .d (.bl c) ∧ if c = true then k (.d (.bl true)) cs1 else b en cs1 k
def dNotV (a : DE) : DE := fun en cs k => a en cs fun x cs1 => ∃ c, x = .d (.bl c) ∧ k (.d (.bl (!c))) cs1
theorem q_one {op : BoolOp} {a : Expr} {ta : TE} {da : DE} (ha : QE X a ta da) : QE X (.BoolOp op [a] pos) ta da := ⟨pe_one ha.pe, ha.sem⟩
theorem q_and {a b : Expr} {rest : List Expr} {ta tb : TE} {da db : DE} (ha : QE X a ta da) (hb : QE X (.BoolOp .And (b :: rest) pos) tb db) : QE X (.BoolOp .And (a :: b :: rest) pos) (tAndV ta tb) (dAndV da db) := by
  refine ⟨pe_and ha.pe hb.pe, ?_⟩
  intro σ H S as en cs k Q rp e q p
  refine ha.sem.use rp e q fun z v S1 H1 as1 cs1 e1 r1 v1 q1 => ?_
  obtain ⟨c, rfl, q1⟩ := q1
  refine ⟨c, v1, ?_⟩
  cases c with
  | true =>
    rw [if_pos rfl] at q1 ⊢
    exact hb.sem.use r1 (e.mono e1) q1 (p.mono e1)
  | false =>
    rw [if_neg Bool.false_ne_true] at q1 ⊢
    exact p (.d (.bl false)) (.bl false) S1 H1 as1 cs1 e1 r1 rfl q1
theorem q_or {a b : Expr} {rest : List Expr} {ta tb : TE} {da db : DE} (ha : QE X a ta da) (hb : QE X (.BoolOp .Or (b :: rest) pos) tb db) : QE X (.BoolOp .Or (a :: b :: rest) pos) (tOrV ta tb) (dOrV da db) := by
  refine ⟨pe_or ha.pe hb.pe, ?_⟩
  intro σ H S as en cs k Q rp e q p
  refine ha.sem.use rp e q fun z v S1 H1 as1 cs1 e1 r1 v1 q1 => ?_
  obtain ⟨c, rfl, q1⟩ := q1
  refine ⟨c, v1, ?_⟩
  cases c with
  | true =>
    rw [if_pos rfl] at q1 ⊢
    exact p (.d (.bl true)) (.bl true) S1 H1 as1 cs1 e1 r1 rfl q1
  | false =>
    rw [if_neg Bool.false_ne_true] at q1 ⊢
    exact hb.sem.use r1 (e.mono e1) q1 (p.mono e1)
theorem q_not {a : Expr} {ta : TE} {da : DE} (ha : QE X a ta da) : QE X (.UnaryOp .Not a pos) (tNotV ta) (dNotV da) := by
  refine ⟨pe_not ha.pe, ?_⟩
  intro σ H S as en cs k Q rp e q p
  refine ha.sem.use rp e q fun z v S1 H1 as1 cs1 e1 r1 v1 q1 => ?_
  obtain ⟨c, rfl, q1⟩ := q1
  exact ⟨c, v1, p (.d (.bl (!c))) (.bl (!c)) S1 H1 as1 cs1 e1 r1 rfl q1⟩
/-- a if t else b -/
def dIf (t : DT) (a b : DE) : DE := fun en cs k => t en cs fun c cs1 => if c = true then a en cs1 k else b en cs1 k
theorem q_ifExp {c a b : Expr} {tc : TT} {ta tb : TE} {dc : DT} {da db : DE} (hc : QT X c tc dc) (ha : QE X a ta da) (hb : QE X b tb db) : QE X (.IfExp c a b pos) (tIf tc ta tb) (dIf dc da db) := by
  refine ⟨pe_ifExp hc.pt ha.pe hb.pe, ?_⟩
  intro σ H S as en cs k Q rp e q p
  refine hc.sem σ H S as en cs _ _ rp e q fun b S1 H1 as1 cs1 e1 r1 q1 => ?_
  cases b with
  | true =>
    rw [if_pos rfl] at q1 ⊢
    exact ha.sem.use r1 (e.mono e1) q1 (p.mono e1)
  | false =>
    rw [if_neg Bool.false_ne_true] at q1 ⊢
    exact hb.sem.use r1 (e.mono e1) q1 (p.mono e1)

/-! ### arguments, displays -/
def dNil : DA := fun _ cs k => k [] cs
def dCons (a : DE) (r : DA) : DA := fun en cs k => a en cs fun x cs1 => r en cs1 fun xs cs2 => k (x :: xs) cs2
theorem qa_nil : QA X [] tNil dNil := ⟨pa_nil, fun σ H S as en cs k Q r e q p => p [] [] S H as cs Ext.refl r rfl q⟩
theorem qa_cons {a : Expr} {es : List Expr} {ta : TE} {tr : TA} {da : DE} {dr : DA} (ha : QE X a ta da) (hr : QA X es tr dr) (hs : starEach (a :: es) X.env = (false, eval a X.env) :: starEach es X.env := by rfl) : QA X (a :: es) (tCons ta tr) (dCons da dr) := by
  refine ⟨pa_cons ha.pe hr.pa hs, ?_⟩
  intro σ H S as en cs k Q rp e q p
  refine ha.sem.use rp e q fun z v S1 H1 as1 cs1 e1 r1 v1 q1 => ?_
  refine hr.sem σ H1 S1 as1 en cs1 _ _ r1 (e.mono e1) q1 fun zs vs S2 H2 as2 cs2 e2 r2 w2 q2 => ?_
  exact p (z :: zs) (v :: vs) S2 H2 as2 cs2 (e1.trans e2) r2 ⟨v, vs, rfl, v1.mono e2, w2⟩ q2
def dTup (a : DA) : DE := fun en cs k => a en cs fun zs cs1 => datL zs fun ds => ds.length ≤ 100000 ∧ k (.d (.tup ds)) cs1
/-- a list display that will not change; one that will -/
def dLst (a : DA) : DE := fun en cs k => a en cs fun zs cs1 => datL zs fun ds => ds.length ≤ 100000 ∧ k (.d (.lst ds)) cs1
def dLstC (a : DA) : DE := fun en cs k => a en cs fun zs cs1 => datL zs fun ds => ds.length ≤ 100000 ∧ k (.c cs1.length) (cs1 ++ [.lst ds])
theorem size_of {n : Nat} (h : n ≤ 100000) : n ≤ sizeLine := Nat.le_trans h (by decide)
theorem size_lt {n : Nat} (h : n < 100000) : n < sizeLine := Nat.lt_of_lt_of_le h (by decide)
theorem Rep.get_new {K : PySem.W.Frag} {S H : Hp} {as : List Addr} {cs : Cs} (r : Rep K S H as cs) (p : Addr) : (as ++ [p])[cs.length]? = some p := by
  rw [← r.len, List.getElem?_append_right (Nat.le_refl _), Nat.sub_self]
  rfl
theorem q_tup {es : List Expr} {x1} {ta : TA} {da : DA} (ha : QA X es ta da) : QE X (.Tuple es x1 pos) (tTup ta) (dTup da) := by
  refine ⟨pe_tup ha.pa, ?_⟩
  intro σ H S as en cs k Q rp e q p
  refine ha.sem σ H S as en cs _ _ rp e q fun zs vs S1 H1 as1 cs1 e1 r1 v1 q1 => ?_
  obtain ⟨ds, i, hz, q1⟩ := datL_is v1 q1
  refine ⟨by rw [i.len]; exact size_of hz, fun a na => ?_⟩
  refine p (.d (.tup ds)) (.ref a) _ _ as1 cs1 (e1.trans (r1.ext na (.tup vs))) (r1.lay na _) ⟨a, vs, rfl, SqT.of upd_same, IsL.mono (Sub.new (r1.sub.free na)) _ _ i⟩ q1
theorem q_lst {es : List Expr} {ta : TA} {da : DA} (ha : QA X es ta da) : QE X (.List es pos) (tLst ta) (dLst da) := by
  refine ⟨pe_lst ha.pa, ?_⟩
  intro σ H S as en cs k Q rp e q p
  refine ha.sem σ H S as en cs _ _ rp e q fun zs vs S1 H1 as1 cs1 e1 r1 v1 q1 => ?_
  obtain ⟨ds, i, hz, q1⟩ := datL_is v1 q1
  refine ⟨by rw [i.len]; exact size_of hz, fun a na => ?_⟩
  refine p (.d (.lst ds)) (.ref a) _ _ as1 cs1 (e1.trans (r1.ext na (.lst vs))) (r1.lay na _) ⟨a, vs, rfl, upd_same, IsL.mono (Sub.new (r1.sub.free na)) _ _ i⟩ q1
theorem q_lstC {es : List Expr} {ta : TA} {da : DA} (ha : QA X es ta da) : QE X (.List es pos) (tLst ta) (dLstC da) := by
  refine ⟨pe_lst ha.pa, ?_⟩
  intro σ H S as en cs k Q rp e q p
  refine ha.sem σ H S as en cs _ _ rp e q fun zs vs S1 H1 as1 cs1 e1 r1 v1 q1 => ?_
  obtain ⟨ds, i, hz, q1⟩ := datL_is v1 q1
  refine ⟨by rw [i.len]; exact size_of hz, fun a na => ?_⟩
  refine p (.c cs1.length) (.ref a) S1 _ (as1 ++ [a]) _ (e1.trans ⟨Sub.refl _, [a], rfl⟩) (r1.cell na (c := .lst ds) ⟨r1.sub.free na, vs, upd_same, i⟩) ⟨a, r1.get_new a, rfl⟩ q1

/-! ### calls of built-ins by values -/
def Cl (K : PySem.W.Frag) (r : List V → Hp → VK → Prop) (f : List D → (D → Prop) → Prop) : Prop :=
  ∀ (S H : Hp) (as : List Addr) (cs : Cs) (ds : List D) (vs : List V) (k : D → Prop) (Q : VK), Rep K S H as cs → ShL K S H ds vs → f ds k →
    (∀ (z : D) (v : V) (S' H' : Hp), Sub S S' → Rep K S' H' as cs → Is K S' z v → k z → Q v H') → r vs H Q
def dCB (f : List D → (D → Prop) → Prop) (a : DA) : DE := fun en cs k => a en cs fun zs cs1 => withL cs1 zs fun ds => f ds fun z => k (.d z) cs1
theorem sem_cb {K : PySem.W.Frag} {r : List V → Hp → VK → Prop} {f : List D → (D → Prop) → Prop} {ta : TA} {da : DA} (h : Cl K r f) (ha : SemA K ta da) : SemE K (tCB r ta) (dCB f da) := by
  intro σ H S as en cs k Q rp e q p
  refine ha σ H S as en cs _ _ rp e q fun zs vs S1 H1 as1 cs1 e1 r1 v1 q1 => ?_
  obtain ⟨ds, s, q1⟩ := withL_sh r1 v1 q1
  exact h S1 H1 as1 cs1 ds vs _ Q r1 s q1 fun z v S' H' s' r' i' k' => p (.d z) v S' H' as1 cs1 (e1.trans (Ext.of s')) r' i' k'
theorem q_callB {id : String} {x : Str} {p : Pos} {a : Expr} {es : List Expr} {r : List V → Hp → VK → Prop} {f : List D → (D → Prop) → Prop} {ta : TA} {da : DA} (hc : CallR X (.builtin id) r) (h : Cl X.K r f) (hm : X.mg x = none) (hv : bootBuiltins x = some (.builtin id)) (ha : QA X (a :: es) ta da) (hg : Gl X x := by rfl) (hn : x ≠ "__name__" := by decide) (hdb : (x == ("__debug__" : Str)) = false := by decide)
    (he : starEach (a :: es) X.env = (false, eval a X.env) :: starEach es X.env := by rfl) (hpl : (backTo pos (starEach es X.env)).any (·.1) = false := by rfl) : QE X (.Call (.Name x p) (a :: es) [] pos) (tCB r ta) (dCB f da) :=
  ⟨pe_callB hc hg hm hv ha.pa hn hdb he hpl, sem_cb h ha.sem⟩
theorem q_callTy {id : String} {x : Str} {p : Pos} {a : Expr} {es : List Expr} {r : List V → Hp → VK → Prop} {f : List D → (D → Prop) → Prop} {ta : TA} {da : DA} (hc : CallR X (.type id) r) (h : Cl X.K r f) (hm : X.mg x = none) (hv : bootBuiltins x = some (.type id)) (ha : QA X (a :: es) ta da) (hg : Gl X x := by rfl) (hn : x ≠ "__name__" := by decide) (hdb : (x == ("__debug__" : Str)) = false := by decide)
    (he : starEach (a :: es) X.env = (false, eval a X.env) :: starEach es X.env := by rfl) (hpl : (backTo pos (starEach es X.env)).any (·.1) = false := by rfl) : QE X (.Call (.Name x p) (a :: es) [] pos) (tCB r ta) (dCB f da) :=
  ⟨pe_callTy hc hg hm hv ha.pa hn hdb he hpl, sem_cb h ha.sem⟩
end
end DL
set_option Elab.async false
set_option linter.all false
set_option maxRecDepth 100000
set_option maxHeartbeats 2000000
namespace DL
open PySem L2

/-! ### data as the library's data -/
mutual
def py : D → PyData
  | .non => .none
  | .bl b => .bool b
  | .int i => .int i
  | .str x => .str x
  | .tup ds => .tuple (pyL ds)
  | .lst ds => .list (pyL ds)
  | .scr ns => .list (ns.map .int)
  | .dic _ => .none
  | .ty _ => .none
  | .obj _ => .none
def pyL : List D → List PyData
  | [] => []
  | d :: ds => py d :: pyL ds
end
mutual
/-- no dict, no class within -/
def pyOk : D → Bool
  | .non => true
  | .bl _ => true
  | .int _ => true
  | .str _ => true
  | .tup ds => pyOkL ds
  | .lst ds => pyOkL ds
  | .scr _ => true
  | .dic _ => false
  | .ty _ => false
  | .obj _ => false
def pyOkL : List D → Bool
  | [] => true
  | d :: ds => pyOk d && pyOkL ds
end
theorem dp_ints (K : PySem.W.Frag) (H : Hp) : ∀ ns : List Int, DpAll K H (ns.map V.int) (ns.map PyData.int)
  | [] => .nil
  | n :: ns => .cons (.int n) (dp_ints K H ns)
mutual
theorem Is.dp {K : PySem.W.Frag} {S H : Hp} (e : Sub S H) : ∀ (d : D) (v : V), Is K S d v → pyOk d = true → Dp K H v (py d)
  | .non, v, h, _ => by rw [Is] at h; subst h; exact .non
  | .bl b, v, h, _ => by rw [Is] at h; subst h; exact .bl b
  | .int i, v, h, _ => by rw [Is] at h; subst h; exact .int i
  | .str x, v, h, _ => by rw [Is] at h; subst h; exact .str x
  | .tup ds, v, h, o => by
    obtain ⟨a, vs, rfl, h2, h3⟩ := h
    exact .tup (e.t h2) (IsL.dp e ds vs h3 o)
  | .lst ds, v, h, o => by
    obtain ⟨a, vs, rfl, h2, h3⟩ := h
    exact .lst (SqL.of (e _ _ h2)) (IsL.dp e ds vs h3 o)
  | .scr ns, v, h, _ => by
    obtain ⟨a, rfl, h2⟩ := h
    exact .lst (e.l h2) (dp_ints K H ns)
  | .dic _, _, _, o => Bool.noConfusion o
  | .ty _, _, _, o => Bool.noConfusion o
  | .obj _, _, _, o => Bool.noConfusion o
theorem IsL.dp {K : PySem.W.Frag} {S H : Hp} (e : Sub S H) : ∀ (ds : List D) (vs : List V), IsL K S ds vs → pyOkL ds = true → DpAll K H vs (pyL ds)
  | [], _, h, _ => by rw [IsL] at h; subst h; exact .nil
  | d :: ds, _, h, o => by
    obtain ⟨v, r, rfl, h2, h3⟩ := h
    have o' : (pyOk d && pyOkL ds) = true := o
    rw [Bool.and_eq_true] at o'
    exact .cons (Is.dp e d v h2 o'.1) (IsL.dp e ds r h3 o'.2)
end
theorem Sh.dp {K : PySem.W.Frag} {S H : Hp} (e : Sub S H) : ∀ (d : D) (v : V), Sh K S H d v → pyOk d = true → Dp K H v (py d)
  | .lst ds, v, h, o => by
    obtain ⟨a, vs, rfl, h2, h3⟩ := h
    exact .lst (SqL.of h2) (IsL.dp e ds vs h3 o)
  | .tup ds, v, h, o => Is.dp e (.tup ds) v h o
  | .scr ns, v, h, o => Is.dp e (.scr ns) v h o
  | .non, v, h, o => Is.dp e .non v h o
  | .bl b, v, h, o => Is.dp e (.bl b) v h o
  | .int i, v, h, o => Is.dp e (.int i) v h o
  | .str x, v, h, o => Is.dp e (.str x) v h o
  | .dic _, _, _, o => Bool.noConfusion o
  | .ty _, _, _, o => Bool.noConfusion o
  | .obj _, _, _, o => Bool.noConfusion o

/-! ### sizes -/
/-- an int of few bits -/
def Sm (i : Int) : Prop := i.natAbs < 2 ^ 100000
def Dv (j : Int) : Prop := 0 < j ∧ j.natAbs < 2 ^ 8000
/-- an int of at most n bits, either way -/
def Sz (n : Nat) (i : Int) : Prop := i.natAbs < 2 ^ n
theorem Sz.sm {n : Nat} {i : Int} (h : Sz n i) (l : n ≤ 100000) : Sm i := Nat.lt_of_lt_of_le h (Nat.pow_le_pow_right (by decide) l)
theorem Sz.dv {n : Nat} {i : Int} (h : Sz n i) (l : n ≤ 8000) (p : 0 < i) : Dv i := ⟨p, Nat.lt_of_lt_of_le h (Nat.pow_le_pow_right (by decide) l)⟩
theorem Sz.mul {m n : Nat} {i j : Int} (h : Sz m i) (g : Sz n j) : Sz (m + n) (i * j) := wide_lt h g
theorem Sz.le {m n : Nat} {i : Int} (h : Sz m i) (l : m ≤ n) : Sz n i := Nat.lt_of_lt_of_le h (Nat.pow_le_pow_right (by decide) l)
theorem Sz.add {m n : Nat} {i j : Int} (h : Sz m i) (g : Sz n j) : Sz (m + n + 1) (i + j) := by
  have h' := h.le (Nat.le_add_right m n)
  have g' := g.le (Nat.le_add_left n m)
  unfold Sz at *
  rw [Nat.pow_succ]
  omega
theorem Sz.sub {m n : Nat} {i j : Int} (h : Sz m i) (g : Sz n j) : Sz (m + n + 1) (i - j) := by
  have h' := h.le (Nat.le_add_right m n)
  have g' := g.le (Nat.le_add_left n m)
  unfold Sz at *
  rw [Nat.pow_succ]
  omega
theorem Sz.of {n : Nat} {i : Int} (h1 : -((2 ^ n : Nat) : Int) < i) (h2 : i < ((2 ^ n : Nat) : Int)) : Sz n i := by
  unfold Sz
  omega
/-- within 10 ^ 200 -/
theorem Sm.of {i : Int} (h1 : -(10 ^ 200) < i) (h2 : i < 10 ^ 200) : Sm i := by
  have e : (10 : Int) ^ 200 ≤ ((2 ^ 700 : Nat) : Int) := by decide +kernel
  exact (Sz.of (n := 700) (by omega) (by omega)).sm (by decide)
theorem Dv.of {i : Int} (h1 : 0 < i) (h2 : i < 10 ^ 200) : Dv i := by
  have e : (10 : Int) ^ 200 ≤ ((2 ^ 700 : Nat) : Int) := by decide +kernel
  exact (Sz.of (n := 700) (by omega) (by omega)).dv (by decide) h1
theorem Sm.mulW {i j : Int} (h : Sm i) (g : Sm j) : CMulW i j := wide_mul h g (by decide) (by decide) (by decide)
theorem Dv.divW {i j : Int} (h : Dv j) : CDivW i j := wide_div h.1 h.2 (by decide) (by decide)

/-! ### operators over data -/
abbrev rOr (r r' : R2) : R2 := fun x y H Q => r x y H Q ∨ r' x y H Q
def rAddS : R2 := fun x y H Q => ∃ i j, x = .str i ∧ y = .str j ∧ i.length + j.length ≤ sizeLine ∧ Q (.str (i ++ j)) H
def rAddU (K : PySem.W.Frag) : R2 := rOr (rI0 fun i j => .int (i + j)) (rOr rAddS (rOr (rCatA K) rCat))
def rMulU (K : PySem.W.Frag) : R2 := rOr (rI CMulW fun i j => .int (i * j)) (rOr (rRepT K) rRep)
def CPowW (i j : Int) : Prop := 0 ≤ j ∧ (Builtin.Int.intBits i : Int) * j ≤ 2 ^ 27
section
variable {X : Cx}
theorem op_addU : OpR X (binaryOp .Add) (rAddU X.K) := OpR.or op_add (OpR.or op_add_str (OpR.or op_catA op_cat))
theorem op_mulU : OpR X (binaryOp .Mult) (rMulU X.K) := OpR.or op_mulW (OpR.or op_repT op_rep)
theorem op_powW : OpR X (binaryOp .Pow) (rI CPowW fun i j => .int (i ^ j.toNat)) := opI fun _ _ _ _ _ _ _ hc q => PyProof.Rows.pow_int hc.1 hc.2 q
end
def addD : D → D → (D → Prop) → Prop
  | .int i, .int j, k => k (.int (i + j))
  | .str a, .str b, k => a.length + b.length ≤ sizeLine ∧ k (.str (a ++ b))
  | .tup a, .tup b, k => a.length + b.length ≤ 100000 ∧ k (.tup (a ++ b))
  | .lst a, .lst b, k => a.length + b.length ≤ 100000 ∧ k (.lst (a ++ b))
  | _, _, _ => False
def subD : D → D → (D → Prop) → Prop
  | .int i, .int j, k => k (.int (i - j))
  | _, _, _ => False
def mulD : D → D → (D → Prop) → Prop
  | .int i, .int j, k => (Sm i ∧ Sm j) ∧ k (.int (i * j))
  | .tup a, .int n, k => (a ≠ [] ∧ 2 ≤ n ∧ n ≤ 1000 ∧ a.length ≤ 1000) ∧ k (.tup (List.replicate n.toNat a).flatten)
  | .lst a, .int n, k => (0 ≤ n ∧ n ≤ 100000 ∧ a.length ≤ 1000 ∧ a.length * n.toNat ≤ 100000) ∧ k (.lst (List.replicate n.toNat a).flatten)
  | _, _, _ => False
def fdivD : D → D → (D → Prop) → Prop
  | .int i, .int j, k => Dv j ∧ k (.int (i / j))
  | _, _, _ => False
def modD : D → D → (D → Prop) → Prop
  | .int i, .int j, k => 0 < j ∧ k (.int (i % j))
  | _, _, _ => False
def powD : D → D → (D → Prop) → Prop
  | .int i, .int j, k => (0 ≤ j ∧ j ≤ 1000 ∧ Sm i) ∧ k (.int (i ^ j.toNat))
  | _, _, _ => False
def negD : D → (D → Prop) → Prop
  | .int i, k => k (.int (-i))
  | _, _ => False
def cmpI (p : Int → Int → Bool) : D → D → (D → Prop) → Prop
  | .int i, .int j, k => k (.bl (p i j))
  | _, _, _ => False
abbrev ltD := cmpI fun i j => decide (i < j)
abbrev leD := cmpI fun i j => decide (i ≤ j)
abbrev gtD := cmpI fun i j => decide (j < i)
abbrev geD := cmpI fun i j => decide (j ≤ i)
def EqOk (d : D) : Prop := pyOk d = true ∧ SeqAt.shaped (py d) = true
def eqvD (x y : D) : Bool := PyData.eqv (py x) (py y)
def eqD : D → D → (D → Prop) → Prop := fun x y k => (EqOk x ∧ EqOk y) ∧ k (.bl (eqvD x y))
def neD : D → D → (D → Prop) → Prop := fun x y k => (EqOk x ∧ EqOk y) ∧ k (.bl (!eqvD x y))
def isNonD : D → Bool
  | .non => true
  | _ => false
def isD : D → D → (D → Prop) → Prop
  | x, .non, k => k (.bl (isNonD x))
  | .bl a, .bl b, k => k (.bl (decide (a = b)))
  | _, _, _ => False
def isNotD : D → D → (D → Prop) → Prop
  | x, .non, k => k (.bl (!isNonD x))
  | .bl a, .bl b, k => k (.bl (!decide (a = b)))
  | _, _, _ => False
def atD (ds : List D) (i : Int) (k : D → Prop) : Prop :=
  match atI ds i with
  | some d => k d
  | none => False
def ixD : D → D → (D → Prop) → Prop
  | .tup ds, .int i, k => atD ds i k
  | .lst ds, .int i, k => atD ds i k
  | .scr ns, .int i, k => ∃ n, atI ns i = some n ∧ k (.int n)
  | _, _, _ => False

section
variable {K : PySem.W.Frag}
theorem sh_int {S H : Hp} {i : Int} {v : V} (h : Sh K S H (.int i) v) : v = .int i := h
theorem sh_str {S H : Hp} {i : Str} {v : V} (h : Sh K S H (.str i) v) : v = .str i := h
theorem sh_bl {S H : Hp} {i : Bool} {v : V} (h : Sh K S H (.bl i) v) : v = .bl i := h
theorem sh_non {S H : Hp} {v : V} (h : Sh K S H .non v) : v = .non := h
/-- ints to an int -/
theorem o_int {C : Int → Int → Prop} {g : Int → Int → Int} {f : D → D → (D → Prop) → Prop} (hf : ∀ x y k, f x y k → ∃ i j, x = .int i ∧ y = .int j ∧ C i j ∧ k (.int (g i j))) : Op2 K (rI C fun i j => .int (g i j)) f := by
  intro S H as cs dx dy x y k Q r hx hy h q
  obtain ⟨i, j, rfl, rfl, hc, hk⟩ := hf _ _ _ h
  exact ⟨i, j, hx, hy, hc, q (.int (g i j)) _ S H (Sub.refl S) r rfl hk⟩
theorem o_sub : Op2 K (rI0 fun i j => .int (i - j)) subD := by
  intro S H as cs dx dy x y k Q r hx hy h q
  unfold subD at h
  split at h
  · exact ⟨_, _, hx, hy, q (.int _) _ S H (Sub.refl S) r rfl h⟩
  · exact h.elim
theorem o_cmp {p : Int → Int → Bool} : Op2 K (rI0 fun i j => .bl (p i j)) (cmpI p) := by
  intro S H as cs dx dy x y k Q r hx hy h q
  unfold cmpI at h
  split at h
  · exact ⟨_, _, hx, hy, q (.bl _) _ S H (Sub.refl S) r rfl h⟩
  · exact h.elim
theorem o_mod : Op2 K (rI (fun _ j => 0 < j) fun i j => .int (i % j)) modD := o_int fun x y k h => by
  unfold modD at h
  split at h
  · exact ⟨_, _, rfl, rfl, h.1, h.2⟩
  · exact h.elim
theorem o_fdiv : Op2 K (rI CDivW fun i j => .int (i / j)) fdivD := o_int fun x y k h => by
  unfold fdivD at h
  split at h
  · exact ⟨_, _, rfl, rfl, h.1.divW, h.2⟩
  · exact h.elim
theorem o_pow : Op2 K (rI CPowW fun i j => .int (i ^ j.toNat)) powD := o_int fun x y k h => by
  unfold powD at h
  split at h
  · rename_i i j
    obtain ⟨⟨h0, h1, h2⟩, h3⟩ := h
    refine ⟨_, _, rfl, rfl, ⟨h0, ?_⟩, h3⟩
    have b : Builtin.Int.intBits i ≤ i.natAbs.log2 + 1 := by
      unfold Builtin.Int.intBits
      split <;> omega
    have l : i.natAbs.log2 < 100000 := PySem.Flt.log2_lt_of (by decide) h2
    have hb : (Builtin.Int.intBits i : Int) ≤ 100000 := by omega
    have h4 : (Builtin.Int.intBits i : Int) * j ≤ 100000 * j := Int.mul_le_mul_of_nonneg_right hb h0
    have h5 : 100000 * j ≤ 100000 * 1000 := Int.mul_le_mul_of_nonneg_left h1 (by decide)
    have h6 : (100000 * 1000 : Int) ≤ 2 ^ 27 := by decide
    exact Int.le_trans h4 (Int.le_trans h5 h6)
  · exact h.elim
theorem o_neg : Op1 K (rU fun i => .int (-i)) negD := by
  intro S H as cs dx x k Q r hx h q
  unfold negD at h
  split at h
  · exact ⟨_, hx, q (.int _) _ S H (Sub.refl S) r rfl h⟩
  · exact h.elim
theorem o_add : Op2 K (rAddU K) addD := by
  intro S H as cs dx dy x y k Q r hx hy h q
  unfold addD at h
  split at h
  · exact .inl ⟨_, _, hx, hy, q (.int _) _ S H (Sub.refl S) r rfl h⟩
  · exact .inr (.inl ⟨_, _, hx, hy, h.1, q (.str _) _ S H (Sub.refl S) r rfl h.2⟩)
  · obtain ⟨a, vs, rfl, hs, is⟩ := hx
    obtain ⟨b, us, rfl, ht, it⟩ := hy
    obtain ⟨hz, hk⟩ := h
    refine .inr (.inr (.inl ⟨a, b, vs, us, rfl, rfl, r.sub.t hs, r.sub.t ht, by rw [is.len, it.len]; exact size_of hz, fun e => ?_, fun _ e => ?_, fun _ _ p hp => ?_⟩))
    · have i2 := is.append it
      rw [e, List.nil_append] at i2
      exact q (.tup _) _ S H (Sub.refl S) r ⟨b, us, rfl, ht, i2⟩ hk
    · have i2 := is.append it
      rw [e, List.append_nil] at i2
      exact q (.tup _) _ S H (Sub.refl S) r ⟨a, vs, rfl, hs, i2⟩ hk
    · have hn := Sub.new (o := .tup (vs ++ us)) (r.sub.free hp)
      exact q (.tup _) _ _ _ hn (r.lay hp _) ⟨p, vs ++ us, rfl, SqT.of upd_same, IsL.mono hn _ _ (is.append it)⟩ hk
  · obtain ⟨a, vs, rfl, hs, is⟩ := hx
    obtain ⟨b, us, rfl, ht, it⟩ := hy
    obtain ⟨hz, hk⟩ := h
    refine .inr (.inr (.inr ⟨a, b, vs, us, rfl, rfl, hs, ht, by rw [is.len, it.len]; exact size_of hz, fun p hp => ?_⟩))
    have hn := Sub.new (o := .lst (vs ++ us)) (r.sub.free hp)
    exact q (.lst _) _ _ _ hn (r.lay hp _) ⟨p, vs ++ us, rfl, upd_same, IsL.mono hn _ _ (is.append it)⟩ hk
  · exact h.elim
theorem o_mul : Op2 K (rMulU K) mulD := by
  intro S H as cs dx dy x y k Q r hx hy h q
  unfold mulD at h
  split at h
  · exact .inl ⟨_, _, hx, hy, h.1.1.mulW h.1.2, q (.int _) _ S H (Sub.refl S) r rfl h.2⟩
  · rename_i l n
    obtain ⟨a, vs, rfl, hs, is⟩ := hx
    obtain ⟨⟨h1, h2, h3, h4⟩, hk⟩ := h
    refine .inr (.inl ⟨a, _, vs, rfl, hy, r.sub.t hs, fun e => ?_, h2, h3, by rw [is.len]; exact h4, fun p hp => ?_⟩)
    · have := is.len
      rw [e] at this
      exact h1 (List.eq_nil_of_length_eq_zero this.symm)
    · have hn := Sub.new (o := .tup (List.replicate n.toNat vs).flatten) (r.sub.free hp)
      exact q (.tup _) _ _ _ hn (r.lay hp _) ⟨p, _, rfl, SqT.of upd_same, IsL.mono hn _ _ (is.rep _)⟩ hk
  · rename_i l n
    obtain ⟨a, vs, rfl, hs, is⟩ := hx
    obtain ⟨⟨h1, h2, h3, h4⟩, hk⟩ := h
    refine .inr (.inr ⟨a, _, vs, rfl, hy, hs, by omega, by omega, by rw [is.len]; exact size_of h4, fun p hp => ?_⟩)
    have hn := Sub.new (o := .lst (List.replicate n.toNat vs).flatten) (r.sub.free hp)
    exact q (.lst _) _ _ _ hn (r.lay hp _) ⟨p, _, rfl, upd_same, IsL.mono hn _ _ (is.rep _)⟩ hk
  · exact h.elim
theorem o_eq : Op2 K (rEqD K) eqD := by
  intro S H as cs dx dy x y k Q r hx hy h q
  obtain ⟨⟨⟨a1, a2⟩, b1, b2⟩, hk⟩ := h
  exact ⟨py dx, py dy, hx.dp r.sub _ _ a1, hy.dp r.sub _ _ b1, a2, b2, q (.bl _) _ S H (Sub.refl S) r rfl hk⟩
theorem o_ne : Op2 K (rNeD K) neD := by
  intro S H as cs dx dy x y k Q r hx hy h q
  obtain ⟨⟨⟨a1, a2⟩, b1, b2⟩, hk⟩ := h
  exact ⟨py dx, py dy, hx.dp r.sub _ _ a1, hy.dp r.sub _ _ b1, a2, b2, q (.bl _) _ S H (Sub.refl S) r rfl hk⟩
theorem sh_isNon {S H : Hp} {d : D} {v : V} (h : Sh K S H d v) : decide (v = .non) = isNonD d := by
  cases d with
  | non => rw [sh_non h]; rfl
  | bl b => rw [sh_bl h]; rfl
  | int i => rw [sh_int h]; rfl
  | str x => rw [sh_str h]; rfl
  | tup ds => obtain ⟨a, vs, rfl, _⟩ := h; rfl
  | lst ds => obtain ⟨a, vs, rfl, _⟩ := h; rfl
  | dic ds => obtain ⟨a, vs, rfl, _⟩ := h; rfl
  | scr ds => obtain ⟨a, rfl, _⟩ := h; rfl
  | ty n => rw [show v = .ty n from h]; rfl
  | obj a => rw [show v = .ref a from h]; rfl
def rIsU : R2 := rOr (fun x y H Q => y = .non ∧ Q (.bl (decide (x = .non))) H) rIsB
def rIsNotU : R2 := rOr (fun x y H Q => y = .non ∧ Q (.bl (!decide (x = .non))) H) rNotB
theorem op_isU {X : Cx} : OpR X (compareOp .Is) rIsU := OpR.or op_isN op_isBl
theorem op_isNotU {X : Cx} : OpR X (compareOp .IsNot) rIsNotU := OpR.or op_notN op_notBl
theorem o_is : Op2 K rIsU isD := by
  intro S H as cs dx dy x y k Q r hx hy h q
  unfold isD at h
  split at h
  · exact .inl ⟨hy, q (.bl _) _ S H (Sub.refl S) r (by rw [sh_isNon hx]; rfl) h⟩
  · exact .inr ⟨_, _, hx, hy, q (.bl _) _ S H (Sub.refl S) r rfl h⟩
  · exact h.elim
theorem o_isNot : Op2 K rIsNotU isNotD := by
  intro S H as cs dx dy x y k Q r hx hy h q
  unfold isNotD at h
  split at h
  · exact .inl ⟨hy, q (.bl _) _ S H (Sub.refl S) r (by rw [sh_isNon hx]; rfl) h⟩
  · exact .inr ⟨_, _, hx, hy, q (.bl _) _ S H (Sub.refl S) r rfl h⟩
  · exact h.elim
theorem IsL.atI {S : Hp} {ds : List D} {vs : List V} {i : Int} {d : D} (h : IsL K S ds vs) (e : L2.atI ds i = some d) : ∃ v, L2.atI vs i = some v ∧ Is K S d v := by
  unfold L2.atI at e ⊢
  rw [h.len]
  cases q : ixN ds.length i with
  | none => rw [q] at e; exact nomatch e
  | some j =>
    rw [q] at e
    exact h.get e
theorem atI_map {α β : Type} (f : α → β) (xs : List α) (i : Int) : atI (xs.map f) i = (atI xs i).map f := by
  unfold atI
  rw [List.length_map]
  cases ixN xs.length i with
  | none => rfl
  | some j => show (xs.map f)[j]? = (xs[j]?).map f; rw [List.getElem?_map]
theorem o_ix : Op2 K (rIx K) ixD := by
  intro S H as cs dx dy x y k Q r hx hy h q
  unfold ixD at h
  split at h
  · obtain ⟨a, vs, rfl, hs, is⟩ := hx
    unfold atD at h
    split at h
    · rename_i d e
      obtain ⟨v, e2, iv⟩ := is.atI e
      exact .inr (.inl ⟨a, vs, _, v, rfl, hy, r.sub.t hs, e2, q d v S H (Sub.refl S) r iv h⟩)
    · exact h.elim
  · obtain ⟨a, vs, rfl, hs, is⟩ := hx
    unfold atD at h
    split at h
    · rename_i d e
      obtain ⟨v, e2, iv⟩ := is.atI e
      exact .inl ⟨a, vs, _, v, rfl, hy, SqL.of hs, e2, q d v S H (Sub.refl S) r iv h⟩
    · exact h.elim
  · obtain ⟨a, rfl, hs⟩ := hx
    obtain ⟨n, e, hk⟩ := h
    refine .inl ⟨a, _, _, .int n, rfl, hy, r.sub.l hs, by rw [atI_map, e]; rfl, q (.int n) _ S H (Sub.refl S) r rfl hk⟩
  · exact h.elim
end
end DL
set_option Elab.async false
set_option linter.all false
set_option maxRecDepth 100000
set_option maxHeartbeats 2000000
namespace DL
open PySem L2

/-! ### == of texts too -/
def rEqU (K : PySem.W.Frag) : R2 := rOr rEq (rEqD K)
def rNeU (K : PySem.W.Frag) : R2 := rOr rNe (rNeD K)
theorem op_eqU {X : Cx} (hu : X.A.units + 64 < cLine) : OpR X (compareOp .Eq) (rEqU X.K) := OpR.or op_eq (op_eqD hu)
theorem op_neU {X : Cx} (hu : X.A.units + 64 < cLine) : OpR X (compareOp .NotEq) (rNeU X.K) := OpR.or op_ne (op_neD hu)
def eqUD : D → D → (D → Prop) → Prop
  | .str a, .str b, k => k (.bl (decide (a = b)))
  | .int a, .int b, k => k (.bl (decide (a = b)))
  | x, y, k => eqD x y k
def neUD : D → D → (D → Prop) → Prop
  | .str a, .str b, k => k (.bl (!decide (a = b)))
  | .int a, .int b, k => k (.bl (!decide (a = b)))
  | x, y, k => neD x y k
section
variable {K : PySem.W.Frag}
theorem dec_str (a b : Str) : decide (V.str a = V.str b) = decide (a = b) := by
  by_cases e : a = b
  · rw [e, decide_eq_true rfl, decide_eq_true rfl]
  · rw [decide_eq_false e, decide_eq_false fun q => e (V.str.inj q)]
theorem dec_int (a b : Int) : decide (V.int a = V.int b) = decide (a = b) := by
  by_cases e : a = b
  · rw [e, decide_eq_true rfl, decide_eq_true rfl]
  · rw [decide_eq_false e, decide_eq_false fun q => e (V.int.inj q)]
theorem o_eqU : Op2 K (rEqU K) eqUD := by
  intro S H as cs dx dy x y k Q r hx hy h q
  unfold eqUD at h
  split at h
  · rw [sh_str hx, sh_str hy]
    exact .inl ⟨rfl, q (.bl _) _ S H (Sub.refl S) r (by rw [dec_str]; rfl) h⟩
  · rw [sh_int hx, sh_int hy]
    exact .inl ⟨rfl, q (.bl _) _ S H (Sub.refl S) r (by rw [dec_int]; rfl) h⟩
  · exact .inr (o_eq S H as cs _ _ x y k Q r hx hy h q)
theorem o_neU : Op2 K (rNeU K) neUD := by
  intro S H as cs dx dy x y k Q r hx hy h q
  unfold neUD at h
  split at h
  · rw [sh_str hx, sh_str hy]
    exact .inl ⟨rfl, q (.bl _) _ S H (Sub.refl S) r (by rw [dec_str]; rfl) h⟩
  · rw [sh_int hx, sh_int hy]
    exact .inl ⟨rfl, q (.bl _) _ S H (Sub.refl S) r (by rw [dec_int]; rfl) h⟩
  · exact .inr (o_ne S H as cs _ _ x y k Q r hx hy h q)
end

/-! ### built-ins -/
abbrev RC := List V → Hp → VK → Prop
def rLenU (K : PySem.W.Frag) : RC := fun xs H Q => (∃ x n, xs = [x] ∧ LenV K x H n ∧ Q (.int n) H) ∨ ∃ a kvs, xs = [V.ref a] ∧ H a = some (.dK kvs) ∧ Q (.int kvs.length) H
theorem call_lenU {X : Cx} : CallR X (.builtin "len") (rLenU X.K) := CallR.or call_len call_lenD
def lenD : List D → (D → Prop) → Prop
  | [.lst ds], k => k (.int ds.length)
  | [.tup ds], k => k (.int ds.length)
  | [.scr ns], k => k (.int ns.length)
  | [.dic kvs], k => k (.int kvs.length)
  | _, _ => False
section
variable {K : PySem.W.Frag} {S H : Hp}
theorem shL_nil {vs : List V} (h : ShL K S H [] vs) : vs = [] := h
theorem shL_one {d : D} {vs : List V} (h : ShL K S H [d] vs) : ∃ v, vs = [v] ∧ Sh K S H d v := by
  obtain ⟨v, r, h1, h2, h3⟩ := h
  rw [shL_nil h3] at h1
  exact ⟨v, h1, h2⟩
theorem shL_two {d e : D} {vs : List V} (h : ShL K S H [d, e] vs) : ∃ v u, vs = [v, u] ∧ Sh K S H d v ∧ Sh K S H e u := by
  obtain ⟨v, r, h1, h2, h3⟩ := h
  obtain ⟨u, h4, h5⟩ := shL_one h3
  rw [h4] at h1
  exact ⟨v, u, h1, h2, h5⟩
theorem IsK.len : ∀ {kvs : List (Key × D)} {l : List (Key × V)}, IsK K S kvs l → l.length = kvs.length
  | [], _, h => by rw [IsK] at h; rw [h]; rfl
  | _ :: _, _, h => by
    obtain ⟨v, r, h1, h2, h3⟩ := h
    rw [h1, List.length_cons, List.length_cons, IsK.len h3]
theorem c_len : Cl K (rLenU K) lenD := by
  intro S H as cs ds vs k Q r hv h q
  unfold lenD at h
  split at h
  · obtain ⟨v, rfl, a, us, rfl, hs, is⟩ := shL_one hv
    exact .inl ⟨_, _, rfl, .inl ⟨us, SqL.of hs, is.len.symm⟩, q (.int _) _ S H (Sub.refl S) r rfl h⟩
  · obtain ⟨v, rfl, a, us, rfl, hs, is⟩ := shL_one hv
    exact .inl ⟨_, _, rfl, .inr ⟨us, r.sub.t hs, is.len.symm⟩, q (.int _) _ S H (Sub.refl S) r rfl h⟩
  · obtain ⟨v, rfl, a, rfl, hs⟩ := shL_one hv
    exact .inl ⟨_, _, rfl, .inl ⟨_, r.sub.l hs, by rw [List.length_map]⟩, q (.int _) _ S H (Sub.refl S) r rfl h⟩
  · obtain ⟨v, rfl, a, us, rfl, hs, is⟩ := shL_one hv
    exact .inr ⟨a, us, rfl, hs, q (.int _) _ S H (Sub.refl S) r (by rw [is.len]; rfl) h⟩
  · exact h.elim
/-! isinstance(x, T), T a built-in type -/
def tyD : D → String
  | .non => "NoneType"
  | .bl _ => "bool"
  | .int _ => "int"
  | .str _ => "str"
  | .tup _ => "tuple"
  | .lst _ => "list"
  | .scr _ => "list"
  | .dic _ => "dict"
  | _ => ""
def isiD : List D → (D → Prop) → Prop
  | [x, .ty n], k => ∃ b, kitB (tyD x) n = some b ∧ k (.bl b)
  | _, _ => False
theorem sh_ty {d : D} {v : V} (e : Sub S H) (h : Sh K S H d v) {n : String} {b : Bool} (hk : kitB (tyD d) n = some b) (hb : kitB "" n = none) : TyX K H v (.type (tyD d)) := by
  cases d with
  | non => rw [sh_non h]; exact .base .non
  | bl b => rw [sh_bl h]; exact .base (.bl b)
  | int i => rw [sh_int h]; exact .base (.int i)
  | str x => rw [sh_str h]; exact .base (.str x)
  | tup ds =>
    obtain ⟨a, vs, rfl, hs, _⟩ := h
    rcases e.t hs with (h1 | ⟨o, h1⟩) | ⟨o, its, n, h1, h2, _⟩
    · exact .base (.tup h1)
    · exact .fTuple h1
    · exact .kTuple h1 h2
  | lst ds =>
    obtain ⟨a, vs, rfl, hs, _⟩ := h
    exact .base (.lst hs)
  | scr ns =>
    obtain ⟨a, rfl, hs⟩ := h
    rcases e.l hs with (h1 | ⟨o, h1⟩) | ⟨o, its, n, h1, h2, _⟩
    · exact .base (.lst h1)
    · exact .base (.frz h1)
    · exact .kList h1 h2
  | dic ds =>
    obtain ⟨a, vs, rfl, hs, _⟩ := h
    exact .base (.dK hs)
  | ty m => rw [show tyD (.ty m) = "" from rfl, hb] at hk; cases hk
  | obj a => rw [show tyD (.obj a) = "" from rfl, hb] at hk; cases hk
def isiN (n : String) : List D → (D → Prop) → Prop
  | [x, .ty m], k => m = n ∧ ∃ b, kitB (tyD x) n = some b ∧ k (.bl b)
  | _, _ => False
theorem c_isi (n : String) (hb : kitB "" n = none) : Cl K (rIsi K) (isiN n) := by
  intro S H as cs ds vs k Q r hv h q
  unfold isiN at h
  split at h
  · obtain ⟨v, u, rfl, h1, h2⟩ := shL_two hv
    obtain ⟨rfl, b, e, h⟩ := h
    rw [show u = .ty _ from h2]
    exact ⟨v, _, _, _, b, rfl, .ty _, sh_ty r.sub h1 e hb, kit_ty e, q (.bl b) _ S H (Sub.refl S) r rfl h⟩
  · exact h.elim

/-! repr -/
def RpOk (d : D) : Prop := pyOk d = true ∧ (py d).showable = true ∧ (py d).hasDict = false ∧ (py d).depth ≤ 60 ∧ (py d).shown.length ≤ sizeLine
def rReprD (K : PySem.W.Frag) : RC := fun xs H Q => ∃ v d, xs = [v] ∧ Dp K H v d ∧ d.showable = true ∧ d.hasDict = false ∧ d.depth ≤ 60 ∧ d.shown.length ≤ sizeLine ∧ Q (.str d.shown) H
theorem call_reprD {X : Cx} (hg : X.A.guards = some []) (hu : X.A.units + 64 < cLine) : CallR X (.builtin "repr") (rReprD X.K) := by
  intro pins s σ H xs us Q I r h
  obtain ⟨v, d, rfl, hd, hs, hn, hdp, hz, q⟩ := h
  obtain ⟨u, rfl, rv⟩ := vals1 r
  obtain ⟨as, rd⟩ := Dp.reads I d v u hd rv
  have ans : ∀ tk t, EP X pins σ Q (.str d.shown t) { s with toks := tk } := fun tk t => ⟨.str _, H, I.tok tk, ⟨t, rfl⟩, q⟩
  cases hd with
  | non => rw [show u = Value.none from rv]; exact PySem.P.repr_of_none (ans _ _)
  | bl b => rw [show u = Value.bool b from rv]; exact PySem.P.repr_of_bool (by have := ans (s.toks + 1) s.toks; simpa only [PyData.shown] using this)
  | int i =>
    obtain ⟨t, rfl⟩ := rv
    exact PySem.P.repr_of_int (by simpa [PyData.showable] using hs) (ans _ _)
  | str x =>
    obtain ⟨t, rfl⟩ := rv
    exact PySem.P.repr_of_str (ans _ _) hz
  | lst h1 h2 =>
    rw [show u = Value.ref _ from rv] at rd ⊢
    exact repr_of_reads' rd hs (PyData.noDict_hsm hn) hg (by omega) (fun _ _ e => e) (fun h' t tk hk => ⟨.str _, H, I.kept hk, ⟨t, rfl⟩, q⟩) hz
  | tup h1 h2 =>
    rw [show u = Value.ref _ from rv] at rd ⊢
    exact repr_of_reads' rd hs (PyData.noDict_hsm hn) hg (by omega) (fun _ _ e => e) (fun h' t tk hk => ⟨.str _, H, I.kept hk, ⟨t, rfl⟩, q⟩) hz
def reprD : List D → (D → Prop) → Prop
  | [x], k => RpOk x ∧ k (.str (py x).shown)
  | _, _ => False
theorem c_repr : Cl K (rReprD K) reprD := by
  intro S H as cs ds vs k Q r hv h q
  unfold reprD at h
  split at h
  · obtain ⟨v, rfl, h1⟩ := shL_one hv
    obtain ⟨⟨a1, a2, a3, a4, a5⟩, hk⟩ := h
    exact ⟨v, _, rfl, h1.dp r.sub _ _ a1, a2, a3, a4, a5, q (.str _) _ S H (Sub.refl S) r rfl hk⟩
  · exact h.elim

/-! max, min, abs, sum, all, any, int, tuple, list -/
def rMaxU (K : PySem.W.Frag) : RC := fun xs H Q => (∃ i j, xs = [.int i, .int j] ∧ Q (.int (if j > i then j else i)) H) ∨ rMax K xs H Q
def rMinU (K : PySem.W.Frag) : RC := fun xs H Q => (∃ i j, xs = [.int i, .int j] ∧ Q (.int (if j < i then j else i)) H) ∨ rMin K xs H Q
theorem call_maxU {X : Cx} (hc : X.calm = true := by rfl) : CallR X (.builtin "max") (rMaxU X.K) := CallR.or (call_max2 hc) (cr_max hc)
theorem call_minU {X : Cx} (hc : X.calm = true := by rfl) : CallR X (.builtin "min") (rMinU X.K) := CallR.or (call_min2 hc) (cr_min hc)
def maxD : List D → (D → Prop) → Prop
  | [.int i, .int j], k => k (.int (max i j))
  | [.lst ds], k => ∃ ns : List Int, ds = ns.map D.int ∧ 0 < ns.length ∧ ∀ m, m ∈ ns → (∀ y, y ∈ ns → y ≤ m) → k (.int m)
  | _, _ => False
def minD : List D → (D → Prop) → Prop
  | [.int i, .int j], k => k (.int (min i j))
  | [.lst ds], k => ∃ ns : List Int, ds = ns.map D.int ∧ 0 < ns.length ∧ ∀ m, m ∈ ns → (∀ y, y ∈ ns → m ≤ y) → k (.int m)
  | _, _ => False
theorem c_max : Cl K (rMaxU K) maxD := by
  intro S H as cs ds vs k Q r hv h q
  unfold maxD at h
  split at h
  · rename_i i j
    obtain ⟨v, u, rfl, h1, h2⟩ := shL_two hv
    rw [sh_int h1, sh_int h2]
    refine .inl ⟨_, _, rfl, q (.int (max i j)) _ S H (Sub.refl S) r ?_ h⟩
    show V.int _ = V.int _
    congr 1
    split <;> omega
  · obtain ⟨v, rfl, a, us, rfl, hs, is⟩ := shL_one hv
    obtain ⟨ns, rfl, hl, hk⟩ := h
    have e := is.ints
    subst e
    exact .inr ⟨a, ns, rfl, SqL.of hs, hl, fun m h1 h2 => q (.int m) _ S H (Sub.refl S) r rfl (hk m h1 h2)⟩
  · exact h.elim
theorem c_min : Cl K (rMinU K) minD := by
  intro S H as cs ds vs k Q r hv h q
  unfold minD at h
  split at h
  · rename_i i j
    obtain ⟨v, u, rfl, h1, h2⟩ := shL_two hv
    rw [sh_int h1, sh_int h2]
    refine .inl ⟨_, _, rfl, q (.int (min i j)) _ S H (Sub.refl S) r ?_ h⟩
    show V.int _ = V.int _
    congr 1
    split <;> omega
  · obtain ⟨v, rfl, a, us, rfl, hs, is⟩ := shL_one hv
    obtain ⟨ns, rfl, hl, hk⟩ := h
    have e := is.ints
    subst e
    exact .inr ⟨a, ns, rfl, SqL.of hs, hl, fun m h1 h2 => q (.int m) _ S H (Sub.refl S) r rfl (hk m h1 h2)⟩
  · exact h.elim
def sumD : List D → (D → Prop) → Prop
  | [.lst ds], k => ∃ ns : List Int, ds = ns.map D.int ∧ k (.int ns.sum)
  | _, _ => False
theorem c_sum : Cl K (rSum K) sumD := by
  intro S H as cs ds vs k Q r hv h q
  unfold sumD at h
  split at h
  · obtain ⟨v, rfl, a, us, rfl, hs, is⟩ := shL_one hv
    obtain ⟨ns, rfl, hk⟩ := h
    have e := is.ints
    subst e
    exact ⟨a, ns, rfl, SqL.of hs, q (.int _) _ S H (Sub.refl S) r rfl hk⟩
  · exact h.elim
def allD : List D → (D → Prop) → Prop
  | [.lst ds], k => ∃ bs : List Bool, ds = bs.map D.bl ∧ k (.bl (bs.all id))
  | _, _ => False
def anyD : List D → (D → Prop) → Prop
  | [.lst ds], k => ∃ bs : List Bool, ds = bs.map D.bl ∧ k (.bl (bs.any id))
  | _, _ => False
theorem c_all : Cl K (rAll K) allD := by
  intro S H as cs ds vs k Q r hv h q
  unfold allD at h
  split at h
  · obtain ⟨v, rfl, a, us, rfl, hs, is⟩ := shL_one hv
    obtain ⟨bs, rfl, hk⟩ := h
    have e := is.bls
    subst e
    exact ⟨a, bs, rfl, SqL.of hs, q (.bl _) _ S H (Sub.refl S) r rfl hk⟩
  · exact h.elim
theorem c_any : Cl K (rAny K) anyD := by
  intro S H as cs ds vs k Q r hv h q
  unfold anyD at h
  split at h
  · obtain ⟨v, rfl, a, us, rfl, hs, is⟩ := shL_one hv
    obtain ⟨bs, rfl, hk⟩ := h
    have e := is.bls
    subst e
    exact ⟨a, bs, rfl, SqL.of hs, q (.bl _) _ S H (Sub.refl S) r rfl hk⟩
  · exact h.elim
def rInt1 : RC := fun xs H Q => (∃ i, xs = [.int i] ∧ Q (.int i) H) ∨ ∃ k, xs = [.bl k] ∧ Q (.int (if k then 1 else 0)) H
def intD : List D → (D → Prop) → Prop
  | [.int i], k => k (.int i)
  | [.bl b], k => k (.int (if b then 1 else 0))
  | _, _ => False
theorem c_int : Cl K rInt1 intD := by
  intro S H as cs ds vs k Q r hv h q
  unfold intD at h
  split at h
  · obtain ⟨v, rfl, h1⟩ := shL_one hv
    rw [sh_int h1]
    exact .inl ⟨_, rfl, q (.int _) _ S H (Sub.refl S) r rfl h⟩
  · obtain ⟨v, rfl, h1⟩ := shL_one hv
    rw [sh_bl h1]
    exact .inr ⟨_, rfl, q (.int _) _ S H (Sub.refl S) r rfl h⟩
  · exact h.elim
def rAbs1 : RC := fun xs H Q => ∃ i, xs = [.int i] ∧ Q (.int (if i < 0 then -i else i)) H
def absD : List D → (D → Prop) → Prop
  | [.int i], k => k (.int (if i < 0 then -i else i))
  | _, _ => False
theorem c_abs : Cl K rAbs1 absD := by
  intro S H as cs ds vs k Q r hv h q
  unfold absD at h
  split at h
  · obtain ⟨v, rfl, h1⟩ := shL_one hv
    rw [sh_int h1]
    exact ⟨_, rfl, q (.int _) _ S H (Sub.refl S) r rfl h⟩
  · exact h.elim
def rTupOf (K : PySem.W.Frag) : RC := fun xs H Q => ∃ p ys, xs = [.ref p] ∧ ((SqL K H p ys ∧ ∀ l, H l = none → Q (.ref l) (upd H l (.tup ys))) ∨ (SqT K H p ys ∧ Q (.ref p) H))
def tupOfD : List D → (D → Prop) → Prop
  | [.lst ds], k => k (.tup ds)
  | [.tup ds], k => k (.tup ds)
  | [.scr ns], k => k (.tup (ns.map D.int))
  | _, _ => False
theorem c_tupOf : Cl K (rTupOf K) tupOfD := by
  intro S H as cs ds vs k Q r hv h q
  unfold tupOfD at h
  split at h
  · obtain ⟨v, rfl, a, us, rfl, hs, is⟩ := shL_one hv
    refine ⟨a, us, rfl, .inl ⟨SqL.of hs, fun p hp => ?_⟩⟩
    have hn := Sub.new (o := .tup us) (r.sub.free hp)
    exact q (.tup _) _ _ _ hn (r.lay hp _) ⟨p, us, rfl, SqT.of upd_same, IsL.mono hn _ _ is⟩ h
  · obtain ⟨v, rfl, h1⟩ := shL_one hv
    obtain ⟨a, us, rfl, hs, is⟩ := h1
    exact ⟨a, us, rfl, .inr ⟨r.sub.t hs, q (.tup _) _ S H (Sub.refl S) r ⟨a, us, rfl, hs, is⟩ h⟩⟩
  · rename_i ns
    obtain ⟨v, rfl, a, rfl, hs⟩ := shL_one hv
    refine ⟨a, _, rfl, .inl ⟨r.sub.l hs, fun p hp => ?_⟩⟩
    have hn := Sub.new (o := .tup (ns.map V.int)) (r.sub.free hp)
    exact q (.tup _) _ _ _ hn (r.lay hp _) ⟨p, _, rfl, SqT.of upd_same, isL_ints _⟩ h
  · exact h.elim
def rLstOf (K : PySem.W.Frag) : RC := fun xs H Q => ∃ p ys, xs = [.ref p] ∧ (SqL K H p ys ∨ SqT K H p ys) ∧ ∀ l, H l = none → Q (.ref l) (upd H l (.lst ys))
/-- list(x), not changed later -/
def lstOfD : List D → (D → Prop) → Prop
  | [.lst ds], k => k (.lst ds)
  | [.tup ds], k => k (.lst ds)
  | [.scr ns], k => k (.lst (ns.map D.int))
  | _, _ => False
theorem c_lstOf : Cl K (rLstOf K) lstOfD := by
  intro S H as cs ds vs k Q r hv h q
  unfold lstOfD at h
  split at h
  · obtain ⟨v, rfl, a, us, rfl, hs, is⟩ := shL_one hv
    refine ⟨a, us, rfl, .inl (SqL.of hs), fun p hp => ?_⟩
    have hn := Sub.new (o := .lst us) (r.sub.free hp)
    exact q (.lst _) _ _ _ hn (r.lay hp _) ⟨p, us, rfl, upd_same, IsL.mono hn _ _ is⟩ h
  · obtain ⟨v, rfl, a, us, rfl, hs, is⟩ := shL_one hv
    refine ⟨a, us, rfl, .inr (r.sub.t hs), fun p hp => ?_⟩
    have hn := Sub.new (o := .lst us) (r.sub.free hp)
    exact q (.lst _) _ _ _ hn (r.lay hp _) ⟨p, us, rfl, upd_same, IsL.mono hn _ _ is⟩ h
  · rename_i ns
    obtain ⟨v, rfl, a, rfl, hs⟩ := shL_one hv
    refine ⟨a, _, rfl, .inl (r.sub.l hs), fun p hp => ?_⟩
    have hn := Sub.new (o := .lst (ns.map V.int)) (r.sub.free hp)
    exact q (.lst _) _ _ _ hn (r.lay hp _) ⟨p, _, rfl, upd_same, isL_ints _⟩ h
  · exact h.elim
end
end DL
set_option Elab.async false
set_option linter.all false
set_option maxRecDepth 100000
set_option maxHeartbeats 2000000
namespace DL
open PySem L2

/-! ### dicts -/
section
variable {K : PySem.W.Frag} {S : Hp}
theorem getK_nil (k : Key) : getK [] k = none := rfl
theorem getK_cons (p : Key × D) (r : List (Key × D)) (k : Key) : getK (p :: r) k = if p.1 = k then some p.2 else getK r k := by
  unfold getK
  rw [List.find?_cons]
  by_cases e : p.1 = k
  · rw [decide_eq_true e, if_pos e]; rfl
  · rw [decide_eq_false e, if_neg e]
theorem getK_set (k j : Key) (d : D) (kvs : List (Key × D)) : getK (setK kvs k d) j = if j = k then some d else getK kvs j := by
  have h1 : ∀ l : List (Key × D), (l.any fun kv => decide (kv.1 = k)) = false → getK (l ++ [(k, d)]) j = if j = k then some d else getK l j := fun l => by
    induction l with
    | nil =>
      intro _
      rw [List.nil_append, getK_cons, getK_nil]
      by_cases e : k = j
      · rw [if_pos e, if_pos e.symm]
      · rw [if_neg e, if_neg fun z => e z.symm]
    | cons p r ih =>
      intro h
      rw [List.any_cons, Bool.or_eq_false_iff] at h
      have np : ¬ p.1 = k := of_decide_eq_false h.1
      rw [List.cons_append, getK_cons, getK_cons, ih h.2]
      by_cases e : p.1 = j
      · rw [if_pos e, if_pos e, if_neg fun z => np (e.trans z)]
      · rw [if_neg e, if_neg e]
  have h2 : ∀ l : List (Key × D), (l.any fun kv => decide (kv.1 = k)) = true → getK (l.map fun kv => if kv.1 = k then (kv.1, d) else kv) j = if j = k then some d else getK l j := fun l => by
    induction l with
    | nil => intro h; cases h
    | cons p r ih =>
      intro h
      rw [List.map_cons, getK_cons, getK_cons]
      by_cases ep : p.1 = k
      · rw [if_pos ep]
        show (if p.1 = j then some d else _) = _
        by_cases e : p.1 = j
        · rw [if_pos e, if_pos (e.symm.trans ep)]
        · rw [if_neg e, if_neg e]
          by_cases hr : (r.any fun kv => decide (kv.1 = k)) = true
          · exact ih hr
          · have nj : ¬ j = k := fun z => e (ep.trans z.symm)
            rw [if_neg nj]
            have : (r.map fun kv => if kv.1 = k then (kv.1, d) else kv) = r := by
              refine (List.map_congr_left fun x hx => ?_).trans (List.map_id r)
              have hf : ¬ x.1 = k := fun z => hr (List.any_eq_true.mpr ⟨x, hx, decide_eq_true z⟩)
              rw [if_neg hf]; rfl
            rw [this]
      · rw [if_neg ep]
        rw [List.any_cons, decide_eq_false ep, Bool.false_or] at h
        by_cases e : p.1 = j
        · rw [if_pos e, if_pos e, if_neg fun z => ep (e.trans z)]
        · rw [if_neg e, if_neg e]
          exact ih h
  unfold setK
  by_cases h : (kvs.any fun kv => decide (kv.1 = k)) = true
  · rw [if_pos h]; exact h2 kvs h
  · rw [if_neg h]; exact h1 kvs (Bool.eq_false_iff.mpr h)
theorem IsK.get : ∀ {kvs : List (Key × D)} {l : List (Key × V)} (k : Key), IsK K S kvs l → (getK kvs k = none ∧ valV l k = none) ∨ ∃ d v, getK kvs k = some d ∧ valV l k = some v ∧ Is K S d v
  | [], _, k, h => by rw [IsK] at h; rw [h]; exact .inl ⟨rfl, rfl⟩
  | kd :: r, _, k, h => by
    obtain ⟨v, l', rfl, h2, h3⟩ := h
    rw [getK_cons]
    by_cases e : kd.1 = k
    · rw [if_pos e]
      exact .inr ⟨kd.2, v, rfl, valV_pos (p := (kd.1, v)) e, h2⟩
    · rw [if_neg e, valV_neg (p := (kd.1, v)) e]
      exact IsK.get k h3
theorem IsK.snoc {d : D} {v : V} {k : Key} (hd : Is K S d v) : ∀ {kvs : List (Key × D)} {l : List (Key × V)}, IsK K S kvs l → IsK K S (kvs ++ [(k, d)]) (l ++ [(k, v)])
  | [], _, h => by rw [IsK] at h; rw [h]; exact ⟨v, [], rfl, hd, rfl⟩
  | kd :: r, _, h => by
    obtain ⟨v', l', rfl, h2, h3⟩ := h
    exact ⟨v', _, rfl, h2, IsK.snoc hd h3⟩
theorem IsK.mapK {d : D} {v : V} {k : Key} (hd : Is K S d v) : ∀ {kvs : List (Key × D)} {l : List (Key × V)}, IsK K S kvs l → IsK K S (kvs.map fun kv => if kv.1 = k then (kv.1, d) else kv) (l.map fun kv => if kv.1 = k then (kv.1, v) else kv)
  | [], _, h => by rw [IsK] at h; rw [h]; exact rfl
  | kd :: r, _, h => by
    obtain ⟨v', l', rfl, h2, h3⟩ := h
    rw [List.map_cons, List.map_cons]
    by_cases e : kd.1 = k
    · rw [if_pos e, if_pos (show (kd.1, v').1 = k from e)]
      exact ⟨v, _, rfl, hd, IsK.mapK hd h3⟩
    · rw [if_neg e, if_neg (show ¬ (kd.1, v').1 = k from e)]
      exact ⟨v', _, rfl, h2, IsK.mapK hd h3⟩
theorem IsK.any {k : Key} : ∀ {kvs : List (Key × D)} {l : List (Key × V)}, IsK K S kvs l → (l.any fun kv => decide (kv.1 = k)) = (kvs.any fun kv => decide (kv.1 = k))
  | [], _, h => by rw [IsK] at h; rw [h]; rfl
  | kd :: r, _, h => by
    obtain ⟨v', l', rfl, h2, h3⟩ := h
    rw [List.any_cons, List.any_cons, IsK.any h3]
theorem IsK.put {d : D} {v : V} {k : Key} {kvs : List (Key × D)} {l : List (Key × V)} (h : IsK K S kvs l) (hd : Is K S d v) : IsK K S (setK kvs k d) (putK l k v) := by
  unfold setK putK
  rw [h.any]
  split
  · exact h.mapK hd
  · exact h.snoc hd
end
def keyD : D → (Key → Prop) → Prop
  | .int i, k => k (.inl i)
  | .str x, k => k (.inr x)
  | _, _ => False
theorem keyD_sh {K : PySem.W.Frag} {S H : Hp} {d : D} {v : V} {k : Key → Prop} (h : Sh K S H d v) (q : keyD d k) : ∃ key, v = kV key ∧ k key := by
  unfold keyD at q
  split at q
  · exact ⟨.inl _, sh_int h, q⟩
  · exact ⟨.inr _, sh_str h, q⟩
  · exact q.elim
/-- key in dict -/
def dInK (neg : Bool) (a b : DE) : DE := fun en cs k => a en cs fun x cs1 => b en cs1 fun y cs2 => withD cs2 x fun dx => withD cs2 y fun dy =>
  match dy with
  | .dic kvs => keyD dx fun key => k (.d (.bl (if neg = true then !(getK kvs key).isSome else (getK kvs key).isSome))) cs2
  | _ => False
section
variable {X : Cx} {pos : Pos}
theorem dget_of {K : PySem.W.Frag} {S H : Hp} {as : List Addr} {cs : Cs} (r : Rep K S H as cs) {kvs : List (Key × D)} {y : V} (hy : Sh K S H (.dic kvs) y) (key : Key) :
    ∃ a o, y = .ref a ∧ DGet H a (kV key) o ∧ ((getK kvs key = none ∧ o = none) ∨ ∃ d v, getK kvs key = some d ∧ o = some v ∧ Is K S d v) := by
  obtain ⟨a, kv, rfl, hs, is⟩ := hy
  exact ⟨a, _, rfl, DGet.k hs, is.get key⟩
theorem q_inK {a b : Expr} {ta tb : TE} {da db : DE} (hu : X.A.units + 1 < cLine) (ha : QE X a ta da) (hb : QE X b tb db) (hm : behindInMarks .In b = false := by rfl) : QE X (.Compare a [.In] [b] pos) (tDIn ta tb) (dInK false da db) := by
  refine ⟨pe_cmp (pc_din hu ha.pe hb.pe) hm, ?_⟩
  intro σ H S as en cs k Q rp e q p
  refine ha.sem.use rp e q fun z v S1 H1 as1 cs1 e1 r1 v1 q1 => ?_
  refine hb.sem.use r1 (e.mono e1) q1 fun z2 v2 S2 H2 as2 cs2 e2 r2 w2 q2 => ?_
  obtain ⟨dx, l1, q2⟩ := withD_look q2
  obtain ⟨dy, l2, q2⟩ := withD_look q2
  split at q2
  · obtain ⟨key, rfl, q2⟩ := keyD_sh (look_sh r2 (v1.mono e2) l1) q2
    obtain ⟨ad, o, rfl, g, c⟩ := dget_of r2 (look_sh r2 w2 l2) key
    refine ⟨ad, o, rfl, g, p _ _ S2 H2 as2 cs2 (e1.trans e2) r2 ?_ q2⟩
    rw [if_neg (by decide)]
    rcases c with ⟨h1, h2⟩ | ⟨d, u, h1, h2, _⟩ <;> (rw [h1, h2]; exact rfl)
  · exact q2.elim
theorem q_notinK {a b : Expr} {ta tb : TE} {da db : DE} (hu : X.A.units + 1 < cLine) (ha : QE X a ta da) (hb : QE X b tb db) (hm : behindInMarks .NotIn b = false := by rfl) : QE X (.Compare a [.NotIn] [b] pos) (tDNotIn ta tb) (dInK true da db) := by
  refine ⟨pe_cmp (pc_dnotin hu ha.pe hb.pe) hm, ?_⟩
  intro σ H S as en cs k Q rp e q p
  refine ha.sem.use rp e q fun z v S1 H1 as1 cs1 e1 r1 v1 q1 => ?_
  refine hb.sem.use r1 (e.mono e1) q1 fun z2 v2 S2 H2 as2 cs2 e2 r2 w2 q2 => ?_
  obtain ⟨dx, l1, q2⟩ := withD_look q2
  obtain ⟨dy, l2, q2⟩ := withD_look q2
  split at q2
  · obtain ⟨key, rfl, q2⟩ := keyD_sh (look_sh r2 (v1.mono e2) l1) q2
    obtain ⟨ad, o, rfl, g, c⟩ := dget_of r2 (look_sh r2 w2 l2) key
    refine ⟨ad, o, rfl, g, p _ _ S2 H2 as2 cs2 (e1.trans e2) r2 ?_ q2⟩
    rw [if_pos rfl]
    rcases c with ⟨h1, h2⟩ | ⟨d, u, h1, h2, _⟩ <;> (rw [h1, h2]; exact rfl)
  · exact q2.elim
/-- d[k] -/
def dGetK (a b : DE) : DE := fun en cs k => a en cs fun x cs1 => b en cs1 fun y cs2 => withD cs2 x fun dx => withD cs2 y fun dy =>
  match dx with
  | .dic kvs => keyD dy fun key => match getK kvs key with
    | some d => k (.d d) cs2
    | none => False
  | _ => False
theorem q_getK {a b : Expr} {ta tb : TE} {da db : DE} (hu : X.A.units + 1 < cLine) (ha : QE X a ta da) (hb : QE X b tb db) (hs : NoSl b) : QE X (.Subscript a b pos) (tDGet ta tb) (dGetK da db) := by
  refine ⟨pe_dget hu ha.pe hb.pe hs, ?_⟩
  intro σ H S as en cs k Q rp e q p
  refine ha.sem.use rp e q fun z v S1 H1 as1 cs1 e1 r1 v1 q1 => ?_
  refine hb.sem.use r1 (e.mono e1) q1 fun z2 v2 S2 H2 as2 cs2 e2 r2 w2 q2 => ?_
  obtain ⟨dx, l1, q2⟩ := withD_look q2
  obtain ⟨dy, l2, q2⟩ := withD_look q2
  split at q2
  · obtain ⟨key, rfl, q2⟩ := keyD_sh (look_sh r2 w2 l2) q2
    obtain ⟨ad, o, rfl, g, c⟩ := dget_of r2 (look_sh r2 (v1.mono e2) l1) key
    split at q2
    · rename_i d hd
      rcases c with ⟨h1, h2⟩ | ⟨d', u, h1, h2, h3⟩
      · rw [h1] at hd; cases hd
      · rw [h1] at hd; cases hd
        rw [h2] at g
        exact ⟨ad, u, rfl, g, p (.d _) u S2 H2 as2 cs2 (e1.trans e2) r2 h3 q2⟩
    · exact q2.elim
  · exact q2.elim
/-- {} that will be filled -/
def dDicC : DE := fun _ cs k => k (.c cs.length) (cs ++ [.dic []])
theorem q_dicC : QE X (.Dict [] [] pos) tDNewK dDicC := by
  refine ⟨pe_dnewK, ?_⟩
  intro σ H S as en cs k Q r e q p
  intro a na
  exact p (.c cs.length) (.ref a) S _ (as ++ [a]) _ ⟨Sub.refl _, [a], rfl⟩ (r.cell na (c := .dic []) ⟨r.sub.free na, [], upd_same, rfl⟩) ⟨a, r.get_new a, rfl⟩ q

/-! ### slices -/
def DO := En → Cs → (Option Int → Cs → Prop) → Prop
structure QO (X : Cx) (e : Option Expr) (to : TO) (t : DO) : Prop where
  po : PO X e to
  sem : ∀ (σ : L2.St) (H S : Hp) (as : List Addr) (en : En) (cs : Cs) (k : Option Int → Cs → Prop) (Q : Option Int → Hp → Prop), Rep X.K S H as cs → EnvOk X.K S as en σ → t en cs k →
    (∀ (o : Option Int) (S' H' : Hp) (as' : List Addr) (cs' : Cs), Ext S as S' as' → Rep X.K S' H' as' cs' → k o cs' → Q o H') → to σ H Q
def dNoPart : DO := fun _ cs k => k none cs
def dPart (a : DE) : DO := fun en cs k => a en cs fun z cs1 => ∃ i, z = .d (.int i) ∧ k (some i) cs1
theorem qo_none : QO X none tNoPart dNoPart := ⟨po_none, fun σ H S as en cs k Q r e q p => p none S H as cs Ext.refl r q⟩
theorem qo_some {a : Expr} {ta : TE} {da : DE} (ha : QE X a ta da) : QO X (some a) (tPart ta) (dPart da) := by
  refine ⟨po_some ha.pe, fun σ H S as en cs k Q r e q p => ?_⟩
  refine ha.sem.use r e q fun z v S1 H1 as1 cs1 e1 r1 v1 q1 => ?_
  obtain ⟨i, rfl, q1⟩ := q1
  exact ⟨i, v1, p (some i) S1 H1 as1 cs1 e1 r1 q1⟩
def cutG {α : Type} (xs : List α) (lo hi : Option Int) : List α := (xs.drop (HT.sIx xs.length 0 lo)).take (HT.sIx xs.length xs.length hi - HT.sIx xs.length 0 lo)
def sliceD : D → Option Int → Option Int → (D → Prop) → Prop
  | .lst ds, lo, hi, k => k (.lst (cutG ds lo hi))
  | .tup ds, lo, hi, k => k (.tup (cutG ds lo hi))
  | _, _, _, _ => False
def rSlU (K : PySem.W.Frag) : V → Option Int → Option Int → Hp → VK → Prop := fun x lo hi H Q => rSlL K x lo hi H Q ∨ rSlA K x lo hi H Q
theorem sl_U : SlR X (rSlU X.K) := SlR.or sl_list sl_tupA
def dSl (a : DE) (lo hi : DO) : DE := fun en cs k => a en cs fun x cs1 => lo en cs1 fun l cs2 => hi en cs2 fun h cs3 => withD cs3 x fun dx => sliceD dx l h fun z => k (.d z) cs3
theorem IsL.cut {K : PySem.W.Frag} {S : Hp} {ds : List D} {vs : List V} (h : IsL K S ds vs) (lo hi : Option Int) : IsL K S (cutG ds lo hi) (cutV vs lo hi) := by
  unfold cutG cutV
  rw [h.len]
  exact (h.drop _).take _
theorem q_slice {a : Expr} {lo hi : Option Expr} {ta : TE} {da : DE} {tl th : TO} {dl dh : DO} {p2 : Pos} (ha : QE X a ta da) (hl : QO X lo tl dl) (hh : QO X hi th dh) : QE X (.Subscript a (.Slice lo hi none p2) pos) (tSl (rSlU X.K) ta tl th) (dSl da dl dh) := by
  refine ⟨pe_slice sl_U ha.pe hl.po hh.po, ?_⟩
  intro σ H S as en cs k Q rp e q p
  refine ha.sem.use rp e q fun z v S1 H1 as1 cs1 e1 r1 v1 q1 => ?_
  refine hl.sem σ H1 S1 as1 en cs1 _ _ r1 (e.mono e1) q1 fun l S2 H2 as2 cs2 e2 r2 q2 => ?_
  refine hh.sem σ H2 S2 as2 en cs2 _ _ r2 (e.mono (e1.trans e2)) q2 fun h S3 H3 as3 cs3 e3 r3 q3 => ?_
  obtain ⟨dx, l1, q3⟩ := withD_look q3
  have hx := look_sh r3 (v1.mono (e2.trans e3)) l1
  have E := (e1.trans e2).trans e3
  cases dx with
  | lst ds =>
    obtain ⟨ad, vs, rfl, hs, is⟩ := hx
    refine .inl ⟨ad, vs, rfl, SqL.of hs, fun b hb => ?_⟩
    have hn := Sub.new (o := .lst (cutV vs l h)) (r3.sub.free hb)
    exact p (.d (.lst _)) _ _ _ as3 cs3 (E.trans (Ext.of hn)) (r3.lay hb _) ⟨b, _, rfl, upd_same, IsL.mono hn _ _ (is.cut l h)⟩ q3
  | tup ds =>
    obtain ⟨ad, vs, rfl, hs, is⟩ := hx
    refine .inr ⟨ad, vs, rfl, r3.sub.t hs, fun w => ?_, fun _ b hb => ?_⟩
    · refine p (.d (.tup _)) _ S3 H3 as3 cs3 E r3 ⟨ad, vs, rfl, hs, ?_⟩ q3
      unfold cutG
      rw [← is.len, w.1, w.2, List.drop_zero, Nat.sub_zero, is.len, List.take_length]
      exact is
    · have hn := Sub.new (o := .tup (cutV vs l h)) (r3.sub.free hb)
      exact p (.d (.tup _)) _ _ _ as3 cs3 (E.trans (Ext.of hn)) (r3.lay hb _) ⟨b, _, rfl, SqT.of upd_same, IsL.mono hn _ _ (is.cut l h)⟩ q3
  | _ => exact q3.elim
/-- n.bit_length() -/
def dBits (a : DE) : DE := fun en cs k => a en cs fun z cs1 => ∃ i, z = .d (.int i) ∧ k (.d (.int (Builtin.Int.intBits i : Nat))) cs1
theorem q_bits {o : Expr} {to : TE} {d : DE} {apos : Pos} (ho : QE X o to d) (hbase : attributeBase o "bit_length" X.env (eval o X.env) = eval o X.env := by rfl) (hline : (apos.endLine == pos.line) = true := by rfl) : QE X (.Call (.Attribute o "bit_length" apos) [] [] pos) (tBits to) (dBits d) := by
  refine ⟨pe_bits ho.pe hbase hline, ?_⟩
  intro σ H S as en cs k Q rp e q p
  refine ho.sem.use rp e q fun z v S1 H1 as1 cs1 e1 r1 v1 q1 => ?_
  obtain ⟨i, rfl, q1⟩ := q1
  exact ⟨i, v1, p (.d (.int _)) _ S1 H1 as1 cs1 e1 r1 rfl q1⟩
end
end DL
set_option Elab.async false
set_option linter.all false
set_option maxRecDepth 100000
set_option maxHeartbeats 2000000
namespace DL
open PySem L2

/-! ### targets -/
theorem wipe_set {σ : L2.St} {i : Nat} {o : Option V} : ∀ {own : List Nat}, i ∈ own → L2.wipe (σ.set i o) own = L2.wipe σ own
  | [], h => by simp at h
  | j :: js, h => by
    show (L2.wipe (σ.set i o) js).set j none = (L2.wipe σ js).set j none
    by_cases hj : i ∈ js
    · rw [wipe_set hj]
    · have e : i = j := by
        rcases List.mem_cons.mp h with e | e
        · exact e
        · exact absurd e hj
      subst e
      have far : ∀ (τ : L2.St) (ks : List Nat), i ∉ ks → L2.wipe (τ.set i o) ks = (L2.wipe τ ks).set i o := fun τ ks => by
        induction ks with
        | nil => intro _; rfl
        | cons k ks ih =>
          intro hk
          show (L2.wipe (τ.set i o) ks).set k none = ((L2.wipe τ ks).set k none).set i o
          rw [ih fun z => hk (List.mem_cons_of_mem _ z), List.set_comm _ _ (show i ≠ k from fun z => hk (z ▸ List.mem_cons_self))]
      rw [far σ js hj, List.set_set]
theorem wipe_wipe {σ : L2.St} : ∀ (own js : List Nat), (∀ j ∈ js, j ∈ own) → L2.wipe (L2.wipe σ js) own = L2.wipe σ own
  | _, [], _ => rfl
  | own, j :: js, h => by
    show L2.wipe ((L2.wipe σ js).set j none) own = _
    rw [wipe_set (h j List.mem_cons_self)]
    exact wipe_wipe own js fun k hk => h k (List.mem_cons_of_mem _ hk)
def GQ (K : PySem.W.Frag) (S : Hp) (as : List Addr) (σ : L2.St) (is : List Nat) (k : En → Cs → Prop) (Q : L2.St → Hp → Prop) : Prop :=
  ∀ (σ' : L2.St) (S' H' : Hp) (as' : List Addr) (en' : En) (cs' : Cs), Ext S as S' as' → Rep K S' H' as' cs' → EnvOk K S' as' en' σ' → (∀ own : List Nat, (∀ i ∈ is, i ∈ own) → L2.wipe σ' own = L2.wipe σ own) → k en' cs' → Q σ' H'
def SemG (K : PySem.W.Frag) (g : TG) (dg : DG) (is : List Nat) : Prop :=
  ∀ (z : Z) (v : V) (σ : L2.St) (H S : Hp) (as : List Addr) (en : En) (cs : Cs) (k : En → Cs → Prop) (Q : L2.St → Hp → Prop), Rep K S H as cs → EnvOk K S as en σ → VZ K S as z v → dg z en cs k → GQ K S as σ is k Q → g v σ H Q
def SemGs (K : PySem.W.Frag) (g : TGs) (dg : DGs) (is : List Nat) : Prop :=
  ∀ (ds : List D) (vs : List V) (σ : L2.St) (H S : Hp) (as : List Addr) (en : En) (cs : Cs) (k : En → Cs → Prop) (Q : L2.St → Hp → Prop), Rep K S H as cs → EnvOk K S as en σ → IsL K S ds vs → dg ds en cs k → GQ K S as σ is k Q → g vs σ H Q
structure QG (X : Cx) (tg : Expr) (g : TG) (dg : DG) (is : List Nat) : Prop where
  pg : PG X tg g
  sem : SemG X.K g dg is
structure QGs (X : Cx) (ts : List Expr) (g : TGs) (dg : DGs) (is : List Nat) : Prop where
  pgs : PGs X ts g
  sem : SemGs X.K g dg is
section
variable {X : Cx} {pos : Pos}
def dgName (i : Nat) : DG := fun z en cs k => k (en.set i (some z)) cs
theorem sem_gname {K : PySem.W.Frag} (i : Nat) : SemG K (gName i) (dgName i) [i] := by
  intro z v σ H S as en cs k Q r e vz h p
  exact p (σ.set i (some v)) S H as _ cs Ext.refl r (e.set vz i) (fun own ho => wipe_set (ho i List.mem_cons_self)) h
theorem qg_name (i : Nat) {x : Str} (hN : X.N.Nodup) (hi : X.N[i]? = some x := by rfl) (hx : Loc X.env.scope x := by first | exact Or.inl rfl | exact Or.inr rfl) (hf : X.fn x = true ∨ X.env.scope.names.lookup x = some .local := by first | exact .inl rfl | exact .inr rfl | assumption) : QG X (.Name x pos) (gName i) (dgName i) [i] := ⟨pg_name hN hi hx hf, sem_gname i⟩
def dgsNil : DGs := fun ds en cs k => ds = [] ∧ k en cs
def dgsCons (g : DG) (r : DGs) : DGs := fun ds en cs k => match ds with
  | d :: ds => g (.d d) en cs fun en1 cs1 => r ds en1 cs1 k
  | [] => False
theorem qgs_nil : QGs X [] gNil dgsNil [] := by
  refine ⟨pgs_nil, ?_⟩
  intro ds vs σ H S as en cs k Q r e hv h p
  obtain ⟨rfl, h⟩ := h
  rw [IsL] at hv
  exact ⟨hv, p σ S H as en cs Ext.refl r e (fun _ _ => rfl) h⟩
theorem qgs_cons {e : Expr} {es : List Expr} {g : TG} {gs : TGs} {dg : DG} {dgs : DGs} {is js : List Nat} (h1 : QG X e g dg is) (h2 : QGs X es gs dgs js) (hs : (assignEach (e :: es) X.env).map (·.2) = assign e X.env :: (assignEach es X.env).map (·.2) := by rfl) : QGs X (e :: es) (gCons g gs) (dgsCons dg dgs) (is ++ js) := by
  refine ⟨pgs_cons h1.pg h2.pgs hs, ?_⟩
  intro ds vs σ H S as en cs k Q r e hv h p
  cases ds with
  | nil => exact h.elim
  | cons d ds =>
    obtain ⟨v, vr, rfl, i1, i2⟩ := hv
    refine ⟨v, vr, rfl, h1.sem (.d d) v σ H S as en cs _ _ r e i1 h fun σ1 S1 H1 as1 en1 cs1 e1 r1 ev1 w1 q1 => ?_⟩
    refine h2.sem ds vr σ1 H1 S1 as1 en1 cs1 k Q r1 ev1 (IsL.mono e1.sub _ _ i2) q1 fun σ2 S2 H2 as2 en2 cs2 e2 r2 ev2 w2 q2 => ?_
    exact p σ2 S2 H2 as2 en2 cs2 (e1.trans e2) r2 ev2 (fun own ho => (w2 own fun i hi => ho i (List.mem_append_right _ hi)).trans (w1 own fun i hi => ho i (List.mem_append_left _ hi))) q2
def dgTup (n : Nat) (g : DGs) : DG := fun z en cs k => match z with
  | .d (.tup ds) => ds.length = n ∧ g ds en cs k
  | _ => False
theorem qg_tup {es : List Expr} {kk n : Nat} {g : TGs} {dg : DGs} {is : List Nat} (h : QGs X es g dg is) (hc : X.calm = true := by rfl) (hn : (assignEach es X.env).length = n := by rfl) (hst : (assignEach es X.env).findIdx? (·.1) = none := by rfl) :
    QG X (.Tuple es kk pos) (gTup X.K n g) (dgTup n dg) is := by
  refine ⟨pg_tup hc h.pgs hn hst, ?_⟩
  intro z v σ H S as en cs k Q r e vz hh p
  unfold dgTup at hh
  split at hh
  · obtain ⟨a, vs, rfl, hs, i⟩ := vz
    exact ⟨a, vs, rfl, r.sub.t hs, by rw [i.len]; exact hh.1, h.sem _ vs σ H S as en cs k Q r e i hh.2 p⟩
  · exact hh.elim
/-- xs[i] = v, xs a cell -/
def dgSet (o i : DE) : DG := fun z en cs k => o en cs fun x cs1 => i en cs1 fun y cs2 => match x, y, z with
  | .c n, .d (.int j), .d d => match cs2[n]? with
    | some (.lst ds) => ∃ m, ixN ds.length j = some m ∧ k en (cs2.set n (.lst (ds.set m d)))
    | _ => False
  | _, _, _ => False
theorem Rep.cell_lst {K : PySem.W.Frag} {S H : Hp} {as : List Addr} {cs : Cs} (r : Rep K S H as cs) {n : Nat} {a : Addr} {ds : List D} (h1 : as[n]? = some a) (h2 : cs[n]? = some (.lst ds)) : S a = none ∧ ∃ vs, H a = some (.lst vs) ∧ IsL K S ds vs := r.cel n a _ h1 h2
theorem qg_set {o i : Expr} {to ti : TE} {od id : DE} (ho : QE X o to od) (hi : QE X i ti id)
    (ha : ∀ v, assign (.Subscript o i pos) X.env v = (do
      let ov ← holding [v] (eval o X.env)
      let iv ← holding [v, ov] (eval i X.env)
      standAt pos
      holding [v, ov, iv] (setItem ov iv v)
      release [v, ov, iv] []) := by intro _; rfl) : QG X (.Subscript o i pos) (gSub to ti rSetL) (dgSet od id) [] := by
  refine ⟨pg_sub ho.pe hi.pe set_list ha, ?_⟩
  intro z v σ H S as en cs k Q r e vz hh p
  refine ho.sem.use r e hh fun z1 v1 S1 H1 as1 cs1 e1 r1 w1 q1 => ?_
  refine hi.sem.use r1 (e.mono e1) q1 fun z2 v2 S2 H2 as2 cs2 e2 r2 w2 q2 => ?_
  split at q2
  · rename_i n j d
    split at q2
    · rename_i ds hc
      obtain ⟨m, hm, q2⟩ := q2
      obtain ⟨a, ha1, rfl⟩ := w1.mono e2
      obtain ⟨hS, vs, hl, is⟩ := r2.cell_lst ha1 hc
      have vd : Is X.K S2 d v := Is.mono (e1.trans e2).sub _ _ vz
      refine ⟨a, vs, j, m, rfl, w2, hl, by rw [is.len]; exact hm, ?_⟩
      exact p σ S2 _ as2 en _ (e1.trans e2) (r2.put ha1 (c := .lst (ds.set m d)) ⟨hS, _, upd_same, is.set vd⟩ hS) (e.mono (e1.trans e2)) (fun _ _ => rfl) q2
    · exact q2.elim
  · exact q2.elim

/-! ### what is walked -/
structure Wk (K : PySem.W.Frag) (J : It) (S : Hp) (as : List Addr) (ds : List D) (keep : Cs → Prop) : Prop where
  stop : ∀ (S' H : Hp) (as' : List Addr) (cs : Cs) (i : Nat), Ext S as S' as' → Rep K S' H as' cs → keep cs → ds.length ≤ i → J.stop i H
  go : ∀ (S' H : Hp) (as' : List Addr) (cs : Cs) (i : Nat) (d : D), Ext S as S' as' → Rep K S' H as' cs → keep cs → ds[i]? = some d →
    J.go i H ∧ ∀ x H', J.yld i H x H' → ∃ S'', Sub S' S'' ∧ Rep K S'' H' as' cs ∧ Is K S'' d x
structure QI (X : Cx) (tg iter : Expr) (wi : TI) (it : DI) : Prop where
  pi : PI X tg iter wi
  sem : ∀ (σ : L2.St) (H S : Hp) (as : List Addr) (en : En) (cs : Cs) (k : List D → (Cs → Prop) → Cs → Prop) (R : It → Hp → Prop), Rep X.K S H as cs → EnvOk X.K S as en σ → it en cs k →
    (∀ (J : It) (S' H' : Hp) (as' : List Addr) (ds : List D) (keep : Cs → Prop) (cs' : Cs), Ext S as S' as' → Rep X.K S' H' as' cs' → Wk X.K J S' as' ds keep → k ds keep cs' → R J H') → wi σ H R
def yes : Cs → Prop := fun _ => True
/-- a list or tuple, and which cells must stay -/
def seqD (cs : Cs) (z : Z) (k : List D → (Cs → Prop) → Prop) : Prop :=
  match z with
  | .d (.lst ds) => k ds yes
  | .d (.tup ds) => k ds yes
  | .d (.scr ns) => k (ns.map D.int) yes
  | .c n => match cs[n]? with
    | some (.lst ds) => k ds fun c => c[n]? = some (.lst ds)
    | _ => False
  | _ => False
def diSeq (a : DE) : DI := fun en cs k => a en cs fun z cs1 => seqD cs1 z fun ds keep => k ds keep cs1
def iSeq (K : PySem.W.Frag) (tl : TE) : TI := fun σ H R => tl σ H fun x H1 => ∃ a, x = .ref a ∧ ((∃ xs, SqL K H1 a xs ∧ R (Itl K a) H1) ∨ ∃ xs, SqT K H1 a xs ∧ R (Itt K a) H1)
theorem pi_seq {tg l : Expr} {tl : TE} (hl : PE X l tl) : PI X tg l (iSeq X.K tl) := by
  refine ⟨fun pins s σ H R I h => thn (hl.run pins s σ H _ I h) fun v s1 ⟨x, H1, I1, r1, a, e, q⟩ => ?_⟩
  subst e
  cases r1
  have fp : ∀ {c : String} (b : Addr), b ∈ [s1.heap.objs.size] → FpOk X pins H1 b := fun b hb => by
    have e : b = s1.heap.objs.size := by simpa using hb
    subst e
    exact I1.fpOk (Nat.le_refl _) (I1.hok.fresh (Nat.le_refl _))
  rcases q with ⟨xs, hq, q⟩ | ⟨xs, hq, q⟩
  · obtain ⟨its, rv, pl, hz⟩ := I1.list hq
    exact wpAny_pyIter_list pl.isList ⟨_, [s1.heap.objs.size], _, _, H1, rfl, I1.kept (t' := s1.toks) fun b o e => Heap.get?_push_of_some _ e, turn_list a _, ⟨_, Heap.get?_push_size _ rfl, rfl, rfl⟩, fp (c := ""), q⟩
  · obtain ⟨its, rv, pl, hz⟩ := I1.tuple hq
    exact wpAny_pyIter_tuple pl ⟨_, [s1.heap.objs.size], _, _, H1, rfl, I1.kept (t' := s1.toks) fun b o e => Heap.get?_push_of_some _ e, turn_tuple a _, ⟨_, Heap.get?_push_size _ rfl, rfl, rfl⟩, fp (c := ""), q⟩
theorem wk_l {K : PySem.W.Frag} {S : Hp} {as : List Addr} {ds : List D} {keep : Cs → Prop} {a : Addr}
    (h : ∀ (S' H : Hp) (as' : List Addr) (cs : Cs), Ext S as S' as' → Rep K S' H as' cs → keep cs → ∃ vs, SqL K H a vs ∧ IsL K S' ds vs) : Wk K (Itl K a) S as ds keep := by
  refine ⟨fun S' H as' cs i e r kp hi => ?_, fun S' H as' cs i d e r kp hi => ?_⟩
  · obtain ⟨vs, h1, h2⟩ := h S' H as' cs e r kp
    exact ⟨vs, h1, by rw [h2.len]; exact hi⟩
  · obtain ⟨vs, h1, h2⟩ := h S' H as' cs e r kp
    obtain ⟨v, hv, iv⟩ := h2.get hi
    refine ⟨⟨vs, v, h1, hv⟩, fun x H' y => ?_⟩
    obtain ⟨rfl, f⟩ := y
    have ex : v = x := Option.some.inj (hv.symm.trans (f vs h1))
    subst ex
    exact ⟨S', Sub.refl S', r, iv⟩
theorem wk_t {K : PySem.W.Frag} {S : Hp} {as : List Addr} {ds : List D} {a : Addr} {vs : List V} (h1 : SqT K S a vs) (h2 : IsL K S ds vs) : Wk K (Itt K a) S as ds yes := by
  refine ⟨fun S' H as' cs i e r kp hi => ⟨vs, r.sub.t (e.sub.t h1), by rw [h2.len]; exact hi⟩, fun S' H as' cs i d e r kp hi => ?_⟩
  obtain ⟨v, hv, iv⟩ := h2.get hi
  have ht := r.sub.t (e.sub.t h1)
  refine ⟨⟨vs, v, ht, hv⟩, fun x H' y => ?_⟩
  obtain ⟨rfl, f⟩ := y
  have ex : v = x := Option.some.inj (hv.symm.trans (f vs ht))
  subst ex
  exact ⟨S', Sub.refl S', r, Is.mono e.sub _ _ iv⟩
theorem qi_seq {tg l : Expr} {tl : TE} {dl : DE} (hl : QE X l tl dl) : QI X tg l (iSeq X.K tl) (diSeq dl) := by
  refine ⟨pi_seq hl.pe, fun σ H S as en cs k R r e h p => ?_⟩
  refine hl.sem.use r e h fun z v S1 H1 as1 cs1 e1 r1 v1 q1 => ?_
  unfold seqD at q1
  split at q1
  · obtain ⟨a, vs, rfl, hs, is⟩ := v1
    exact ⟨a, rfl, .inl ⟨vs, SqL.of (r1.sub _ _ hs), p _ S1 H1 as1 _ yes cs1 e1 r1 (wk_l fun S' H as' cs e r _ => ⟨vs, SqL.of (r.sub _ _ (e.sub _ _ hs)), IsL.mono e.sub _ _ is⟩) q1⟩⟩
  · obtain ⟨a, vs, rfl, hs, is⟩ := v1
    exact ⟨a, rfl, .inr ⟨vs, r1.sub.t hs, p _ S1 H1 as1 _ yes cs1 e1 r1 (wk_t hs is) q1⟩⟩
  · obtain ⟨a, rfl, hs⟩ := v1
    exact ⟨a, rfl, .inl ⟨_, r1.sub.l hs, p _ S1 H1 as1 _ yes cs1 e1 r1 (wk_l fun S' H as' cs e r _ => ⟨_, r.sub.l (e.sub.l hs), isL_ints _⟩) q1⟩⟩
  · rename_i n
    obtain ⟨a, ha, rfl⟩ := v1
    split at q1
    · rename_i ds hc
      obtain ⟨hS, vs, hl, is⟩ := r1.cell_lst ha hc
      refine ⟨a, rfl, .inl ⟨vs, SqL.of hl, p _ S1 H1 as1 _ _ cs1 e1 r1 (wk_l fun S' H as' cs e r kp => ?_) q1⟩⟩
      obtain ⟨_, vs', hl', is'⟩ := r.cell_lst (e.get ha) kp
      exact ⟨vs', SqL.of hl', is'⟩
    · exact q1.elim
  · exact q1.elim
/-- range(n), range(a, b) -/
def rgD (lo : Int) (n : Nat) : List D := (List.range n).map fun (i : Nat) => D.int (lo + (i : Int))
theorem rgD_len (lo : Int) (n : Nat) : (rgD lo n).length = n := by unfold rgD; rw [List.length_map, List.length_range]
theorem rgD_get {lo : Int} {n i : Nat} {d : D} (h : (rgD lo n)[i]? = some d) : i < n ∧ d = .int (lo + (i : Int)) := by
  unfold rgD at h
  rw [List.getElem?_map] at h
  cases q : (List.range n)[i]? with
  | none => rw [q] at h; cases h
  | some j =>
    rw [q] at h
    have hl := (List.getElem?_eq_some_iff.mp q)
    obtain ⟨h1, h2⟩ := hl
    rw [List.getElem_range] at h2
    subst h2
    rw [List.length_range] at h1
    exact ⟨h1, (Option.some.inj h).symm⟩
def Rg (i : Int) : Prop := -(2 ^ 62) ≤ i ∧ i < 2 ^ 62
theorem wk_r {K : PySem.W.Frag} {S : Hp} {as : List Addr} {lo : Int} {n : Nat} : Wk K (Itr lo n) S as (rgD lo n) yes := by
  refine ⟨fun S' H as' cs i e r kp hi => by rw [rgD_len] at hi; exact hi, fun S' H as' cs i d e r kp hi => ?_⟩
  obtain ⟨h1, rfl⟩ := rgD_get hi
  exact ⟨h1, fun x H' y => ⟨S', Sub.refl S', by rw [y.1]; exact r, y.2⟩⟩
def diR1 (a : DE) : DI := fun en cs k => a en cs fun z cs1 => ∃ j, z = .d (.int j) ∧ Rg j ∧ k (rgD 0 j.toNat) yes cs1
def diR2 (a b : DE) : DI := fun en cs k => a en cs fun z cs1 => b en cs1 fun w cs2 => ∃ i j, z = .d (.int i) ∧ w = .d (.int j) ∧ (Rg i ∧ Rg j) ∧ k (rgD i (j - i).toNat) yes cs2
theorem qi_range1 {tg a : Expr} {ta : TE} {da : DE} {p : Pos} (hm : X.mg "range" = none) (ha : QE X a ta da) (hg : Gl X "range" := by rfl) (hs : starEach [a] X.env = [(false, eval a X.env)] := by rfl) : QI X tg (.Call (.Name "range" p) [a] [] pos) (iRng1 (tCons ta tNil)) (diR1 da) := by
  refine ⟨pi_range1 hg hm (pa_cons ha.pe pa_nil hs) hs, fun σ H S as en cs k R r e h p => ?_⟩
  refine ha.sem.use r e h fun z v S1 H1 as1 cs1 e1 r1 v1 q1 => ?_
  obtain ⟨j, rfl, ⟨b1, b2⟩, q1⟩ := q1
  rw [show v = .int j from v1]
  exact ⟨j, rfl, b1, b2, p _ S1 H1 as1 _ yes cs1 e1 r1 wk_r q1⟩
theorem qi_range2 {tg a b : Expr} {ta tb : TE} {da db : DE} {p : Pos} (hm : X.mg "range" = none) (ha : QE X a ta da) (hb : QE X b tb db) (hg : Gl X "range" := by rfl) (hs : starEach [a, b] X.env = [(false, eval a X.env), (false, eval b X.env)] := by rfl) (hs2 : starEach [b] X.env = [(false, eval b X.env)] := by rfl) :
    QI X tg (.Call (.Name "range" p) [a, b] [] pos) (iRng2 (tCons ta (tCons tb tNil))) (diR2 da db) := by
  refine ⟨pi_range2 hg hm (pa_cons ha.pe (pa_cons hb.pe pa_nil hs2) (by rw [hs, hs2])) hs hs2, fun σ H S as en cs k R r e h p => ?_⟩
  refine ha.sem.use r e h fun z v S1 H1 as1 cs1 e1 r1 v1 q1 => ?_
  refine hb.sem.use r1 (e.mono e1) q1 fun z2 v2 S2 H2 as2 cs2 e2 r2 w2 q2 => ?_
  obtain ⟨i, j, rfl, rfl, ⟨⟨b1, b2⟩, b3, b4⟩, q2⟩ := q2
  rw [show v = .int i from v1, show v2 = .int j from w2]
  exact ⟨i, j, rfl, ⟨b1, b2, b3, b4⟩, p _ S2 H2 as2 _ yes cs2 (e1.trans e2) r2 wk_r q2⟩
/-- enumerate(xs) -/
def enumD (ds : List D) : List D := ds.zipIdx.map fun p => D.tup [.int (p.2 : Int), p.1]
theorem enumD_get {ds : List D} {i : Nat} {x : D} (h : (enumD ds)[i]? = some x) : ∃ d, ds[i]? = some d ∧ x = .tup [.int (i : Int), d] := by
  unfold enumD at h
  rw [List.getElem?_map, List.getElem?_zipIdx] at h
  cases q : ds[i]? with
  | none => rw [q] at h; cases h
  | some d =>
    rw [q] at h
    have e := Option.some.inj h
    refine ⟨d, rfl, ?_⟩
    rw [← e]
    simp
theorem enumD_len (ds : List D) : (enumD ds).length = ds.length := by unfold enumD; rw [List.length_map, List.length_zipIdx]
def diEnum (a : DE) : DI := fun en cs k => a en cs fun z cs1 => match z with
  | .d (.tup _) => False
  | z => seqD cs1 z fun ds keep => k (enumD ds) keep cs1
theorem wk_e {K : PySem.W.Frag} {S : Hp} {as : List Addr} {ds : List D} {keep : Cs → Prop} {a : Addr}
    (h : ∀ (S' H : Hp) (as' : List Addr) (cs : Cs), Ext S as S' as' → Rep K S' H as' cs → keep cs → ∃ vs, SqL K H a vs ∧ IsL K S' ds vs) : Wk K (Ite K a) S as (enumD ds) keep := by
  refine ⟨fun S' H as' cs i e r kp hi => ?_, fun S' H as' cs i d e r kp hi => ?_⟩
  · obtain ⟨vs, h1, h2⟩ := h S' H as' cs e r kp
    rw [enumD_len] at hi
    exact ⟨vs, h1, by rw [h2.len]; exact hi⟩
  · obtain ⟨d', hd, rfl⟩ := enumD_get hi
    obtain ⟨vs, h1, h2⟩ := h S' H as' cs e r kp
    obtain ⟨v, hv, iv⟩ := h2.get hd
    refine ⟨⟨vs, v, h1, hv⟩, fun x H' y => ?_⟩
    obtain ⟨T, x', rfl, nT, rfl, f⟩ := y
    have ex : v = x' := Option.some.inj (hv.symm.trans (f vs h1))
    subst ex
    have hn := Sub.new (o := .tup [.int (i : Nat), v]) (r.sub.free nT)
    exact ⟨_, hn, r.lay nT _, T, _, rfl, SqT.of upd_same, ⟨_, _, rfl, rfl, ⟨_, _, rfl, Is.mono hn _ _ iv, rfl⟩⟩⟩
theorem qi_enum {a : Expr} {elts : List Expr} {kk : Nat} {ta : TE} {da : DE} {p tpos : Pos} (hm : X.mg "enumerate" = none) (ha : QE X a ta da) (hg : Gl X "enumerate" := by rfl) (hs : starEach [a] X.env = [(false, eval a X.env)] := by rfl) : QI X (.Tuple elts kk tpos) (.Call (.Name "enumerate" p) [a] [] pos) (iEnum X.K (tCons ta tNil)) (diEnum da) := by
  refine ⟨pi_enum hg hm (pa_cons ha.pe pa_nil hs) hs, fun σ H S as en cs k R r e h p => ?_⟩
  refine ha.sem.use r e h fun z v S1 H1 as1 cs1 e1 r1 v1 q1 => ?_
  cases z with
  | d x =>
    cases x with
    | lst ds =>
      obtain ⟨a, vs, rfl, hs, is⟩ := v1
      exact ⟨a, vs, rfl, SqL.of (r1.sub _ _ hs), p _ S1 H1 as1 _ yes cs1 e1 r1 (wk_e fun S' H as' cs e r _ => ⟨vs, SqL.of (r.sub _ _ (e.sub _ _ hs)), IsL.mono e.sub _ _ is⟩) q1⟩
    | scr ns =>
      obtain ⟨a, rfl, hs⟩ := v1
      exact ⟨a, _, rfl, r1.sub.l hs, p _ S1 H1 as1 _ yes cs1 e1 r1 (wk_e fun S' H as' cs e r _ => ⟨_, r.sub.l (e.sub.l hs), isL_ints _⟩) q1⟩
    | _ => exact q1.elim
  | c n =>
    obtain ⟨a, ha, rfl⟩ := v1
    have q1' : (match cs1[n]? with
      | some (.lst ds) => k (enumD ds) (fun c => c[n]? = some (.lst ds)) cs1
      | _ => False) := q1
    split at q1'
    · rename_i ds hc
      obtain ⟨hS, vs, hl, is⟩ := r1.cell_lst ha hc
      refine ⟨a, vs, rfl, SqL.of hl, p _ S1 H1 as1 _ _ cs1 e1 r1 (wk_e fun S' H as' cs e r kp => ?_) q1'⟩
      obtain ⟨_, vs', hl', is'⟩ := r.cell_lst (e.get ha) kp
      exact ⟨vs', SqL.of hl', is'⟩
    · exact q1'.elim
end
end DL
set_option Elab.async false
set_option linter.all false
set_option maxRecDepth 100000
set_option maxHeartbeats 2000000
namespace DL
open PySem L2

/-! ### list comprehensions -/
/-- a clause's test -/
structure QTs (X : Cx) (ifs : List Expr) (tt : TT) (t : DT) : Prop where
  pts : PTs X ifs tt
  sem : SemT X.K tt t
def dYes : DT := fun _ cs k => k true cs
section
variable {X : Cx} {pos : Pos}
theorem qts_nil : QTs X [] tYes dYes := ⟨pts_nil, fun σ H S as en cs k Q r e q p => p true S H as cs Ext.refl r q⟩
theorem qts_one {c : Expr} {tt : TT} {t : DT} (h : QT X c tt t) : QTs X [c] tt t := ⟨pts_one h.pt, h.sem⟩
/-- fin: what is made of the list -/
def dLcG (fin : (Z → Cs → Prop) → List D → Cs → Prop) (it : DI) (g : DG) (tt : DT) (te : DE) (own : List Nat) : DE := fun en cs k => it en cs fun ds keep cs1 => ∃ I : Nat → List D → Cs → Prop,
  I 0 [] cs1 ∧ (∀ i acc c, I i acc c → c.length = cs1.length ∧ keep (c ++ [.lst acc])) ∧
  (∀ i d acc c, ds[i]? = some d → I i acc c → g (.d d) (wipeD en own) (c ++ [.lst acc]) fun en2 cs2 => tt en2 cs2 fun b cs3 =>
    if b = true then te en2 cs3 fun z cs4 => ∃ y c', z = .d y ∧ cs4.take (c.length + 1) = c' ++ [.lst acc] ∧ c'.length = c.length ∧ acc.length < 100000 ∧ I (i + 1) (acc ++ [y]) c'
    else ∃ c', cs3.take (c.length + 1) = c' ++ [.lst acc] ∧ c'.length = c.length ∧ I (i + 1) acc c') ∧
  ∀ acc c, I ds.length acc c → fin k acc c
/-- the list does not change; it will -/
def finD (k : Z → Cs → Prop) (acc : List D) (c : Cs) : Prop := k (.d (.lst acc)) c
def finC (k : Z → Cs → Prop) (acc : List D) (c : Cs) : Prop := k (.c c.length) (c ++ [.lst acc])
abbrev dLc := dLcG finD
abbrev dLcC := dLcG finC
def FinOk (K : PySem.W.Frag) (fin : (Z → Cs → Prop) → List D → Cs → Prop) : Prop :=
  ∀ (S H : Hp) (as : List Addr) (c : Cs) (p : Addr) (acc : List D) (k : Z → Cs → Prop) (Q : VK), Rep K S H (as ++ [p]) (c ++ [.lst acc]) → fin k acc c → PQ K S as k Q → Q (.ref p) H
theorem Rep.last {K : PySem.W.Frag} {S H : Hp} {as : List Addr} {c : Cs} {p : Addr} {acc : List D} (r : Rep K S H (as ++ [p]) (c ++ [.lst acc])) : as.length = c.length ∧ S p = none ∧ ∃ vs, H p = some (.lst vs) ∧ IsL K S acc vs := by
  have hl : as.length = c.length := by
    have := r.len
    simp only [List.length_append, List.length_cons, List.length_nil] at this
    omega
  have h := r.cell_lst (n := c.length) (a := p) (ds := acc) (by rw [← hl, List.getElem?_append_right (Nat.le_refl _), Nat.sub_self]; rfl) (by rw [List.getElem?_append_right (Nat.le_refl _), Nat.sub_self]; rfl)
  exact ⟨hl, h⟩
theorem Rep.init {K : PySem.W.Frag} {S H : Hp} {as : List Addr} {c : Cs} {p : Addr} {x : D} (r : Rep K S H (as ++ [p]) (c ++ [x])) : Rep K S H as c := by
  have hl : as.length = c.length := by
    have := r.len
    simp only [List.length_append, List.length_cons, List.length_nil] at this
    omega
  have t := r.take as.length
  rw [List.take_left, hl, List.take_left] at t
  exact t
/-- a cell's list is known from now on -/
theorem Rep.freeze {K : PySem.W.Frag} {S H : Hp} {as : List Addr} {c : Cs} {p : Addr} {o : HO} (r : Rep K S H as c) (np : p ∉ as) (hp : H p = some o) (hS : S p = none) : Rep K (upd S p o) H as c := by
  refine ⟨fun a u e => ?_, r.len, r.nod, fun n a d e1 e2 => ?_, r.liv⟩
  · by_cases ha : a = p
    · subst ha
      rw [upd_same] at e
      rw [hp]; exact e
    · rw [upd_ne ha] at e
      exact r.sub a u e
  · have ne : a ≠ p := fun z => np (z ▸ List.mem_of_getElem? e1)
    exact CelAt.mono (Sub.new hS) (fun q => by rw [upd_ne ne]; exact q) rfl (r.cel n a d e1 e2)
theorem fin_d {K : PySem.W.Frag} : FinOk K finD := by
  intro S H as c p acc k Q r h q
  obtain ⟨hl, hS, vs, hp, is⟩ := r.last
  have np : p ∉ as := by
    have := r.nod
    rw [List.nodup_append] at this
    exact fun z => this.2.2 p z p (by simp) rfl
  have hn := Sub.new (o := .lst vs) hS
  exact q (.d (.lst acc)) (.ref p) (upd S p (.lst vs)) H as c (Ext.of hn) (r.init.freeze np hp hS) ⟨p, vs, rfl, upd_same, IsL.mono hn _ _ is⟩ h
theorem fin_c {K : PySem.W.Frag} : FinOk K finC := by
  intro S H as c p acc k Q r h q
  exact q (.c c.length) (.ref p) S H _ _ ⟨Sub.refl S, [p], rfl⟩ r ⟨p, by rw [← r.last.1, List.getElem?_append_right (Nat.le_refl _), Nat.sub_self]; rfl, rfl⟩ h
theorem sem_lc {K : PySem.W.Frag} {fin : (Z → Cs → Prop) → List D → Cs → Prop} {wi : TI} {g : TG} {tt : TT} {te : TE} {it : DI} {dg : DG} {dt : DT} {de : DE} {is own : List Nat} (hf : FinOk K fin)
    (hi : ∀ (σ : L2.St) (H S : Hp) (as : List Addr) (en : En) (cs : Cs) (k : List D → (Cs → Prop) → Cs → Prop) (R : It → Hp → Prop), Rep K S H as cs → EnvOk K S as en σ → it en cs k →
      (∀ (J : It) (S' H' : Hp) (as' : List Addr) (ds : List D) (keep : Cs → Prop) (cs' : Cs), Ext S as S' as' → Rep K S' H' as' cs' → Wk K J S' as' ds keep → k ds keep cs' → R J H') → wi σ H R)
    (hg : SemG K g dg is) (ht : SemT K tt dt) (he : SemE K te de) (hw : ∀ i ∈ is, i ∈ own) : SemE K (tLc wi g tt te own) (dLcG fin it dg dt de own) := by
  intro σ H S as en cs k Q rp ev q p
  refine hi σ H S as en cs _ _ rp ev q fun J S1 H1 as1 ds keep cs1 e1 r1 wk q1 => ?_
  obtain ⟨I, i0, ik, step, done⟩ := q1
  intro Dl hD
  have rc : Rep K S1 (upd H1 Dl (.lst [])) (as1 ++ [Dl]) (cs1 ++ [.lst []]) := r1.cell hD (c := .lst []) ⟨r1.sub.free hD, [], upd_same, rfl⟩
  refine ⟨fun i m H' => m = ds.length - i ∧ i ≤ ds.length ∧ ∃ S' acc c, Sub S1 S' ∧ Rep K S' H' (as1 ++ [Dl]) (c ++ [.lst acc]) ∧ I i acc c, ⟨ds.length, by omega, Nat.zero_le _, S1, [], cs1, Sub.refl _, rc, i0⟩, ?_⟩
  rintro i m H' ⟨rfl, hi', S', acc, c, s', r', hI⟩
  have ex : Ext S1 as1 S' (as1 ++ [Dl]) := ⟨s', [Dl], rfl⟩
  have kp := (ik i acc c hI).2
  have lc := r'.last
  by_cases hlt : i < ds.length
  · obtain ⟨d, hd⟩ : ∃ d, ds[i]? = some d := ⟨ds[i], List.getElem?_eq_getElem hlt⟩
    obtain ⟨go, yl⟩ := wk.go S' H' (as1 ++ [Dl]) _ i d ex r' kp hd
    refine .inr ⟨go, fun H'' => ∃ S'' acc' c', Sub S1 S'' ∧ Rep K S'' H'' (as1 ++ [Dl]) (c' ++ [.lst acc']) ∧ I (i + 1) acc' c', fun H'' ⟨S'', acc', c', a1, a2, a3⟩ => ⟨ds.length - (i + 1), by omega, rfl, hlt, S'', acc', c', a1, a2, a3⟩, fun x H'' y => ?_⟩
    obtain ⟨S2, s2, r2, ix⟩ := yl x H'' y
    have ex2 : Ext S as S2 (as1 ++ [Dl]) := e1.trans (ex.trans (Ext.of s2))
    refine hg (.d d) x _ H'' S2 (as1 ++ [Dl]) (wipeD en own) _ _ _ r2 ((ev.mono ex2).wipe own) ix (step i d acc c hd hI) fun σ3 S3 H3 as3 en3 cs3 e3 r3 ev3 w3 q3 => ?_
    refine ⟨by rw [w3 own hw, wipe_wipe own own fun _ h => h], ?_⟩
    refine ht σ3 H3 S3 as3 en3 cs3 _ _ r3 ev3 q3 fun b S4 H4 as4 cs4 e4 r4 q4 => ?_
    have back : ∀ {S5 H5 : Hp} {as5 : List Addr} {cs5 : Cs} {c' : Cs}, Ext S2 (as1 ++ [Dl]) S5 as5 → Rep K S5 H5 as5 cs5 → cs5.take (c.length + 1) = c' ++ [.lst acc] → c'.length = c.length → Rep K S5 H5 (as1 ++ [Dl]) (c' ++ [.lst acc]) := fun {S5 H5 as5 cs5 c'} e5 r5 t5 l5 => by
      have t := r5.take (c.length + 1)
      rw [t5] at t
      obtain ⟨mr, rfl⟩ := e5.pre
      have hz : (as1 ++ [Dl]).length = c.length + 1 := by rw [List.length_append, lc.1]; rfl
      rw [← hz, List.take_left] at t
      exact t
    cases b with
    | false =>
      rw [if_neg Bool.false_ne_true] at q4 ⊢
      obtain ⟨c', t4, l4, hI'⟩ := q4
      exact ⟨S4, acc, c', (s'.trans s2).trans (e3.sub.trans e4.sub), back (e3.trans e4) r4 t4 l4, hI'⟩
    | true =>
      rw [if_pos rfl] at q4 ⊢
      refine he.use r4 (ev3.mono e4) q4 fun z v S5 H5 as5 cs5 e5 r5 v5 q5 => ?_
      obtain ⟨y, c', rfl, t5, l5, hz, hI'⟩ := q5
      have r6 := back ((e3.trans e4).trans e5) r5 t5 l5
      obtain ⟨hl6, hS6, vs, hp6, is6⟩ := r6.last
      refine ⟨vs, hp6, by rw [is6.len]; exact size_lt hz, S5, acc ++ [y], c', (s'.trans s2).trans ((e3.sub.trans e4.sub).trans e5.sub), ?_, hI'⟩
      have r7 := r6.put (n := c'.length) (a := Dl) (o := .lst (vs ++ [v])) (c := .lst (acc ++ [y])) (by rw [← hl6, List.getElem?_append_right (Nat.le_refl _), Nat.sub_self]; rfl) ⟨hS6, _, upd_same, is6.append ⟨v, [], rfl, v5, rfl⟩⟩ hS6
      rw [List.set_append_right _ _ (Nat.le_refl _), Nat.sub_self] at r7
      exact r7
  · have ei : i = ds.length := by omega
    subst ei
    refine .inl ⟨wk.stop S' H' (as1 ++ [Dl]) _ _ ex r' kp (Nat.le_refl _), ?_⟩
    exact hf S' H' as1 c Dl acc k Q r' (done acc c hI) (p.mono (e1.trans (Ext.of s')))
theorem q_lcG {elt tg iter : Expr} {ifs : List Expr} {scope : Scope} {own : List (Str × Nat)} {fin : (Z → Cs → Prop) → List D → Cs → Prop} {wi : TI} {g : TG} {tt : TT} {te : TE} {it : DI} {dg : DG} {dt : DT} {de : DE} {is : List Nat} (hf : FinOk X.K fin) (hN : X.N.Nodup) (hi : QI X tg iter wi it) (ok : BlkOk X.N X.env.scope scope own)
    (hg : ∀ (s : Shared) (H : Hp) (C : Addr) (cl : List (Str × Addr)) (fp : List Addr), QG (X.blk s H scope (compEnvC scope cl C X.env) fp) tg g dg is) (ht : ∀ (s : Shared) (H : Hp) (C : Addr) (cl : List (Str × Addr)) (fp : List Addr), QTs (X.blk s H scope (compEnvC scope cl C X.env) fp) ifs tt dt)
    (he : ∀ (s : Shared) (H : Hp) (C : Addr) (cl : List (Str × Addr)) (fp : List Addr), QE (X.blk s H scope (compEnvC scope cl C X.env) fp) elt te de) (s0 : Shared) (hw : ∀ i ∈ is, i ∈ own.map (·.2)) (hc : X.calm = true := by rfl) (hs : ∀ x, foldedSetIterable iter X.env x = pure x := by intro _; rfl) :
    QE X (.ListComp elt [⟨tg, iter, ifs, 0⟩] scope pos) (tLc wi g tt te (own.map (·.2))) (dLcG fin it dg dt de (own.map (·.2))) :=
  ⟨pe_lc hc hN hi.pi ok (fun s H C cl fp => (hg s H C cl fp).pg) (fun s H C cl fp => (ht s H C cl fp).pts) (fun s H C cl fp => (he s H C cl fp).pe) hs,
    sem_lc hf hi.sem (hg s0 (fun _ => none) 0 [] []).sem (ht s0 (fun _ => none) 0 [] []).sem (he s0 (fun _ => none) 0 [] []).sem hw⟩

/-! ### statements -/
structure EnK (K : PySem.W.Frag) (S : Hp) (as : List Addr) (D : DEnds) (E : Ends) : Prop where
  nx : ∀ (σ' : L2.St) (S' H' : Hp) (as' : List Addr) (en' : En) (cs' : Cs), Ext S as S' as' → Rep K S' H' as' cs' → EnvOk K S' as' en' σ' → D.nx en' cs' → E.nx σ' H'
  rt : PQ K S as D.rt E.rt
  bk : ∀ (σ' : L2.St) (S' H' : Hp) (as' : List Addr) (en' : En) (cs' : Cs), Ext S as S' as' → Rep K S' H' as' cs' → EnvOk K S' as' en' σ' → D.bk en' cs' → E.bk σ' H'
  ct : ∀ (σ' : L2.St) (S' H' : Hp) (as' : List Addr) (en' : En) (cs' : Cs), Ext S as S' as' → Rep K S' H' as' cs' → EnvOk K S' as' en' σ' → D.ct en' cs' → E.ct σ' H'
theorem EnK.mono {K : PySem.W.Frag} {S T : Hp} {as bs : List Addr} {D : DEnds} {E : Ends} (e : Ext S as T bs) (h : EnK K S as D E) : EnK K T bs D E :=
  ⟨fun σ' S' H' as' en' cs' e' => h.nx σ' S' H' as' en' cs' (e.trans e'), h.rt.mono e, fun σ' S' H' as' en' cs' e' => h.bk σ' S' H' as' en' cs' (e.trans e'), fun σ' S' H' as' en' cs' e' => h.ct σ' S' H' as' en' cs' (e.trans e')⟩
def SemS (K : PySem.W.Frag) (ts : TS) (t : DS) : Prop :=
  ∀ (σ : L2.St) (H S : Hp) (as : List Addr) (en : En) (cs : Cs) (D : DEnds) (E : Ends), Rep K S H as cs → EnvOk K S as en σ → t D en cs → EnK K S as D E → ts E σ H
structure QS (X : Cx) (st : Stmt) (ts : TS) (t : DS) : Prop where
  ps : PS X st ts
  sem : SemS X.K ts t
structure QSs (X : Cx) (st : List Stmt) (ts : TS) (t : DS) : Prop where
  pss : PSs X st ts
  sem : SemS X.K ts t
def dNext : DS := fun D en cs => D.nx en cs
def dSeq (t u : DS) : DS := fun D en cs => t { D with nx := u D } en cs
theorem qss_nil : QSs X [] tNext dNext := ⟨pss_nil, fun σ H S as en cs D E r e q p => p.nx σ S H as en cs Ext.refl r e q⟩
theorem qss_one {st : Stmt} {ts : TS} {t : DS} (h : QS X st ts t) : QSs X [st] ts t := ⟨pss_one h.ps, h.sem⟩
theorem qss_cons {st : Stmt} {rest : List Stmt} {ts us : TS} {t u : DS} (h1 : QS X st ts t) (h2 : QSs X rest us u) : QSs X (st :: rest) (tSeq ts us) (dSeq t u) := by
  refine ⟨pss_cons h1.ps h2.pss, ?_⟩
  intro σ H S as en cs D E r e q p
  exact h1.sem σ H S as en cs { D with nx := u D } { E with nx := us E } r e q ⟨fun σ' S' H' as' en' cs' e' r' ev' q' => h2.sem σ' H' S' as' en' cs' D E r' ev' q' (p.mono e'), p.rt, p.bk, p.ct⟩
theorem qs_pass : QS X (.Pass pos) tNext dNext := ⟨ps_pass, fun σ H S as en cs D E r e q p => p.nx σ S H as en cs Ext.refl r e q⟩
def dBreak : DS := fun D en cs => D.bk en cs
def dCont : DS := fun D en cs => D.ct en cs
theorem qs_break : QS X (.Break pos) tBreak dBreak := ⟨ps_break, fun σ H S as en cs D E r e q p => p.bk σ S H as en cs Ext.refl r e q⟩
theorem qs_continue : QS X (.Continue pos) tCont dCont := ⟨ps_continue, fun σ H S as en cs D E r e q p => p.ct σ S H as en cs Ext.refl r e q⟩
def dDrop (a : DE) : DS := fun D en cs => a en cs fun _ cs1 => D.nx en cs1
theorem qs_expr {e : Expr} {te : TE} {de : DE} (he : QE X e te de) (hs : swapsWith e none pos.line X.env = pure false := by rfl) : QS X (.Expr e pos) (tDrop te) (dDrop de) := by
  refine ⟨ps_expr he.pe hs, ?_⟩
  intro σ H S as en cs D E r e q p
  exact he.sem.use r e q fun z v S1 H1 as1 cs1 e1 r1 v1 q1 => p.nx σ S1 H1 as1 en cs1 e1 r1 (e.mono e1) q1
def dRet (a : DE) : DS := fun D en cs => a en cs D.rt
theorem qs_ret {e : Expr} {te : TE} {de : DE} (he : QE X e te de) : QS X (.Return (some e) pos) (tRet te) (dRet de) := ⟨ps_ret he.pe, fun σ H S as en cs D E r e q p => he.sem.use r e q p.rt⟩
def dRetN : DS := fun D _ cs => D.rt (.d .non) cs
theorem qs_retN : QS X (.Return none pos) tRetN dRetN := ⟨ps_retN, fun σ H S as en cs D E r e q p => p.rt (.d .non) .non S H as cs Ext.refl r rfl q⟩
def dIfS (c : DT) (t u : DS) : DS := fun D en cs => c en cs fun b cs1 => if b = true then t D en cs1 else u D en cs1
theorem qs_if {c : Expr} {a b : List Stmt} {tc : TT} {ta tb : TS} {dc : DT} {da db : DS} (hc : QT X c tc dc) (ha : QSs X a ta da) (hb : QSs X b tb db) : QS X (.If c a b pos) (tIfS tc ta tb) (dIfS dc da db) := by
  refine ⟨ps_if hc.pt ha.pss hb.pss, ?_⟩
  intro σ H S as en cs D E r e q p
  refine hc.sem σ H S as en cs _ _ r e q fun b S1 H1 as1 cs1 e1 r1 q1 => ?_
  cases b with
  | true =>
    rw [if_pos rfl] at q1 ⊢
    exact ha.sem σ H1 S1 as1 en cs1 D E r1 (e.mono e1) q1 (p.mono e1)
  | false =>
    rw [if_neg Bool.false_ne_true] at q1 ⊢
    exact hb.sem σ H1 S1 as1 en cs1 D E r1 (e.mono e1) q1 (p.mono e1)
/-- never reached -/
def dNever : DS := fun _ _ _ => False
theorem qs_never {st : Stmt} : QS X st tNever dNever := ⟨ps_never, fun _ _ _ _ _ _ _ _ _ _ q _ => q.elim⟩
theorem qss_never {st : List Stmt} : QSs X st tNever dNever := ⟨pss_never, fun _ _ _ _ _ _ _ _ _ _ q _ => q.elim⟩
def dAsg (a : DE) (g : DG) : DS := fun D en cs => a en cs fun z cs1 => g z en cs1 D.nx
theorem sem_asg {K : PySem.W.Frag} {te : TE} {g : TG} {de : DE} {dg : DG} {is : List Nat} (he : SemE K te de) (hg : SemG K g dg is) : SemS K (tAsg te g) (dAsg de dg) := by
  intro σ H S as en cs D E r e q p
  refine he.use r e q fun z v S1 H1 as1 cs1 e1 r1 v1 q1 => ?_
  exact hg z v σ H1 S1 as1 en cs1 _ _ r1 (e.mono e1) v1 q1 fun σ' S' H' as' en' cs' e' r' ev' _ q' => p.nx σ' S' H' as' en' cs' (e1.trans e') r' ev' q'
theorem qs_asg {tg e : Expr} {te : TE} {g : TG} {de : DE} {dg : DG} {is : List Nat} (he : QE X e te de) (hg : QG X tg g dg is) (hs : swapsWithSole [tg] e pos.line X.env = pure false := by rfl) (hw : swappedStores [tg] e X.env = pure none := by rfl)
    (h1 : (assignEach [tg] X.env).map (·.2) = [assign tg X.env] := by rfl) : QS X (.Assign [tg] e pos) (tAsg te g) (dAsg de dg) := ⟨ps_asg he.pe hg.pg hs hw h1, sem_asg he.sem hg.sem⟩
theorem qs_set (i : Nat) {x : Str} {e : Expr} {te : TE} {de : DE} {pos' : Pos} (hN : X.N.Nodup) (he : QE X e te de) (hi : X.N[i]? = some x := by rfl) (hx : Loc X.env.scope x := by first | exact Or.inl rfl | exact Or.inr rfl) (hs : swapsWith e (some (.Name x pos')) pos.line X.env = pure false := by rfl) (hf : X.fn x = true ∨ X.env.scope.names.lookup x = some .local := by first | exact .inl rfl | exact .inr rfl | assumption) :
    QS X (.Assign [.Name x pos'] e pos) (tAsg te (gName i)) (dAsg de (dgName i)) := ⟨ps_set hN hi hx he.pe hs hf, sem_asg he.sem (sem_gname i)⟩
/-- a, b = x, y -/
def dPar (i j : Nat) (a : DA) : DS := fun D en cs => a en cs fun zs cs1 => match zs with
  | [z, w] => D.nx ((en.set i (some z)).set j (some w)) cs1
  | _ => False
theorem qs_par (i j : Nat) {x y : Str} {a b : Expr} {ta : TA} {da : DA} {px py pt : Pos} {kt k2 pt2} (hN : X.N.Nodup) (ha : QA X [a, b] ta da) (hi : X.N[i]? = some x := by rfl) (hj : X.N[j]? = some y := by rfl) (hij : i ≠ j := by decide)
    (hx : X.env.scope.names.lookup x = some .local := by rfl) (hy : X.env.scope.names.lookup y = some .local := by rfl) (hw : swappedStores [.Tuple [.Name x px, .Name y py] kt pt] (.Tuple [a, b] k2 pt2) X.env = pure (some [x, y]) := by rfl)
    (hs : swapsWithSole [.Tuple [.Name x px, .Name y py] kt pt] (.Tuple [a, b] k2 pt2) pos.line X.env = pure false := by rfl) (hc : X.calm = true := by rfl) :
    QS X (.Assign [.Tuple [.Name x px, .Name y py] kt pt] (.Tuple [a, b] k2 pt2) pos) (tPar i j ta) (dPar i j da) := by
  refine ⟨ps_par hc hN hi hj hij hx hy ha.pa hw hs, ?_⟩
  intro σ H S as en cs D E r e q p
  refine ha.sem σ H S as en cs _ _ r e q fun zs vs S1 H1 as1 cs1 e1 r1 v1 q1 => ?_
  split at q1
  · obtain ⟨v, _, rfl, h1, u, _, rfl, h2, h3⟩ := v1
    exact ⟨v, u, by rw [h3], p.nx _ S1 H1 as1 _ cs1 e1 r1 (((e.mono e1).set h1 i).set h2 j) q1⟩
  · exact q1.elim
/-- name = [.. for ..] -/
theorem qs_setLc (i : Nat) {y : Str} {py : Pos} {elt tg iter : Expr} {ifs : List Expr} {scope : Scope} {own : List (Str × Nat)} {spos : Pos} {fin : (Z → Cs → Prop) → List D → Cs → Prop} {wi : TI} {g : TG} {tt : TT} {te : TE} {it : DI} {dg : DG} {dt : DT} {de : DE} {is : List Nat} (hf : FinOk X.K fin) (hN : X.N.Nodup) (hsw : swapsWith (.ListComp elt [⟨tg, iter, ifs, 0⟩] scope pos) (some (.Name y py)) spos.line X.env = pure true)
    (hi : QI X tg iter wi it) (ok : BlkOk X.N X.env.scope scope own)
    (hg : ∀ (s : Shared) (H : Hp) (C : Addr) (cl : List (Str × Addr)) (fp : List Addr), QG (X.blk s H scope (compEnvC scope cl C X.env) fp) tg g dg is) (ht : ∀ (s : Shared) (H : Hp) (C : Addr) (cl : List (Str × Addr)) (fp : List Addr), QTs (X.blk s H scope (compEnvC scope cl C X.env) fp) ifs tt dt)
    (he : ∀ (s : Shared) (H : Hp) (C : Addr) (cl : List (Str × Addr)) (fp : List Addr), QE (X.blk s H scope (compEnvC scope cl C X.env) fp) elt te de) (s0 : Shared) (hw : ∀ i ∈ is, i ∈ own.map (·.2)) (hy : X.N[i]? = some y := by rfl) (hyl : X.env.scope.names.lookup y = some .local := by rfl) (hc : X.calm = true := by rfl) (hs : ∀ x, foldedSetIterable iter X.env x = pure x := by intro _; rfl) :
    QS X (.Assign [.Name y py] (.ListComp elt [⟨tg, iter, ifs, 0⟩] scope pos) spos) (tAsg (tLc wi g tt te (own.map (·.2))) (gName i)) (dAsg (dLcG fin it dg dt de (own.map (·.2))) (dgName i)) :=
  ⟨ps_setLc hc hN hy hyl hsw hi.pi ok (fun s H C cl fp => (hg s H C cl fp).pg) (fun s H C cl fp => (ht s H C cl fp).pts) (fun s H C cl fp => (he s H C cl fp).pe) hs,
    sem_asg (sem_lc hf hi.sem (hg s0 (fun _ => none) 0 [] []).sem (ht s0 (fun _ => none) 0 [] []).sem (he s0 (fun _ => none) 0 [] []).sem hw) (sem_gname i)⟩
/-- d[k] = v, d a cell -/
def dPutK (a b c : DE) : DS := fun D en cs => c en cs fun z cs1 => a en cs1 fun x cs2 => b en cs2 fun y cs3 => match x, y, z with
  | .c n, .d dy, .d dz => (match cs3[n]? with
    | some (.dic kvs) => keyD dy fun key => kvs.length < 100000 ∧ D.nx en (cs3.set n (.dic (setK kvs key dz)))
    | _ => False)
  | _, _, _ => False
theorem qs_putK {o i v : Expr} {to ti tv : TE} {od id vd : DE} {pos' : Pos} (hu : X.A.units + 1 < cLine) (ho : QE X o to od) (hi : QE X i ti id) (hv : QE X v tv vd) (hs : swapsWith v (some (.Subscript o i pos')) pos.line X.env = pure false := by rfl) :
    QS X (.Assign [.Subscript o i pos'] v pos) (sDPut to ti tv) (dPutK od id vd) := by
  refine ⟨ps_dput hu ho.pe hi.pe hv.pe hs, ?_⟩
  intro σ H S as en cs D E r e q p
  refine hv.sem.use r e q fun z v S1 H1 as1 cs1 e1 r1 w1 q1 => ?_
  refine ho.sem.use r1 (e.mono e1) q1 fun z2 v2 S2 H2 as2 cs2 e2 r2 w2 q2 => ?_
  refine hi.sem.use r2 (e.mono (e1.trans e2)) q2 fun z3 v3 S3 H3 as3 cs3 e3 r3 w3 q3 => ?_
  split at q3
  · rename_i n dy dz
    split at q3
    · rename_i kvs hc
      obtain ⟨key, rfl, hz, q3⟩ := keyD_sh (Is.sh r3.sub (show Is X.K S3 dy v3 from w3)) q3
      obtain ⟨a, ha, rfl⟩ := w2.mono e3
      obtain ⟨hS, kv, hk, is⟩ := r3.cel n a (.dic kvs) ha hc
      have vd : Is X.K S3 dz v := Is.mono (e2.trans e3).sub _ _ w1
      exact ⟨a, _, rfl, DPut.k hk (by rw [is.len]; exact size_lt hz), p.nx σ S3 _ as3 en _ ((e1.trans e2).trans e3) (r3.put ha (c := .dic (setK kvs key dz)) ⟨hS, _, upd_same, is.put vd⟩ hS) (e.mono ((e1.trans e2).trans e3)) q3⟩
    · exact q3.elim
  · exact q3.elim
/-- xs.append(v), xs a cell -/
def dAppend (o v : DE) : DE := fun en cs k => o en cs fun x cs1 => match x with
  | .c n => (match cs1[n]? with
    | some (.lst _) => v en cs1 fun y cs2 => (match y with
      | .d d => (match cs2[n]? with
        | some (.lst ds) => ds.length < 100000 ∧ k (.d .non) (cs2.set n (.lst (ds ++ [d])))
        | _ => False)
      | _ => False)
    | _ => False)
  | _ => False
theorem q_append {o v : Expr} {to tv : TE} {od vd : DE} {apos cpos : Pos} (ho : QE X o to od) (hv : QE X v tv vd)
    (hbase : attributeBase o "append" X.env (eval o X.env) = eval o X.env := by rfl)
    (hfew : ((backTo cpos (starEach [v] X.env)).all (fun x => !x.1) && (backToKw cpos (keywordEach [] X.env)).all (fun x => x.1.isSome)
      && decide ([v].length + ([] : List Keyword).length + (if ([] : List Keyword).isEmpty then 0 else 1) < 30)) = true := by rfl)
    (hline : (apos.endLine == cpos.line) = true := by rfl) (hs : starEach [v] X.env = (false, eval v X.env) :: starEach [] X.env := by rfl) (hplain : (backTo cpos (starEach [] X.env)).any (·.1) = false := by rfl) :
    QE X (.Call (.Attribute o "append" apos) [v] [] cpos) (tBM X.K "list" rAppend to (tCons tv tNil)) (dAppend od vd) := by
  refine ⟨pe_bm PySem.F.plainAttrs_list PySem.F.slot_list_append PySem.F.type_list_append mt_append ho.pe (pa_cons hv.pe pa_nil hs) hbase hfew hline hs hplain, ?_⟩
  intro σ H S as en cs k Q r e q p
  refine ho.sem.use r e q fun z v S1 H1 as1 cs1 e1 r1 w1 q1 => ?_
  split at q1
  · rename_i n
    split at q1
    · rename_i ds1 hc1
      obtain ⟨a, ha, rfl⟩ := w1
      obtain ⟨_, vs1, hl1, _⟩ := r1.cell_lst ha hc1
      refine ⟨.inl ⟨rfl, vs1, SqL.of hl1⟩, ?_⟩
      refine hv.sem.use r1 (e.mono e1) q1 fun z2 v2 S2 H2 as2 cs2 e2 r2 w2 q2 => ?_
      split at q2
      · rename_i d
        split at q2
        · rename_i ds hc
          have ha2 := e2.get ha
          obtain ⟨hS, vs, hl, is⟩ := r2.cell_lst ha2 hc
          exact ⟨a, vs, v2, rfl, rfl, hl, by rw [is.len]; exact size_lt q2.1, p (.d .non) .non S2 _ as2 _ (e1.trans e2) (r2.put ha2 (c := .lst (ds ++ [d])) ⟨hS, _, upd_same, is.append ⟨v2, [], rfl, w2, rfl⟩⟩ hS) rfl q2.2⟩
        · exact q2.elim
      · exact q2.elim
    · exact q1.elim
  · exact q1.elim
/-- xs.extend(ys) -/
def dExtend (o v : DE) : DE := fun en cs k => o en cs fun x cs1 => match x with
  | .c n => (match cs1[n]? with
    | some (.lst _) => v en cs1 fun y cs2 => withD cs2 y fun dy => (match dy with
      | .lst es => (match cs2[n]? with
        | some (.lst ds) => ds.length + es.length < 100000 ∧ k (.d .non) (cs2.set n (.lst (ds ++ es)))
        | _ => False)
      | _ => False)
    | _ => False)
  | _ => False
theorem q_extend {o v : Expr} {to tv : TE} {od vd : DE} {apos cpos : Pos} (ho : QE X o to od) (hv : QE X v tv vd)
    (hbase : attributeBase o "extend" X.env (eval o X.env) = eval o X.env := by rfl)
    (hfew : ((backTo cpos (starEach [v] X.env)).all (fun x => !x.1) && (backToKw cpos (keywordEach [] X.env)).all (fun x => x.1.isSome)
      && decide ([v].length + ([] : List Keyword).length + (if ([] : List Keyword).isEmpty then 0 else 1) < 30)) = true := by rfl)
    (hline : (apos.endLine == cpos.line) = true := by rfl) (hs : starEach [v] X.env = (false, eval v X.env) :: starEach [] X.env := by rfl) (hplain : (backTo cpos (starEach [] X.env)).any (·.1) = false := by rfl) :
    QE X (.Call (.Attribute o "extend" apos) [v] [] cpos) (tBM X.K "list" rExtend to (tCons tv tNil)) (dExtend od vd) := by
  refine ⟨pe_bm PySem.F.plainAttrs_list PySem.F.slot_list_extend PySem.F.type_list_extend mt_extend ho.pe (pa_cons hv.pe pa_nil hs) hbase hfew hline hs hplain, ?_⟩
  intro σ H S as en cs k Q r e q p
  refine ho.sem.use r e q fun z v S1 H1 as1 cs1 e1 r1 w1 q1 => ?_
  split at q1
  · rename_i n
    split at q1
    · rename_i ds1 hc1
      obtain ⟨a, ha, rfl⟩ := w1
      obtain ⟨_, vs1, hl1, _⟩ := r1.cell_lst ha hc1
      refine ⟨.inl ⟨rfl, vs1, SqL.of hl1⟩, ?_⟩
      refine hv.sem.use r1 (e.mono e1) q1 fun z2 v2 S2 H2 as2 cs2 e2 r2 w2 q2 => ?_
      obtain ⟨dy, l2, q2⟩ := withD_look q2
      split at q2
      · rename_i es
        obtain ⟨b, us, rfl, hb, ie⟩ := look_sh r2 w2 l2
        split at q2
        · rename_i ds hc
          have ha2 := e2.get ha
          obtain ⟨hS, vs, hl, is⟩ := r2.cell_lst ha2 hc
          exact ⟨a, b, vs, us, rfl, rfl, hl, hb, by rw [is.len, ie.len]; exact Nat.le_of_lt (size_lt q2.1), p (.d .non) .non S2 _ as2 _ (e1.trans e2) (r2.put ha2 (c := .lst (ds ++ es)) ⟨hS, _, upd_same, is.append ie⟩ hS) rfl q2.2⟩
        · exact q2.elim
      · exact q2.elim
    · exact q1.elim
  · exact q1.elim

/-! ### loops -/
/-- cells from n on forgotten -/
def forgetZ (n : Nat) : Option Z → Option Z
  | some (.c m) => if m < n then some (.c m) else none
  | o => o
def forget (n : Nat) (en : En) : En := en.map (forgetZ n)
def Wkn (n0 : Nat) (P : En → Cs → Prop) (en : En) (cs : Cs) : Prop := P en cs ∨ ∃ n, n0 ≤ n ∧ P (forget n en) (cs.take n)
theorem EnvOk.cut {K : PySem.W.Frag} {S : Hp} {as : List Addr} {en : En} {σ : L2.St} (h : EnvOk K S as en σ) (n : Nat) : EnvOk K S (as.take n) (DL.forget n en) σ := by
  refine ⟨by rw [h.len, DL.forget, List.length_map], fun i z e => ?_⟩
  unfold DL.forget at e
  rw [List.getElem?_map] at e
  cases q : en[i]? with
  | none => rw [q] at e; cases e
  | some o =>
    rw [q] at e
    have e' : forgetZ n o = some z := Option.some.inj e
    cases o with
    | none => cases e'
    | some y =>
      cases y with
      | d x =>
        cases e'
        obtain ⟨v, h1, h2⟩ := h.at_ i (.d x) q
        exact ⟨v, h1, h2⟩
      | c m =>
        have e2 : (if m < n then some (Z.c m) else none) = some z := e'
        split at e2
        · rename_i hm
          cases e2
          obtain ⟨v, h1, a, h2, h3⟩ := h.at_ i (.c m) q
          exact ⟨v, h1, a, by rw [List.getElem?_take_of_lt hm]; exact h2, h3⟩
        · cases e2
theorem Ext.cut {S S' : Hp} {as as' : List Addr} (e : Ext S as S' as') {n : Nat} (h : as.length ≤ n) : Ext S as S' (as'.take n) := by
  obtain ⟨m, rfl⟩ := e.pre
  refine ⟨e.sub, m.take (n - as.length), ?_⟩
  rw [List.take_append, List.take_of_length_le h]
theorem Wkn.out {K : PySem.W.Frag} {S0 S H : Hp} {as0 as : List Addr} {n0 : Nat} {P : En → Cs → Prop} {en : En} {cs : Cs} {σ : L2.St} (h : Wkn n0 P en cs) (x : Ext S0 as0 S as) (hn : as0.length = n0) (r : Rep K S H as cs) (e : EnvOk K S as en σ) :
    ∃ S' as' en' cs', Ext S0 as0 S' as' ∧ Rep K S' H as' cs' ∧ EnvOk K S' as' en' σ ∧ P en' cs' := by
  rcases h with h | ⟨n, h0, h⟩
  · exact ⟨S, as, en, cs, x, r, e, h⟩
  · exact ⟨S, _, _, _, x.cut (by omega), r.take n, e.cut n, h⟩
def dFor (it : DI) (g : DG) (b : DS) : DS := fun D en cs => it en cs fun ds keep cs1 => ∃ I : Nat → En → Cs → Prop, I 0 en cs1 ∧ (∀ i en cs, I i en cs → keep cs) ∧
  (∀ i d en cs, ds[i]? = some d → I i en cs → g (.d d) en cs fun en2 cs2 => b { D with nx := Wkn cs1.length (I (i + 1)), ct := Wkn cs1.length (I (i + 1)), bk := D.nx } en2 cs2) ∧ ∀ en cs, I ds.length en cs → D.nx en cs
theorem qs_for {tg iter : Expr} {body : List Stmt} {wi : TI} {g : TG} {tb : TS} {it : DI} {dg : DG} {db : DS} {is : List Nat} (hp : PassesOwn (model X.prog X.w) X.A X.env X.xe) (hi : QI X tg iter wi it) (hg : QG X tg g dg is) (hb : QSs X body tb db) (hc : X.calm = true := by rfl)
    (hs : ∀ x, foldedSetIterable iter X.env x = pure x := by intro _; rfl) : QS X (.For tg iter body [] pos) (tFor wi g tb) (dFor it dg db) := by
  refine ⟨ps_for hp hc hi.pi hg.pg hb.pss hs, ?_⟩
  intro σ H S as en cs D E r e q p
  refine hi.sem σ H S as en cs _ _ r e q fun J S1 H1 as1 ds keep cs1 e1 r1 wk q1 => ?_
  obtain ⟨I, i0, ik, step, done⟩ := q1
  refine ⟨fun i m σ' H' => m = ds.length - i ∧ i ≤ ds.length ∧ ∃ S' as' en' cs', Ext S1 as1 S' as' ∧ Rep X.K S' H' as' cs' ∧ EnvOk X.K S' as' en' σ' ∧ I i en' cs', ⟨ds.length, by omega, Nat.zero_le _, S1, as1, en, cs1, Ext.refl, r1, e.mono e1, i0⟩, ?_⟩
  rintro i m σ' H' ⟨rfl, hi', S', as', en', cs', ex, r', ev', hI⟩
  have kp := ik i en' cs' hI
  by_cases hlt : i < ds.length
  · obtain ⟨d, hd⟩ : ∃ d, ds[i]? = some d := ⟨ds[i], List.getElem?_eq_getElem hlt⟩
    obtain ⟨go, yl⟩ := wk.go S' H' as' cs' i d ex r' kp hd
    refine .inr ⟨go, fun σ2 H2 => ∃ S2 as2 en2 cs2, Ext S1 as1 S2 as2 ∧ Rep X.K S2 H2 as2 cs2 ∧ EnvOk X.K S2 as2 en2 σ2 ∧ I (i + 1) en2 cs2, fun σ2 H2 h2 => ⟨ds.length - (i + 1), by omega, rfl, hlt, h2⟩, fun x H'' y => ?_⟩
    obtain ⟨S2, s2, r2, ix⟩ := yl x H'' y
    have e2 : Ext S1 as1 S2 as' := ex.trans (Ext.of s2)
    refine hg.sem (.d d) x σ' H'' S2 as' en' cs' _ _ r2 (ev'.mono (Ext.of s2)) ix (step i d en' cs' hd hI) fun σ3 S3 H3 as3 en3 cs3 e3 r3 ev3 _ q3 => ?_
    have e4 := e2.trans e3
    refine hb.sem σ3 H3 S3 as3 en3 cs3 _ _ r3 ev3 q3 ⟨fun σ4 S4 H4 as4 en4 cs4 e5 r4 ev4 q4 => ?_, p.rt.mono (e1.trans e4), fun σ4 S4 H4 as4 en4 cs4 e5 r4 ev4 q4 => ?_, fun σ4 S4 H4 as4 en4 cs4 e5 r4 ev4 q4 => ?_⟩
    · exact Wkn.out q4 (e4.trans e5) r1.len r4 ev4
    · exact p.nx σ4 S4 H4 as4 en4 cs4 (e1.trans (e4.trans e5)) r4 ev4 q4
    · exact Wkn.out q4 (e4.trans e5) r1.len r4 ev4
  · have ei : i = ds.length := by omega
    subst ei
    exact .inl ⟨wk.stop S' H' as' cs' _ ex r' kp (Nat.le_refl _), p.nx σ' S' H' as' en' cs' (e1.trans ex) r' ev' (done en' cs' hI)⟩
def dWhile (c : DT) (b : DS) : DS := fun D en0 cs0 => ∃ I : Nat → En → Cs → Prop, (∃ m, I m en0 cs0) ∧
  ∀ m en cs, I m en cs → c en cs fun k cs1 => if k = true then b { D with nx := Wkn cs0.length fun en2 cs2 => ∃ m', m' < m ∧ I m' en2 cs2, ct := Wkn cs0.length fun en2 cs2 => ∃ m', m' < m ∧ I m' en2 cs2, bk := D.nx } en cs1 else D.nx en cs1
theorem qs_while {c : Expr} {body : List Stmt} {tc : TT} {tb : TS} {dc : DT} {db : DS} (hp : PassesOwn (model X.prog X.w) X.A X.env X.xe) (hc : QT X c tc dc) (hb : QSs X body tb db) : QS X (.While c body [] pos) (tWhile tc tb) (dWhile dc db) := by
  refine ⟨ps_while hp hc.pt hb.pss, ?_⟩
  intro σ H S as en cs D E r e q p
  obtain ⟨I, ⟨m0, i0⟩, step⟩ := q
  refine ⟨fun m σ' H' => ∃ S' as' en' cs', Ext S as S' as' ∧ Rep X.K S' H' as' cs' ∧ EnvOk X.K S' as' en' σ' ∧ I m en' cs', ⟨m0, S, as, en, cs, Ext.refl, r, e, i0⟩, ?_⟩
  rintro m σ' H' ⟨S', as', en', cs', ex, r', ev', hI⟩
  refine hc.sem σ' H' S' as' en' cs' _ _ r' ev' (step m en' cs' hI) fun b S1 H1 as1 cs1 e1 r1 q1 => ?_
  cases b with
  | true =>
    rw [if_pos rfl] at q1 ⊢
    refine ⟨fun σ2 H2 => ∃ m', m' < m ∧ ∃ S2 as2 en2 cs2, Ext S as S2 as2 ∧ Rep X.K S2 H2 as2 cs2 ∧ EnvOk X.K S2 as2 en2 σ2 ∧ I m' en2 cs2, fun σ2 H2 h => h, ?_⟩
    have e2 := ex.trans e1
    refine hb.sem σ' H1 S1 as1 en' cs1 _ _ r1 (ev'.mono e1) q1 ⟨fun σ4 S4 H4 as4 en4 cs4 e5 r4 ev4 q4 => ?_, p.rt.mono e2, fun σ4 S4 H4 as4 en4 cs4 e5 r4 ev4 q4 => ?_, fun σ4 S4 H4 as4 en4 cs4 e5 r4 ev4 q4 => ?_⟩
    · obtain ⟨S5, as5, en5, cs5, e6, r6, ev6, m', hm, q6⟩ := Wkn.out (P := fun en2 cs2 => ∃ m', m' < m ∧ I m' en2 cs2) q4 (e2.trans e5) r.len r4 ev4
      exact ⟨m', hm, S5, as5, en5, cs5, e6, r6, ev6, q6⟩
    · exact p.nx σ4 S4 H4 as4 en4 cs4 (e2.trans e5) r4 ev4 q4
    · obtain ⟨S5, as5, en5, cs5, e6, r6, ev6, m', hm, q6⟩ := Wkn.out (P := fun en2 cs2 => ∃ m', m' < m ∧ I m' en2 cs2) q4 (e2.trans e5) r.len r4 ev4
      exact ⟨m', hm, S5, as5, en5, cs5, e6, r6, ev6, q6⟩
  | false =>
    rw [if_neg Bool.false_ne_true] at q1 ⊢
    exact p.nx σ' S1 H1 as1 en' cs1 (ex.trans e1) r1 (ev'.mono e1) q1
end
end DL
set_option Elab.async false
set_option linter.all false
set_option maxRecDepth 100000
set_option maxHeartbeats 2000000
set_option autoImplicit false
namespace DL
open PySem PySem.Spec PyProof.Rows L2

/-! ### what a def promises, over data -/
def spD (K : PySem.W.Frag) (sp : DSpec) (vs : List V) (H : Hp) (Q : VK) : Prop :=
  ∃ (S : Hp) (as : List Addr) (zs : List Z) (cs : Cs) (k : Z → Cs → Prop), Rep K S H as cs ∧ VZL K S as zs vs ∧ sp zs cs k ∧ PQ K S as k Q
structure FnD (P : Program) (w : World) (K : PySem.W.Frag) (mg : Str → Option Value) (base : Heap) (k : Nat) (f : Addr) (fd : FuncData) (ps : List Str) (sp : DSpec) : Prop where
  len : ∀ zs cs q, sp zs cs q → zs.length = ps.length
  run : ∀ (A : Around) (outer : List Env) (s : Shared) (H : Hp) (args : Args) (us : List Value) (vs : List V) (Q : VK), Room k A → A.guards = some [] → Env0 P w K mg base A outer s H → BindsTo s fd args (ps.zip us) → Vals vs us → spD K sp vs H Q →
    codeAny (model P w) A (.call (.ref f) args) (CR CX0 outer P w H s Q E0) s
theorem FnD.mono {P : Program} {w : World} {K : PySem.W.Frag} {mg : Str → Option Value} {base : Heap} {j k : Nat} {f : Addr} {fd : FuncData} {ps : List Str} {sp : DSpec} (F : FnD P w K mg base j f fd ps sp) (h : j ≤ k) : FnD P w K mg base k f fd ps sp :=
  ⟨F.len, fun A outer s H args us vs Q hr => F.run A outer s H args us vs Q (hr.mono h)⟩
theorem FnD.imp {P : Program} {w : World} {K : PySem.W.Frag} {mg : Str → Option Value} {base : Heap} {k : Nat} {f : Addr} {fd : FuncData} {ps : List Str} {sp sp' : DSpec} (F : FnD P w K mg base k f fd ps sp) (h : ∀ zs cs q, sp' zs cs q → sp zs cs q) : FnD P w K mg base k f fd ps sp' :=
  ⟨fun zs cs q h' => F.len zs cs q (h zs cs q h'), fun A outer s H args us vs Q hr hg e0 hb hv ⟨S, as, zs, cs, q, a1, a2, a3, a4⟩ => F.run A outer s H args us vs Q hr hg e0 hb hv ⟨S, as, zs, cs, q, a1, a2, h _ _ _ a3, a4⟩⟩
section
variable {X : Cx} {k : Nat} {f : Addr} {fd : FuncData} {ps : List Str} {sp : DSpec} {x : Str} {p pos : Pos} {e : Expr} {es : List Expr} {ta : TA} {da : DA}
theorem run_fnD {pins : List (Addr × Obj)} {σ : L2.St} {H : Hp} {s : Shared} {Q : VK} {us : List Value} {vs : List V} (F : FnD X.prog X.w X.K X.mg X.base k f fd ps sp) (hr : Room k X.A) (hg : X.A.guards = some []) (hb : L2.Binds X.K fd ps [])
    (I : Inv X pins σ H s) (r : Vals vs us) (h : spD X.K sp vs H Q) : wpAny (model X.prog X.w) X.A (call (.ref f) us) (EP X pins σ Q) X.xe s := by
  have hl : (us ++ []).length = ps.length := by
    obtain ⟨S, as, zs, cs, q, a1, a2, a3, a4⟩ := h
    rw [List.append_nil, ← r.length, a2.len, F.len _ _ _ a3]
  have b := hb s us I.kIn hl
  rw [List.append_nil] at b
  refine wpAny_call (codeAny_mono (F.run X.A X.stack s H ⟨us, []⟩ us vs Q hr hg I.env0 b r h) fun r s' hq => ?_)
  cases r with
  | error e => exact hq.elim
  | ok fl =>
    cases fl with
    | ret u => exact I.after hq
    | next => exact hq.elim
    | brk => exact hq.elim
    | cont => exact hq.elim
def tCallD (K : PySem.W.Frag) (sp : DSpec) (t : TA) : TE := fun σ H Q => t σ H fun vs H1 => spD K sp vs H1 Q
def dCall (sp : DSpec) (a : DA) : DE := fun en cs k => a en cs fun zs cs1 => sp zs cs1 k
theorem q_call (F : FnD X.prog X.w X.K X.mg X.base k f fd ps sp) (hr : Room k X.A) (hgd : X.A.guards = some []) (hm : X.mg x = some (.ref f)) (hk : PySem.W.keepIn X.K (.ref f) = true) (hb : L2.Binds X.K fd ps []) (ha : QA X (e :: es) ta da) (hg : Gl X x := by rfl)
    (hdb : (x == ("__debug__" : Str)) = false := by decide) (he : starEach (e :: es) X.env = (false, eval e X.env) :: starEach es X.env := by rfl) (hpl : (backTo pos (starEach es X.env)).any (·.1) = false := by rfl) :
    QE X (.Call (.Name x p) (e :: es) [] pos) (tCallD X.K sp ta) (dCall sp da) := by
  refine ⟨⟨fun pins s σ H Q I h => ?_⟩, ?_⟩
  · refine wpAny_Call_Name_kw (ld_glob I hg hm ?_ hdb)
    refine PySem.W.callWith_K (h₀ := X.base) I.ok.mod.kin hk (thn (ha.pa.run pos pins s σ H _ I h) fun us s1 ⟨vs, H1, I1, r, q⟩ => ⟨I1.kIn, ?_⟩) he hpl
    exact run_fnD F hr hgd hb I1 r q
  · intro σ H S as en cs k Q rp ev q pq
    refine ha.sem σ H S as en cs _ _ rp ev q fun zs vs S1 H1 as1 cs1 e1 r1 v1 q1 => ?_
    exact ⟨S1, as1, zs, cs1, k, r1, v1, q1, pq.mono e1⟩
end

/-! ### a def by its body -/
/-- what a def hands back: n cells were there at the call -/
def FinZ (n : Nat) (k : Z → Cs → Prop) : Z → Cs → Prop := fun z cs => match z with
  | .d x => k (.d x) (cs.take n)
  | .c m => (m < n ∧ k (.c m) (cs.take n)) ∨ (n ≤ m ∧ match cs[m]? with
    | some x => k (.d x) (cs.take n) ∨ k (.c n) (cs.take n ++ [x])
    | none => False)
def startD (N : List Str) (zs : List Z) : En := zs.map some ++ List.replicate (N.length - zs.length) none
theorem VZL.get {K : PySem.W.Frag} {S : Hp} {as : List Addr} : ∀ {zs : List Z} {vs : List V} {i : Nat} {z : Z}, VZL K S as zs vs → zs[i]? = some z → ∃ v, vs[i]? = some v ∧ VZ K S as z v
  | [], _, _, _, _, e => by simp at e
  | _ :: _, _, 0, _, ⟨v, r, h1, h2, h3⟩, e => by
    have e' := Option.some.inj e
    subst e' h1
    exact ⟨v, rfl, h2⟩
  | _ :: _, _, i + 1, _, ⟨v, r, h1, h2, h3⟩, e => by
    subst h1
    exact VZL.get (i := i) h3 e
theorem env_start {K : PySem.W.Frag} {S : Hp} {as : List Addr} {N : List Str} {zs : List Z} {vs : List V} (h : VZL K S as zs vs) : EnvOk K S as (startD N zs) (L2.start N vs) := by
  unfold startD L2.start
  refine ⟨by simp only [List.length_append, List.length_map, List.length_replicate, h.len], fun i z e => ?_⟩
  by_cases hi : i < zs.length
  · rw [List.getElem?_append_left (by simpa using hi), List.getElem?_map] at e
    obtain ⟨y, hy⟩ : ∃ y, zs[i]? = some y := ⟨zs[i], List.getElem?_eq_getElem hi⟩
    rw [hy] at e
    cases e
    obtain ⟨v, h1, h2⟩ := h.get hy
    refine ⟨v, ?_, h2⟩
    rw [List.getElem?_append_left (by simpa [h.len] using hi), List.getElem?_map, h1]
    rfl
  · rw [List.getElem?_append_right (by simpa using hi), List.getElem?_replicate] at e
    split at e <;> cases e
theorem Rep.pick {K : PySem.W.Frag} {S H : Hp} {as : List Addr} {cs : Cs} (r : Rep K S H as cs) {n m : Nat} {a : Addr} {x : D} (hm : n ≤ m) (ha : as[m]? = some a) (hx : cs[m]? = some x) : Rep K S H (as.take n ++ [a]) (cs.take n ++ [x]) := by
  have t := r.take n
  have np : a ∉ as.take n := fun z => by
    obtain ⟨i, hi, e⟩ := List.getElem_of_mem z
    rw [List.getElem_take] at e
    have hl : i < n := by
      have := hi
      rw [List.length_take] at this
      omega
    have := nd_ix r.nod (i := i) (j := m) (by rw [← e]; exact List.getElem?_eq_getElem _) ha
    omega
  refine ⟨r.sub, by rw [List.length_append, List.length_append, t.len]; rfl, ?_, fun j b d e1 e2 => ?_, fun b hb => ?_⟩
  · exact List.nodup_append.mpr ⟨t.nod, by simp, fun y hy w hw => by
      have hw' : w = a := by simpa using hw
      subst hw'
      exact fun z => np (z ▸ hy)⟩
  · by_cases hj : j < (as.take n).length
    · rw [List.getElem?_append_left hj] at e1
      rw [List.getElem?_append_left (by rw [← t.len]; exact hj)] at e2
      exact t.cel j b d e1 e2
    · rw [List.getElem?_append_right (by omega)] at e1
      rw [List.getElem?_append_right (by rw [← t.len]; omega), ← t.len] at e2
      have hz : j - (as.take n).length = 0 := by
        have := (List.getElem?_eq_some_iff.mp e1).1
        simp only [List.length_cons, List.length_nil] at this
        omega
      rw [hz] at e1 e2
      cases e1
      cases e2
      exact r.cel m a x ha hx
  · rcases List.mem_append.mp hb with hb | hb
    · exact t.liv b hb
    · have : b = a := by simpa using hb
      subst this
      exact r.liv b (List.mem_of_getElem? ha)
theorem CelAt.obj {K : PySem.W.Frag} {S H : Hp} {a : Addr} : ∀ {x : D}, CelAt K S H a x → ∃ o, H a = some o ∧ S a = none ∧ Is K (upd S a o) x (.ref a)
  | .lst ds, ⟨h1, vs, h2, h3⟩ => ⟨_, h2, h1, a, vs, rfl, upd_same, IsL.mono (Sub.new h1) _ _ h3⟩
  | .dic kvs, ⟨h1, kv, h2, h3⟩ => ⟨_, h2, h1, a, kv, rfl, upd_same, IsK.mono (Sub.new h1) _ _ h3⟩
  | .scr _, h => h.elim
  | .ty _, h => h.elim
  | .obj _, h => h.elim
  | .non, h => h.elim
  | .bl _, h => h.elim
  | .int _, h => h.elim
  | .str _, h => h.elim
  | .tup _, h => h.elim
theorem fin_pq {K : PySem.W.Frag} {S : Hp} {as : List Addr} {k : Z → Cs → Prop} {Q : VK} (p : PQ K S as k Q) : PQ K S as (FinZ as.length k) Q := by
  intro z v S' H' as' cs' e r vz h
  have et := e.take
  have rt := r.take as.length
  cases z with
  | d x => exact p (.d x) v S' H' _ _ et rt vz h
  | c m =>
    obtain ⟨a, ha, rfl⟩ := vz
    rcases h with ⟨hm, h⟩ | ⟨hm, h⟩
    · exact p (.c m) _ S' H' _ _ et rt ⟨a, by rw [List.getElem?_take_of_lt hm]; exact ha, rfl⟩ h
    · split at h
      · rename_i x hx
        have c := r.cel m a x ha hx
        rcases h with h | h
        · obtain ⟨o, h1, h2, h3⟩ := c.obj
          have np : a ∉ as'.take as.length := fun z => by
            obtain ⟨i, hi, e⟩ := List.getElem_of_mem z
            rw [List.getElem_take] at e
            have hl : i < as.length := by
              have := hi
              rw [List.length_take] at this
              omega
            have := nd_ix r.nod (i := i) (j := m) (by rw [← e]; exact List.getElem?_eq_getElem _) ha
            omega
          exact p (.d x) _ (upd S' a o) H' _ _ (et.trans (Ext.of (Sub.new h2))) (rt.freeze np h1 h2) h3 h
        · have hz : (as'.take as.length).length = as.length := by
            obtain ⟨m', rfl⟩ := e.pre
            rw [List.take_left]
          refine p (.c as.length) _ S' H' _ _ ⟨et.sub, ?_⟩ (r.pick hm ha hx) ⟨a, ?_, rfl⟩ h
          · obtain ⟨m', e'⟩ := et.pre
            exact ⟨m' ++ [a], by rw [e', List.append_assoc]⟩
          · rw [List.getElem?_append_right (by omega), hz, Nat.sub_self]
            rfl
      · exact h.elim
section
variable {P : Program} {w : World} {K : PySem.W.Frag} {mg : Str → Option Value} {base : Heap}
theorem fn_D {x qual : Str} {st : Stmt} {f : Addr} {fd : FuncData} {N ps : List Str} {k : Nat} {sp : DSpec} (F : Fun K x qual st f fd) (S : FnScope N ps (defScope st)) (len : ∀ zs cs q, sp zs cs q → zs.length = ps.length) (t : DS)
    (der : ∀ (cdv : Value) (A : Around) (outer : List Env) (s : Shared) (H : Hp), Room k (A.deeper (envOfC qual (defScope st) s.heap.objs.size f cdv)) → (A.deeper (envOfC qual (defScope st) s.heap.objs.size f cdv)).guards = some [] →
      ∃ ts : TS, QSs (cxOf CX0 P w K mg base N qual (defScope st) f cdv A outer s H E0).nox (defBody st) ts t)
    (rd : ∀ zs cs q, sp zs cs q → t ⟨fun _ c => q (.d .non) (c.take cs.length), FinZ cs.length q, fun _ _ => False, fun _ _ => False⟩ (startD N zs) cs) : FnD P w K mg base (k + 1) f fd ps sp := by
  obtain ⟨oc, od, kV, doc, pm, an, cdv, ct, osl, rfl, lk, hcd⟩ := F.ex
  refine ⟨len, fun A outer s H args us vs Q hr hgd e0 hb r hsp => ?_⟩
  obtain ⟨T, as, zs, cs, q, rep, vz, hz, pq⟩ := hsp
  have hl : vs.length = ps.length := vz.len.trans (len _ _ _ hz)
  have KX : K.In s.heap := e0.mod.kin.keeps fun b o e => (e0.bs b o e).1
  have lim : s.heap.NoLimit := e0.mod.nolimit.keeps fun b o e => (e0.bs b o e).1
  refine codeAny_call_function hr.depth (KX _ _ lk) rfl S.co S.gen rfl (PySem.W.codeRec_of KX hcd) (hb _ _ _ _ ?_)
  refine wpAny_newFunctionEnv_cells S.kind (fun ⟨n, v⟩ hy => (S.par n (List.of_mem_zip hy).1).imp (fun h => h) fun h => ⟨h, PySem.W.cellsFrom_some _ _ _ (.inl h)⟩) fun env he s1 x => ?_
  subst he
  refine ⟨lim.keeps x.toInCall.keep, codeAny_func ?_⟩
  obtain ⟨ts, d⟩ := der cdv A outer s H (hr.deeper _) hgd
  have I : Inv (cxOf CX0 P w K mg base N qual (defScope st) f cdv A outer s H E0) [] (L2.start N vs) H s1 := inv_start S hr.hd e0 hl r x
  have body : ts { nx := fun _ H' => Q .non H', rt := Q } (L2.start N vs) H := by
    refine d.sem (L2.start N vs) H T as (startD N zs) cs _ _ rep (env_start vz) (rd zs cs q hz) ⟨fun σ' S' H' as' en' cs' e' r' ev' q' => ?_, ?_, fun _ _ _ _ _ _ _ _ _ h => h, fun _ _ _ _ _ _ _ _ _ h => h⟩
    · rw [← rep.len] at q'
      exact pq (.d .non) .non S' H' _ _ e'.take (r'.take as.length) rfl q'
    · rw [← rep.len]
      exact fin_pq pq
  refine wpAny_mono (d.pss.nox.run [] s1 (L2.start N vs) H _ I body) (fun fl s' hs => ?_) fun e s' hs => hs
  cases fl with
  | ret u =>
    obtain ⟨v, σ', H', J, rv, q⟩ := hs
    exact ⟨v, H', J.os, J.bare, J.base, J.hok, rv, q⟩
  | next =>
    obtain ⟨σ', H', J, q⟩ := hs
    exact ⟨.non, H', J.os, J.bare, J.base, J.hok, rfl, q⟩
  | brk => exact hs.elim fun _ h => h.elim fun _ h => h.2.elim
  | cont => exact hs.elim fun _ h => h.elim fun _ h => h.2.elim

end
end DL
set_option Elab.async false
set_option linter.all false
set_option maxRecDepth 100000
set_option maxHeartbeats 2000000
set_option autoImplicit false
namespace DL
open PySem PySem.Spec PyProof.Rows L2

/-- the def as the top left it -/
def DefT (K : PySem.W.Frag) (mg : Str → Option Value) (name : Str) (st : Stmt) (ps : List Str) : Prop :=
  ∃ (f : Addr) (fd : FuncData), Fun K name name st f fd ∧ mg name = some (.ref f) ∧ L2.Binds K fd ps []
/-- what callers know of it -/
def Got (P : Program) (w : World) (K : PySem.W.Frag) (mg : Str → Option Value) (base : Heap) (name : Str) (k : Nat) (ps : List Str) (sp : DSpec) : Prop :=
  ∃ (f : Addr) (fd : FuncData), mg name = some (.ref f) ∧ PySem.W.keepIn K (.ref f) = true ∧ L2.Binds K fd ps [] ∧ FnD P w K mg base k f fd ps sp
section
variable {P : Program} {w : World} {K : PySem.W.Frag} {mg : Str → Option Value} {base : Heap} {name : Str} {k : Nat} {ps : List Str} {sp : DSpec}
theorem Got.mono {j : Nat} (G : Got P w K mg base name j ps sp) (h : j ≤ k) : Got P w K mg base name k ps sp :=
  let ⟨f, fd, a, b, c, d⟩ := G
  ⟨f, fd, a, b, c, d.mono h⟩
theorem Got.imp {sp' : DSpec} (G : Got P w K mg base name k ps sp) (h : ∀ zs cs q, sp' zs cs q → sp zs cs q) : Got P w K mg base name k ps sp' :=
  let ⟨f, fd, a, b, c, d⟩ := G
  ⟨f, fd, a, b, c, d.imp h⟩
/-- what a def is to reach -/
abbrev endD (n : Nat) (q : Z → Cs → Prop) : DEnds := ⟨fun _ c => q (.d .non) (c.take n), FinZ n q, fun _ _ => False, fun _ _ => False⟩
theorem Got.mk {st : Stmt} {N : List Str} (T : DefT K mg name st ps) (S : FnScope N ps (defScope st)) (len : ∀ zs cs q, sp zs cs q → zs.length = ps.length) (t : DS)
    (der : ∀ (f : Addr) (cdv : Value) (A : Around) (outer : List Env) (s : Shared) (H : Hp), Room k (A.deeper (envOfC name (defScope st) s.heap.objs.size f cdv)) → (A.deeper (envOfC name (defScope st) s.heap.objs.size f cdv)).guards = some [] →
      ∃ ts : TS, QSs (cxOf CX0 P w K mg base N name (defScope st) f cdv A outer s H E0).nox (defBody st) ts t)
    (rd : ∀ zs cs q, sp zs cs q → t (endD cs.length q) (startD N zs) cs) : Got P w K mg base name (k + 1) ps sp := by
  obtain ⟨f, fd, F, g, b⟩ := T
  exact ⟨f, fd, g, F.kp, b, fn_D F S len t (der f) rd⟩
theorem defT_mk {st : Stmt} {h : Heap} {f : Addr} {oc : Value} {od an : Option Addr} {osl : Array (Option Value)} {kV doc pm cdv ct : Value} (X : K.In h) (G : h.Ns mainGlobals mg)
    (a : PySem.W.nsIn K mainGlobals name = some (some (.ref f))) (l : K.lookup f = some ⟨oc, od, .func (PySem.W.fnOf name name (defArgs st) (defBody st) (defScope st) .none kV doc pm an cdv ct), osl⟩)
    (c : PySem.W.codeIn K cdv name = true) (kp : PySem.W.keepIn K (.ref f) = true)
    (hb : ∀ (kV doc pm : Value) (an : Option Addr) (cdv ct : Value) (us : List Value), us.length = ps.length → bindArgs (PySem.W.fnOf name name (defArgs st) (defBody st) (defScope st) .none kV doc pm an cdv ct) ⟨us, []⟩ = pure (ps.zip us)) : DefT K mg name st ps :=
  ⟨f, _, fun_mk l c kp, PySem.W.mg_of X G a, (fun_mk l c kp).binds hb⟩
end
section
variable {X : Cx} {pos p : Pos} {x : Str} {k : Nat} {ps : List Str} {sp : DSpec} {e : Expr} {es : List Expr} {ta : TA} {da : DA}
theorem qc (G : Got X.prog X.w X.K X.mg X.base x k ps sp) (hr : Room k X.A) (hgd : X.A.guards = some []) (ha : QA X (e :: es) ta da) (hg : Gl X x := by rfl)
    (hdb : (x == ("__debug__" : Str)) = false := by decide) (he : starEach (e :: es) X.env = (false, eval e X.env) :: starEach es X.env := by rfl) (hpl : (backTo pos (starEach es X.env)).any (·.1) = false := by rfl) :
    QE X (.Call (.Name x p) (e :: es) [] pos) (tCallD X.K sp ta) (dCall sp da) := by
  obtain ⟨f, fd, a, b, c, d⟩ := G
  exact q_call d hr hgd a b c ha hg hdb he hpl
/-- a built-in type as a value -/
theorem q_bty {n : String} (hm : X.mg x = none) (hv : bootBuiltins x = some (.type n)) (hg : Gl X x := by rfl) (hn : x ≠ "__name__" := by decide) (hd : (x == ("__debug__" : Str)) = false := by decide) : QE X (.Name x pos) (tC (.ty n)) (dC (.ty n)) :=
  ⟨pe_bltn hg hm hv rfl hn hd, sem_c fun _ => rfl⟩
theorem q_inKT {a b : Expr} {ta tb : TE} {da db : DE} (hu : X.A.units + 1 < cLine) (ha : QE X a ta da) (hb : QE X b tb db) (hm : behindInMarks .In b = false := by rfl) : QT X (.Compare a [.In] [b] pos) (tB (tDIn ta tb)) (dB (dInK false da db)) := by
  refine ⟨pt_cmp (pc_din hu ha.pe hb.pe) hm, ?_⟩
  intro σ H S as en cs k Q rp e q p
  refine (q_inK (pos := pos) hu ha hb hm).sem.use rp e q fun z v S1 H1 as1 cs1 e1 r1 v1 q1 => ?_
  obtain ⟨b, rfl, q1⟩ := q1
  exact ⟨b, v1, p b S1 H1 as1 cs1 e1 r1 q1⟩
theorem q_notinKT {a b : Expr} {ta tb : TE} {da db : DE} (hu : X.A.units + 1 < cLine) (ha : QE X a ta da) (hb : QE X b tb db) (hm : behindInMarks .NotIn b = false := by rfl) : QT X (.Compare a [.NotIn] [b] pos) (tB (tDNotIn ta tb)) (dB (dInK true da db)) := by
  refine ⟨pt_cmp (pc_dnotin hu ha.pe hb.pe) hm, ?_⟩
  intro σ H S as en cs k Q rp e q p
  refine (q_notinK (pos := pos) hu ha hb hm).sem.use rp e q fun z v S1 H1 as1 cs1 e1 r1 v1 q1 => ?_
  obtain ⟨b, rfl, q1⟩ := q1
  exact ⟨b, v1, p b S1 H1 as1 cs1 e1 r1 q1⟩
end
theorem mg_int {K : PySem.W.Frag} {mg : Str → Option Value} {h : Heap} {name : Str} {n : Int} {t : Tok} (X : K.In h) (G : h.Ns mainGlobals mg) (a : PySem.W.nsIn K mainGlobals name = some (some (.int n t))) : ∃ t, mg name = some (.int n t) := ⟨t, PySem.W.mg_of X G a⟩
/-! ### the end of a law -/
section
variable {P : Program} {w : World} {K : PySem.W.Frag} {mg : Str → Option Value}
theorem law_callG {mb : Str → Option Value} {k : Nat} {fa a : Addr} {x name : Str} {sp : DSpec} {s1 : Shared} {vs : List Value} {ns : List Int}
    (KX : K.In s1.heap) (hns : s1.heap.Ns mainGlobals mg) (hb : s1.heap.Ns builtinsNs mb) (hbb : ∀ x : Str, x ≠ "__name__" → mb x = bootBuiltins x) (hlim : s1.heap.NoLimit) (hg : s1.gens = #[])
    (ha : s1.heap.get? a = some { cls := .type "list", data := .seq vs.toArray }) (hi : IntsAre vs ns) (hl : ns.length ≤ sizeLine) (hr : Room k callerA) (hmg : mg name = some (.ref fa))
    (F : ∀ base : Heap, K.In base → base.Ns mainGlobals mg → Got P w K mg base name k [x] sp)
    (hsp : sp [.d (.scr ns)] [] fun z _ => z = .d (.bl true)) :
    codeAny (model P w) callerA (.call (.ref fa) ⟨[.ref a], []⟩) (fun r s' => r = .ok (.ret (.bool true)) ∧ OldK s1.heap s'.heap ∧ s'.os = s1.os ∧ AllBare s'.gens) s1 := by
  have rv := vals_ints hi
  have core : ∀ H : Hp, Only H → SqL K H a (ns.map V.int) → HOk P w H s1.heap → (∀ b, H b ≠ none → b = a) → (H a ≠ none → K.lookup a = none) →
      codeAny (model P w) callerA (.call (.ref fa) ⟨[.ref a], []⟩) (fun r s' => r = .ok (.ret (.bool true)) ∧ OldK s1.heap s'.heap ∧ s'.os = s1.os ∧ AllBare s'.gens) s1 := by
    intro H hO hS hok hA hK
    have only : ∀ {b : Addr}, b ≠ a → H b = none := fun {b} hb => by
      cases q : H b with
      | none => rfl
      | some u => exact absurd (hA b (by rw [q]; exact fun z => nomatch z)) hb
    have keepD : ∀ {b : Addr} {o : Obj} {es : Array DictEntry} {ep : Nat}, s1.heap.get? b = some o → o.data = .dict es ep → (hidT s1.heap H).get? b = some o := fun {b o es ep} e d => hidT_get e (only fun z => by
      subst z
      rw [ha] at e
      cases e
      cases d)
    have keepN : ∀ {b : Addr} {m : Str → Option Value}, s1.heap.Ns b m → (hidT s1.heap H).Ns b m := fun ⟨o, es, ep, e, d, r⟩ => ⟨o, es, ep, keepD e d, d, r⟩
    have kb : K.In (hidT s1.heap H) := fun b o e => hidT_get (KX b o e) (by
      by_cases z : b = a
      · subst z
        cases q : H b with
        | none => rfl
        | some u => rw [hK (by rw [q]; exact fun z => nomatch z)] at e; cases e
      · exact only z)
    have md : Mod K mg (hidT s1.heap H) := ⟨kb, keepN hns, ⟨mb, keepN hb, hbb⟩, hlim.elim fun mc hm => ⟨mc, keepN hm.1, hm.2⟩⟩
    have e0 : Env0 P w K mg (hidT s1.heap H) callerA [] s1 H := ⟨rfl, md, fun b o e => of_hidT e, Nat.le_of_eq (hidT_size _ _), trivial, fun b hb => absurd hb (by exact fun z => nomatch z), hok, .of_eq hg⟩
    have sp0 : spD K sp [.ref a] H fun v _ => v = .bl true := ⟨H, [], [.d (.scr ns)], [], _, ⟨Sub.refl H, rfl, List.nodup_nil, fun n b c e => by simp at e, fun b hb => by simp at hb⟩, ⟨_, [], rfl, ⟨a, rfl, hS⟩, rfl⟩, hsp, fun z v S' H' as' cs' e r vz h => by subst h; exact vz⟩
    obtain ⟨f, fd, g, kp, b, FD⟩ := F _ kb (keepN hns)
    cases g.symm.trans hmg
    have hbind : BindsTo s1 fd ⟨[.ref a], []⟩ (([x] : List Str).zip [Value.ref a]) := b s1 [.ref a] KX rfl
    refine codeAny_mono (FD.run callerA [] s1 H ⟨[.ref a], []⟩ [.ref a] [.ref a] _ hr rfl e0 hbind (.cons rfl .nil) sp0) fun r s' h => ?_
    cases r with
    | error e => exact h.elim
    | ok fl =>
      cases fl with
      | next => exact h.elim
      | brk => exact h.elim
      | cont => exact h.elim
      | ret u =>
        obtain ⟨v, H', os, bare, un, hok', r', rfl⟩ := h
        obtain rfl : u = Value.bool true := r'
        refine ⟨rfl, OldK.of_keep fun b o e => ?_, os, bare⟩
        rcases hO b with z | ⟨ob, xs, z⟩
        · exact un.keep b o e z (fun q => nomatch q) (fun q => nomatch q)
        · obtain ⟨e1, _⟩ := hok b _ z
          obtain ⟨e2, _⟩ := hok' b _ (un.frzs b ob _ z)
          rw [e] at e1
          cases e1
          exact e2
  cases hk : K.lookup a with
  | some o =>
    have e := KX a o hk
    rw [ha] at e
    cases e
    exact core (fun _ => none) (fun _ => .inl rfl) (.inr ⟨_, vs.toArray, _, hk, rfl, rfl, rfl, by rw [List.size_toArray, hi.length]; exact hl, by simpa using rv⟩) (fun b u z => by cases z) (fun b z => absurd rfl z) fun z => absurd rfl z
  | none =>
    have at_ : ∀ b, b ≠ a → (fun b => if b = a then some (HO.frz { cls := .type "list", data := .seq vs.toArray } (.lst (ns.map V.int))) else none) b = none := fun b hb => if_neg hb
    refine core (fun b => if b = a then some (.frz { cls := .type "list", data := .seq vs.toArray } (.lst (ns.map V.int))) else none) (fun b => ?_) (.inl (.inr ⟨{ cls := .type "list", data := .seq vs.toArray }, if_pos rfl⟩)) (fun b u z => ?_) (fun b z => ?_) fun _ => hk
    · by_cases h : b = a
      · exact .inr ⟨_, _, if_pos h⟩
      · exact .inl (at_ b h)
    · by_cases h : b = a
      · cases (if_pos h).symm.trans z
        subst h
        exact ⟨ha, by rw [List.length_map]; exact hl, vs, _, rv, ha⟩
      · cases (at_ b h).symm.trans z
    · exact Decidable.byContradiction fun h => z (at_ b h)
end
/-- the law's end, from what callers of the law know -/
theorem walk_G {l : PySem.W.OpenLaw} {n k : Nat} {q : Program} {loose : List Str} {XP : (Str → Option Value) → Heap → Prop} {YP : World → Heap → Prop} {d : DefRec} {K : Params → PySem.W.Frag} {sp : DSpec} {x : Str}
    (hn : l.most = some n) (hn2 : n ≤ sizeLine) (hdf : d.params.defaults = []) (hr : Room k callerA) (hY : ∀ (w : World) (h : Heap), YP w h → (K w.params).In h)
    (F : ∀ (w : World) (mg : Str → Option Value) (h : Heap), (K w.params).In h → h.Ns mainGlobals mg →
      ∀ base : Heap, (K w.params).In base → base.Ns mainGlobals mg → Got l.prog w (K w.params) mg base d.name k [x] sp)
    (hsp : ∀ ns : List Int, ns.length ≤ n → sp [.d (.scr ns)] [] fun z _ => z = .d (.bl true)) :
    PySem.W.WalkO q loose XP YP l.row.toRowW d [] (fun f vs => PySem.call f vs) := by
  refine Att.attach_call hn hdf fun w s0 s1 mg mb fa o pm cd doc a vs ns G Y ho hd hcd hmg hobj hints hlen hg => ?_
  have KX := hY w _ Y
  exact law_callG KX G.T.g G.T.b G.T.builtins G.T.nolimit hg hobj hints (Nat.le_trans hlen hn2) hr hmg (F w mg _ KX G.T.g) (hsp ns hlen)
end DL
set_option Elab.async false
set_option linter.all false
set_option maxRecDepth 100000
set_option maxHeartbeats 2000000
set_option autoImplicit false
namespace DL
open PySem L2
/-- a comprehension whose turn changes no cell -/
theorem lc_go {fin : (Z → Cs → Prop) → List D → Cs → Prop} {k : Z → Cs → Prop} {ds : List D} {keep : Cs → Prop} {cs1 : Cs} {g : DG} {tt : DT} {te : DE} {own : List Nat} {en : En} (f : D → Option D) (hk : ∀ acc, keep (cs1 ++ [.lst acc])) (hl : ds.length ≤ 90000)
    (h : ∀ (i : Nat) (d : D) (acc : List D), ds[i]? = some d → ∀ (P : Z → Cs → Prop) (N : Cs → Prop), (∀ y, f d = some y → P (.d y) (cs1 ++ [.lst acc])) → (f d = none → N (cs1 ++ [.lst acc])) →
      g (.d d) (wipeD en own) (cs1 ++ [.lst acc]) fun en2 cs2 => tt en2 cs2 fun b cs3 => if b = true then te en2 cs3 P else N cs3)
    (hq : fin k (ds.filterMap f) cs1) :
    ∃ I : Nat → List D → Cs → Prop, I 0 [] cs1 ∧ (∀ i acc c, I i acc c → c.length = cs1.length ∧ keep (c ++ [.lst acc])) ∧
      (∀ i d acc c, ds[i]? = some d → I i acc c → g (.d d) (wipeD en own) (c ++ [.lst acc]) fun en2 cs2 => tt en2 cs2 fun b cs3 =>
        if b = true then te en2 cs3 fun z cs4 => ∃ y c', z = .d y ∧ cs4.take (c.length + 1) = c' ++ [.lst acc] ∧ c'.length = c.length ∧ acc.length < 100000 ∧ I (i + 1) (acc ++ [y]) c'
        else ∃ c', cs3.take (c.length + 1) = c' ++ [.lst acc] ∧ c'.length = c.length ∧ I (i + 1) acc c') ∧
      ∀ acc c, I ds.length acc c → fin k acc c := by
  refine ⟨fun i acc c => c = cs1 ∧ acc = (ds.take i).filterMap f, ⟨rfl, rfl⟩, ?_, ?_, ?_⟩
  · rintro i acc c ⟨rfl, _⟩
    exact ⟨rfl, hk acc⟩
  · rintro i d acc c hd ⟨rfl, rfl⟩
    have hi := (List.getElem?_eq_some_iff.mp hd).1
    have tk : (c ++ [D.lst ((ds.take i).filterMap f)]).take (c.length + 1) = c ++ [D.lst ((ds.take i).filterMap f)] := List.take_of_length_le (by simp)
    have sz : ((ds.take i).filterMap f).length < 100000 := by
      have h1 := List.length_filterMap_le f (ds.take i)
      rw [List.length_take] at h1
      omega
    have step : (ds.take (i + 1)).filterMap f = (ds.take i).filterMap f ++ (match f d with
      | some y => [y]
      | none => []) := by
      rw [List.take_add_one, hd, List.filterMap_append]
      congr 1
      show List.filterMap f [d] = _
      rw [List.filterMap_cons, List.filterMap_nil]
      cases f d <;> rfl
    refine h i d _ hd _ _ (fun y hy => ⟨y, c, rfl, tk, rfl, sz, rfl, ?_⟩) (fun hy => ⟨c, tk, rfl, rfl, ?_⟩)
    · rw [step, hy]
    · rw [step, hy, List.append_nil]
  · rintro acc c ⟨rfl, rfl⟩
    rw [List.take_length]
    exact hq
theorem filterMap_some {α β : Type} (f : α → β) (l : List α) : l.filterMap (fun x => some (f x)) = l.map f := by
  induction l with
  | nil => rfl
  | cons a l ih => rw [List.filterMap_cons, List.map_cons, ih]
/-- .. without a test -/
theorem lc_map {fin : (Z → Cs → Prop) → List D → Cs → Prop} {k : Z → Cs → Prop} {ds : List D} {keep : Cs → Prop} {cs1 : Cs} {g : DG} {te : DE} {own : List Nat} {en : En} (f : D → D) (hk : ∀ acc, keep (cs1 ++ [.lst acc])) (hl : ds.length ≤ 90000)
    (h : ∀ (i : Nat) (d : D) (acc : List D), ds[i]? = some d → ∀ (P : Z → Cs → Prop), P (.d (f d)) (cs1 ++ [.lst acc]) → g (.d d) (wipeD en own) (cs1 ++ [.lst acc]) fun en2 cs2 => te en2 cs2 P)
    (hq : fin k (ds.map f) cs1) :
    ∃ I : Nat → List D → Cs → Prop, I 0 [] cs1 ∧ (∀ i acc c, I i acc c → c.length = cs1.length ∧ keep (c ++ [.lst acc])) ∧
      (∀ i d acc c, ds[i]? = some d → I i acc c → g (.d d) (wipeD en own) (c ++ [.lst acc]) fun en2 cs2 => dYes en2 cs2 fun b cs3 =>
        if b = true then te en2 cs3 fun z cs4 => ∃ y c', z = .d y ∧ cs4.take (c.length + 1) = c' ++ [.lst acc] ∧ c'.length = c.length ∧ acc.length < 100000 ∧ I (i + 1) (acc ++ [y]) c'
        else ∃ c', cs3.take (c.length + 1) = c' ++ [.lst acc] ∧ c'.length = c.length ∧ I (i + 1) acc c') ∧
      ∀ acc c, I ds.length acc c → fin k acc c := by
  refine lc_go (fun x => some (f x)) hk hl (fun i d acc hd P N hp _ => ?_) (by rw [filterMap_some]; exact hq)
  show g (.d d) (wipeD en own) (cs1 ++ [.lst acc]) fun en2 cs2 => te en2 cs2 P
  exact h i d acc hd P (hp _ rfl)
theorem yes_all (cs : Cs) : ∀ acc, yes (cs ++ [.lst acc]) := fun _ => trivial
theorem finZ_d (n : Nat) (q : Z → Cs → Prop) (x : D) (cs : Cs) : FinZ n q (.d x) cs = q (.d x) (cs.take n) := rfl
end DL
set_option Elab.async false
set_option linter.all false
set_option maxRecDepth 100000
set_option maxHeartbeats 2000000
set_option autoImplicit false
/-! t[::-1] of lists and tuples -/
namespace DL
open PySem PySem.Spec PyProof.Rows HT L2
section
variable {prog : Program} {w : World} {A : Around} {E : Value → Shared → Prop} {s : Shared}
theorem places_rev (n : Nat) : Builtin.Slice.slicePlaces ((n : Int) - 1) (-1) (-1) = n := by
  unfold Builtin.Slice.slicePlaces
  simp only [show ¬ ((-1 : Int) > 0) from by omega, if_false]
  have e : ((n : Int) - 1 - -1 - -1 - 1) / (- -1) = (n : Int) := by
    rw [show (- -1 : Int) = 1 by decide, Int.ediv_one]
    omega
  first
    | (split <;> omega)
    | (simp; omega)
theorem applied_rev {sl : Addr} {vl vu vs : Value} {n : Nat} {Q : Int × Int × Nat → Shared → Prop} (hs : s.heap.IsSliceOf sl vl vu vs) (pl : IsPart vl none) (pu : IsPart vu none) (ps : IsPart vs (some (-1)))
    (h : Q ((n : Int) - 1, -1, n) s) : wpAny (model prog w) A (Builtin.Slice.sliceApplied (.ref sl) (pure (n : Int))) Q E s := by
  obtain ⟨os, hos, hcs, hds⟩ := id hs
  unfold Builtin.Slice.sliceApplied Builtin.Slice.sliceFields
  refine wpAny_bind (wpAny_bind (wpAny_field hos hds (x := vl) rfl (wpAny_bind (wpAny_field hos hds (x := vu) rfl (wpAny_bind (wpAny_field hos hds (x := vs) rfl (wpAny_pure ?_)))))))
  refine wpAny_bind (HT.slicePart_ ps ?_)
  show wpAny _ _ (if ((-1 : Int) == 0) = true then _ else _) _ _ s
  rw [if_neg (by decide)]
  refine wpAny_bind (HT.slicePart_ pl (wpAny_bind (HT.slicePart_ pu (wpAny_bind (wpAny_pure ?_)))))
  show wpAny _ _ (pure ((n : Int) - 1, (-1 : Int), Builtin.Slice.slicePlaces ((n : Int) - 1) (-1) (-1))) _ _ s
  rw [places_rev]
  exact wpAny_pure h
theorem fm_congr {α β : Type} {f g : α → Option β} : ∀ {l : List α}, (∀ x ∈ l, f x = g x) → l.filterMap f = l.filterMap g
  | [], _ => rfl
  | a :: l, h => by
    rw [List.filterMap_cons, List.filterMap_cons, h a List.mem_cons_self, fm_congr fun x hx => h x (List.mem_cons_of_mem _ hx)]
theorem pick_rev (xs : Array Value) : ((List.range xs.size).filterMap fun (m : Nat) => xs[((xs.size : Int) - 1 + (m : Int) * (-1)).toNat]?).toArray = xs.toList.reverse.toArray := by
  congr 1
  have h := PySem.W.krv_all xs
  rw [← h, ← List.filterMap_reverse, ← PySem.W.krv_range, List.filterMap_map]
  refine fm_congr fun m hm => ?_
  have := List.mem_range.mp hm
  have e : ((xs.size : Int) - 1 + (m : Int) * (-1)).toNat = xs.size - 1 - m := by omega
  show xs[((xs.size : Int) - 1 + (m : Int) * (-1)).toNat]? = xs[xs.size - 1 - m]?
  rw [e]
theorem getItem_tuple_rev {t sl : Addr} {items : Array Value} {vl vu vs : Value} {Q : Value → Shared → Prop} (ht : IsTup s.heap t items) (hs : s.heap.IsSliceOf sl vl vu vs) (pl : IsPart vl none) (pu : IsPart vu none) (ps : IsPart vs (some (-1)))
    (h : Q (.ref s.heap.objs.size) { s with heap := s.heap.push { cls := .type "tuple", data := .seq items.toList.reverse.toArray } })
    (hsz : items.size ≤ sizeLine) : wpAny (model prog w) A (getItem (.ref t) (.ref sl)) Q E s := by
  have htake : sizeOk (.seq items.toList.reverse.toArray) := by
    show items.toList.reverse.toArray.size ≤ sizeLine
    rw [List.size_toArray, List.length_reverse, Array.length_toList]
    exact hsz
  obtain ⟨os, hos, hcs, hds⟩ := id hs
  have hTs : s.TypeIs (.ref sl) "slice" := ⟨os, hos, hcs⟩
  unfold getItem
  try with_reducible refine wpAny_holding ?_
  first | refine wpAny_bind (wpAny_pure ?_) | skip
  refine wpAny_bind (wpAny_sequenceKey ht.typeIs (by decide) ?_)
  refine wpAny_bind (wpAny_callSpecial?_slot (name := Str.ofString "__getitem__") ht.typeIs PyProof.Rows.slot_tuple_getitem
    (wpAny_call_entry PyProof.Rows.slot_tuple_getitem ht.typeIs entry_tuple_getitem ?_ (args_tuple_getitem _ _)))
  show wpAny _ _ (Builtin.Tuple.tupleItemsOf (.ref t) >>= _) _ _ s
  refine wpAny_bind (tupleItemsOf_ ht ?_)
  refine wpAny_bind (wpAny_typeOf hTs ?_)
  rw [if_pos (by decide)]
  refine wpAny_bind (applied_rev hs pl pu ps ?_)
  have hno : ¬ (((items.size : Int) - 1 == 0 && (-1 : Int) == 1 && items.size == items.size) = true) := by
    intro q
    rw [Bool.and_eq_true, Bool.and_eq_true] at q
    exact absurd (eq_of_beq q.1.2) (by decide)
  show wpAny _ _ (if ((items.size : Int) - 1 == 0 && (-1 : Int) == 1 && items.size == items.size) = true then _ else _) _ _ s
  rw [if_neg hno, pick_rev]
  first
    | exact wpAny_bind (m := Builtin.Tuple.tupleExact _) (wpAny_newObj_type (wpAny_pure ⟨_, rfl, wpAny_pure h⟩) htake)
    | exact wpAny_bind (m := Builtin.Tuple.tupleExact _) (wpAny_newObj_type (wpAny_bind (wpAny_pure (wpAny_pure ⟨_, rfl, wpAny_pure h⟩))) htake)
    | exact wpAny_bind (wpAny_bind (m := Builtin.Tuple.tupleExact _) (wpAny_newObj_type (wpAny_bind (wpAny_pure (wpAny_pure ⟨_, rfl, wpAny_pure h⟩))) htake))
    | exact wpAny_bind (wpAny_bind (m := Builtin.Tuple.tupleExact _) (wpAny_newObj_type (wpAny_pure ⟨_, rfl, wpAny_pure h⟩) htake))
end
section
variable {X : Cx} {pos : Pos}
def tRevU (K : PySem.W.Frag) (te : TE) : TE := fun σ H Q => te σ H fun x H1 => ∃ a xs, x = .ref a ∧ ((SqL K H1 a xs ∧ ∀ p, H1 p = none → Q (.ref p) (upd H1 p (.lst xs.reverse))) ∨ (SqT K H1 a xs ∧ ∀ p, H1 p = none → Q (.ref p) (upd H1 p (.tup xs.reverse))))
theorem pe_revU {e : Expr} {te : TE} {k : Nat} {p1 p2 p3 pos : Pos} (he : PE X e te) : PE X (.Subscript e (.Slice none none (some (.UnaryOp .USub (.Constant (.int 1) k p1) p2)) p3) pos) (tRevU X.K te) := by
  refine ⟨fun pins s σ H Q I h => ?_⟩
  refine Subscript_ (thn (he.run pins s σ H _ I h) fun v s1 ⟨x, H1, I1, r1, q1⟩ => ?_)
  obtain ⟨a, xs, ex, q1⟩ := q1
  subst ex
  cases r1
  have hst : PO X (some (.UnaryOp .USub (.Constant (.int 1) k p1) p2)) (tPart (tUn (rU fun i => .int (-i)) (tC (.int 1)))) := po_some (pe_un un_neg pe_int)
  refine wpAny_Slice (thn (po_none.run pins s1 σ H1 (fun o H2 => o = none ∧ H2 = H1) I1 ⟨rfl, rfl⟩) fun vl s2 ⟨l, H2, I2, pl, el, e2⟩ => ?_)
  subst el e2
  refine thn (po_none.run pins s2 σ H2 (fun o H3 => o = none ∧ H3 = H2) I2 ⟨rfl, rfl⟩) fun vu s3 ⟨u, H3, I3, pu, eu, e3⟩ => ?_
  subst eu e3
  refine thn (hst.run pins s3 σ H3 (fun o H4 => o = some (-1) ∧ H4 = H3) I3 ⟨1, rfl, -1, rfl, rfl, rfl⟩) fun vs s4 ⟨o, H4, I4, ps, eo, e4⟩ => ?_
  subst eo e4
  have I5 : Inv X pins σ H4 { s4 with heap := s4.heap.push { cls := .type "slice", data := .fields #[vl, vu, vs] } } := I4.kept (t' := s4.toks) fun b ob q => Heap.get?_push_of_some _ q
  show wpAny (model X.prog X.w) X.A (subscriptTail e (.Slice none none (some (.UnaryOp .USub (.Constant (.int 1) k p1) p2)) p3) (.ref a) (.ref s4.heap.objs.size)) (EP X pins σ Q) X.xe { s4 with heap := s4.heap.push { cls := .type "slice", data := .fields #[vl, vu, vs] } }
  rcases q1 with ⟨hx, q⟩ | ⟨hx, q⟩
  · obtain ⟨its, r, ht, hz⟩ := I5.list hx
    have hlen := r.length
    refine tail_any (ops := [.ref a, .ref s4.heap.objs.size]) ht.isList.typeIs (PySem.slot_list_getitem.lookup) ?_ (by with_unfolding_all rfl)
    refine wpAny_getItem_list_slice ht.isList (Heap.IsSliceOf.new _ vl vu vs) pl pu ps (by decide) ?_ (by rw [List.size_toArray]; omega)
    rw [PySem.W.krv_pick]
    refine ⟨.ref _, _, I5.laid (t' := s4.toks) (o := .lst xs.reverse) (fun b ob q => Heap.get?_push_of_some _ q) (Nat.le_refl _) ?_, rfl, q _ (I5.hok.fresh (Nat.le_refl _))⟩
    exact ⟨by rw [List.length_reverse]; exact hz, _, 0, r.reverse, Heap.get?_push_size _ rfl⟩
  · obtain ⟨its, r, ht, hz⟩ := I5.tuple hx
    have hlen := r.length
    refine tail_any (ops := [.ref a, .ref s4.heap.objs.size]) ht.typeIs (PyProof.Rows.slot_tuple_getitem.lookup) ?_ (by with_unfolding_all rfl)
    refine getItem_tuple_rev ht (Heap.IsSliceOf.new _ vl vu vs) pl pu ps ?_ (by rw [List.size_toArray]; omega)
    refine ⟨.ref _, _, I5.laid (t' := s4.toks) (o := .tup xs.reverse) (fun b ob q => Heap.get?_push_of_some _ q) (Nat.le_refl _) ?_, rfl, q _ (I5.hok.fresh (Nat.le_refl _))⟩
    exact ⟨by rw [List.length_reverse]; exact hz, _, r.reverse, IsTup.new _ _⟩
def revD : D → (D → Prop) → Prop
  | .lst ds, k => k (.lst ds.reverse)
  | .tup ds, k => k (.tup ds.reverse)
  | _, _ => False
def dRev (a : DE) : DE := fun en cs k => a en cs fun x cs1 => withD cs1 x fun dx => revD dx fun z => k (.d z) cs1
theorem q_rev {a : Expr} {ta : TE} {da : DE} {kk : Nat} {p1 p2 p3 : Pos} (ha : QE X a ta da) : QE X (.Subscript a (.Slice none none (some (.UnaryOp .USub (.Constant (.int 1) kk p1) p2)) p3) pos) (tRevU X.K ta) (dRev da) := by
  refine ⟨pe_revU ha.pe, ?_⟩
  intro σ H S as en cs k Q rp e q p
  refine ha.sem.use rp e q fun z v S1 H1 as1 cs1 e1 r1 v1 q1 => ?_
  obtain ⟨dx, l1, q1⟩ := withD_look q1
  have hx := look_sh r1 v1 l1
  cases dx with
  | lst ds =>
    obtain ⟨ad, vs, rfl, hs, is⟩ := hx
    refine ⟨ad, vs, rfl, .inl ⟨SqL.of hs, fun b hb => ?_⟩⟩
    have hn := Sub.new (o := .lst vs.reverse) (r1.sub.free hb)
    exact p (.d (.lst _)) _ _ _ as1 cs1 (e1.trans (Ext.of hn)) (r1.lay hb _) ⟨b, _, rfl, upd_same, IsL.mono hn _ _ is.rev⟩ q1
  | tup ds =>
    obtain ⟨ad, vs, rfl, hs, is⟩ := hx
    refine ⟨ad, vs, rfl, .inr ⟨r1.sub.t hs, fun b hb => ?_⟩⟩
    have hn := Sub.new (o := .tup vs.reverse) (r1.sub.free hb)
    exact p (.d (.tup _)) _ _ _ as1 cs1 (e1.trans (Ext.of hn)) (r1.lay hb _) ⟨b, _, rfl, SqT.of upd_same, IsL.mono hn _ _ is.rev⟩ q1
  | _ => exact q1.elim
end
end DL
set_option Elab.async false
set_option linter.all false
set_option maxRecDepth 100000
set_option maxHeartbeats 2000000
set_option autoImplicit false
/-! DLL: loops and comprehensions by what they walk; what repr takes -/
namespace DL
open PySem PySem.Spec PyProof.Rows L2
theorem dFor_mk {it : DI} {g : DG} {b : DS} {D0 : DEnds} {en : En} {cs : Cs} (ds : List D) (keep : Cs → Prop) (cs1 : Cs) (hit : ∀ K, K ds keep cs1 → it en cs K) (I : Nat → En → Cs → Prop) (h0 : I 0 en cs1)
    (hs : ∀ i d en cs, ds[i]? = some d → I i en cs → g (.d d) en cs fun en2 cs2 => b { D0 with nx := Wkn cs1.length (I (i + 1)), ct := Wkn cs1.length (I (i + 1)), bk := D0.nx } en2 cs2) (he : ∀ en cs, I ds.length en cs → D0.nx en cs)
    (hk : ∀ i en cs, I i en cs → keep cs) : dFor it g b D0 en cs := hit _ ⟨I, h0, hk, hs, he⟩
theorem dLc_mk {fin : (Z → Cs → Prop) → List D → Cs → Prop} {it : DI} {g : DG} {te : DE} {own : List Nat} {en : En} {cs : Cs} {k : Z → Cs → Prop} (ds : List D) (keep : Cs → Prop) (cs1 : Cs) (hit : ∀ K, K ds keep cs1 → it en cs K) (f : D → D) (hl : ds.length ≤ 90000)
    (h : ∀ (i : Nat) (d : D) (acc : List D), ds[i]? = some d → ∀ (P : Z → Cs → Prop), P (.d (f d)) (cs1 ++ [.lst acc]) → g (.d d) (wipeD en own) (cs1 ++ [.lst acc]) fun en2 cs2 => te en2 cs2 P)
    (hq : fin k (ds.map f) cs1) (hk : ∀ acc, keep (cs1 ++ [.lst acc])) : dLcG fin it g dYes te own en cs k := hit _ (lc_map f hk hl h hq)
theorem dLc_if {fin : (Z → Cs → Prop) → List D → Cs → Prop} {it : DI} {g : DG} {tt : DT} {te : DE} {own : List Nat} {en : En} {cs : Cs} {k : Z → Cs → Prop} (ds : List D) (keep : Cs → Prop) (cs1 : Cs) (hit : ∀ K, K ds keep cs1 → it en cs K) (f : D → Option D) (hl : ds.length ≤ 90000)
    (h : ∀ (i : Nat) (d : D) (acc : List D), ds[i]? = some d → ∀ (P : Z → Cs → Prop) (N : Cs → Prop), (∀ y, f d = some y → P (.d y) (cs1 ++ [.lst acc])) → (f d = none → N (cs1 ++ [.lst acc])) →
      g (.d d) (wipeD en own) (cs1 ++ [.lst acc]) fun en2 cs2 => tt en2 cs2 fun b cs3 => if b = true then te en2 cs3 P else N cs3)
    (hq : fin k (ds.filterMap f) cs1) (hk : ∀ acc, keep (cs1 ++ [.lst acc])) : dLcG fin it g tt te own en cs k := hit _ (lc_go f hk hl h hq)
/-- .. where what is walked comes of calls -/
def dForB (g : DG) (b : DS) (D0 : DEnds) (en : En) (ds : List D) (keep : Cs → Prop) (cs1 : Cs) : Prop := ∃ I : Nat → En → Cs → Prop, I 0 en cs1 ∧ (∀ i en cs, I i en cs → keep cs) ∧
  (∀ i d en cs, ds[i]? = some d → I i en cs → g (.d d) en cs fun en2 cs2 => b { D0 with nx := Wkn cs1.length (I (i + 1)), ct := Wkn cs1.length (I (i + 1)), bk := D0.nx } en2 cs2) ∧ ∀ en cs, I ds.length en cs → D0.nx en cs
theorem dFor_it {it : DI} {g : DG} {b : DS} {D0 : DEnds} {en : En} {cs : Cs} (h : it en cs (dForB g b D0 en)) : dFor it g b D0 en cs := h
theorem dForB_mk {g : DG} {b : DS} {D0 : DEnds} {en : En} {ds : List D} {keep : Cs → Prop} {cs1 : Cs} (I : Nat → En → Cs → Prop) (h0 : I 0 en cs1)
    (hs : ∀ i d en cs, ds[i]? = some d → I i en cs → g (.d d) en cs fun en2 cs2 => b { D0 with nx := Wkn cs1.length (I (i + 1)), ct := Wkn cs1.length (I (i + 1)), bk := D0.nx } en2 cs2) (he : ∀ en cs, I ds.length en cs → D0.nx en cs)
    (hk : ∀ i en cs, I i en cs → keep cs) : dForB g b D0 en ds keep cs1 := ⟨I, h0, hk, hs, he⟩
def dLcB (fin : (Z → Cs → Prop) → List D → Cs → Prop) (g : DG) (tt : DT) (te : DE) (own : List Nat) (en : En) (k : Z → Cs → Prop) (ds : List D) (keep : Cs → Prop) (cs1 : Cs) : Prop := dLcG fin (fun _ _ K => K ds keep cs1) g tt te own en cs1 k
theorem dLc_it {fin : (Z → Cs → Prop) → List D → Cs → Prop} {it : DI} {g : DG} {tt : DT} {te : DE} {own : List Nat} {en : En} {cs : Cs} {k : Z → Cs → Prop} (h : it en cs (dLcB fin g tt te own en k)) : dLcG fin it g tt te own en cs k := h
/-! repr -/
structure RpN (w dep : Nat) (d : D) : Prop where
  ok : pyOk d = true
  sh : (py d).showable = true
  nd : (py d).hasDict = false
  dp : (py d).depth ≤ dep
  ln : (py d).shown.length ≤ w
theorem RpN.le {w w' e e' : Nat} {d : D} (h : RpN w e d) (h1 : w ≤ w') (h2 : e ≤ e') : RpN w' e' d := ⟨h.ok, h.sh, h.nd, Nat.le_trans h.dp h2, Nat.le_trans h.ln h1⟩
theorem RpN.rp {w e : Nat} {d : D} (h : RpN w e d) (h1 : w ≤ 16777216) (h2 : e ≤ 60) : RpOk d := ⟨h.ok, h.sh, h.nd, Nat.le_trans h.dp h2, Nat.le_trans h.ln (by rw [sizeLine_eq]; omega)⟩
theorem RpN.non : RpN 4 0 .non := ⟨rfl, rfl, rfl, Nat.le_refl _, by decide⟩
theorem RpN.bl (b : Bool) : RpN 5 0 (.bl b) := ⟨rfl, rfl, rfl, Nat.le_refl _, by cases b <;> decide⟩
theorem lt_pow_log2 {n k : Nat} (h0 : 0 < k) (h : n < 2 ^ k) : n.log2 < k := by
  by_cases e : n = 0
  · subst e
    simpa using h0
  · exact (Nat.log2_lt e).mpr h
theorem RpN.int {i : Int} (h1 : -(10 ^ 200) < i) (h2 : i < 10 ^ 200) : RpN 201 0 (.int i) := by
  have ha : i.natAbs < 10 ^ 200 := by omega
  refine ⟨rfl, ?_, rfl, Nat.le_refl _, ?_⟩
  · show decide (i.natAbs.log2 < 1920) = true
    exact decide_eq_true (lt_pow_log2 (by decide) (Nat.lt_of_lt_of_le ha (by decide +kernel)))
  · have e := int_text_length_le10 (k := 200) (by decide) ha
    show (Str.ofString (toString i)).length ≤ 201
    rw [PySem.ofString_length]
    exact e
theorem pyL_len : ∀ ds : List D, (pyL ds).length = ds.length
  | [] => rfl
  | d :: ds => by
    show (py d :: pyL ds).length = _
    rw [List.length_cons, List.length_cons, pyL_len ds]
theorem rp_all {w e : Nat} : ∀ {ds : List D}, (∀ d ∈ ds, RpN w e d) → pyOkL ds = true ∧ PyData.showableAll (pyL ds) = true ∧ PyData.hasDictAll (pyL ds) = false ∧ PyData.depthAll (pyL ds) ≤ e ∧ ((PyData.shownAll (pyL ds)).map (·.length)).sum ≤ w * ds.length
  | [], _ => ⟨rfl, rfl, rfl, Nat.zero_le _, by simp [pyL, PyData.shownAll]⟩
  | d :: ds, h => by
    obtain ⟨a, b, c, f, g⟩ := rp_all fun x hx => h x (List.mem_cons_of_mem _ hx)
    have r := h d List.mem_cons_self
    have hd := r.dp
    have hl := r.ln
    refine ⟨?_, ?_, ?_, ?_, ?_⟩
    · show (pyOk d && pyOkL ds) = true
      rw [r.ok, a]; rfl
    · simp only [pyL, PyData.showableAll, r.sh, b, Bool.and_self]
    · simp only [pyL, PyData.hasDictAll, r.nd, c, Bool.or_self]
    · simp only [pyL, PyData.depthAll]
      omega
    · simp only [pyL, PyData.shownAll, List.map_cons, List.sum_cons, List.length_cons]
      rw [Nat.mul_succ]
      omega
theorem shownAll_len (ds : List D) : (PyData.shownAll (pyL ds)).length = ds.length := by rw [PyData.shownAll_length, pyL_len]
theorem RpN.lst {w e : Nat} {ds : List D} (n : Nat) (hn : ds.length ≤ n) (h : ∀ d ∈ ds, RpN w e d) : RpN ((w + 2) * n + 3) (e + 1) (.lst ds) := by
  obtain ⟨a, b, c, f, g⟩ := rp_all h
  refine ⟨a, by simpa only [py, PyData.showable] using b, by simpa only [py, PyData.hasDict] using c, by simp only [py, PyData.depth]; omega, ?_⟩
  have l := listText_len_le (PyData.shownAll (pyL ds))
  rw [shownAll_len] at l
  simp only [py, PyData.shown]
  have m : (w + 2) * ds.length ≤ (w + 2) * n := Nat.mul_le_mul_left _ hn
  rw [Nat.add_mul] at m
  omega
theorem RpN.tup {w e : Nat} {ds : List D} (n : Nat) (hn : ds.length ≤ n) (h : ∀ d ∈ ds, RpN w e d) : RpN ((w + 2) * n + 3) (e + 1) (.tup ds) := by
  obtain ⟨a, b, c, f, g⟩ := rp_all h
  refine ⟨a, by simpa only [py, PyData.showable] using b, by simpa only [py, PyData.hasDict] using c, by simp only [py, PyData.depth]; omega, ?_⟩
  have l := tupleText_len_le (PyData.shownAll (pyL ds))
  rw [shownAll_len] at l
  simp only [py, PyData.shown]
  have m : (w + 2) * ds.length ≤ (w + 2) * n := Nat.mul_le_mul_left _ hn
  rw [Nat.add_mul] at m
  omega
theorem RpN.bls (bs : List Bool) (n : Nat) (hn : bs.length ≤ n) : RpN (7 * n + 3) 1 (.lst (bs.map D.bl)) := RpN.lst n (by rw [List.length_map]; exact hn) fun d hd => by
  obtain ⟨b, _, rfl⟩ := List.mem_map.mp hd
  exact RpN.bl b
theorem rpOk_bl (b : Bool) : RpOk (.bl b) := (RpN.bl b).rp (by decide) (by decide)
theorem rpOk_bls (bs : List Bool) (hn : bs.length ≤ 100000) : RpOk (.lst (bs.map D.bl)) := (RpN.bls bs 100000 hn).rp (by decide) (by decide)
/-! what == takes -/
structure EqN (dep : Nat) (d : D) : Prop where
  ok : pyOk d = true
  cl : (py d).canLay0 = true
  dp : (py d).depth ≤ dep
theorem EqN.le {e e' : Nat} {d : D} (h : EqN e d) (h2 : e ≤ e') : EqN e' d := ⟨h.ok, h.cl, Nat.le_trans h.dp h2⟩
theorem EqN.eq {e : Nat} {d : D} (h : EqN e d) (h2 : e ≤ 64) : EqOk d := ⟨h.ok, by
  unfold SeqAt.shaped
  rw [h.cl, decide_eq_true (Nat.le_trans h.dp h2)]
  rfl⟩
theorem EqN.non : EqN 0 .non := ⟨rfl, rfl, Nat.le_refl _⟩
theorem EqN.bl (b : Bool) : EqN 0 (.bl b) := ⟨rfl, rfl, Nat.le_refl _⟩
theorem EqN.int (i : Int) : EqN 0 (.int i) := ⟨rfl, rfl, Nat.le_refl _⟩
theorem eq_all {e : Nat} : ∀ {ds : List D}, (∀ d ∈ ds, EqN e d) → pyOkL ds = true ∧ PyData.canLayAll0 (pyL ds) = true ∧ PyData.depthAll (pyL ds) ≤ e
  | [], _ => ⟨rfl, rfl, Nat.zero_le _⟩
  | d :: ds, h => by
    obtain ⟨a, b, c⟩ := eq_all fun x hx => h x (List.mem_cons_of_mem _ hx)
    have r := h d List.mem_cons_self
    have hd := r.dp
    refine ⟨?_, ?_, ?_⟩
    · show (pyOk d && pyOkL ds) = true
      rw [r.ok, a]; rfl
    · simp only [pyL, PyData.canLayAll0, r.cl, b, Bool.and_self]
    · simp only [pyL, PyData.depthAll]
      omega
theorem EqN.lst {e : Nat} {ds : List D} (h : ∀ d ∈ ds, EqN e d) : EqN (e + 1) (.lst ds) := by
  obtain ⟨a, b, c⟩ := eq_all h
  exact ⟨a, by simpa only [py, PyData.canLay0] using b, by simp only [py, PyData.depth]; omega⟩
theorem EqN.tup {e : Nat} {ds : List D} (h : ∀ d ∈ ds, EqN e d) : EqN (e + 1) (.tup ds) := by
  obtain ⟨a, b, c⟩ := eq_all h
  exact ⟨a, by simpa only [py, PyData.canLay0] using b, by simp only [py, PyData.depth]; omega⟩
theorem eqv_nil (ds : List D) : eqvD (.lst ds) (.lst []) = ds.isEmpty := by
  cases ds with
  | nil => rfl
  | cons d ds => rfl
theorem set_snoc (cs : Cs) (x y : D) : (cs ++ [x]).set cs.length y = cs ++ [y] := by
  rw [List.set_append_right _ _ (Nat.le_refl _), Nat.sub_self]
  rfl
theorem take_snoc (cs : Cs) (x : D) : (cs ++ [x]).take cs.length = cs := List.take_left
/-! items by place -/
theorem ixN_nat {n i : Nat} (h : i < n) : ixN n (i : Int) = some i := by
  unfold ixN
  rw [if_pos (by omega), if_pos (by omega), Int.toNat_natCast]
theorem at_nat {α : Type} {xs : List α} {i : Nat} {x : α} (h : xs[i]? = some x) : atI xs (i : Int) = some x := by
  unfold atI
  rw [ixN_nat (List.getElem?_eq_some_iff.mp h).1]
  exact h
theorem at_int {α : Type} {xs : List α} {j : Int} {x : α} (h0 : 0 ≤ j) (h : xs[j.toNat]? = some x) : atI xs j = some x := by
  have := at_nat h
  rwa [Int.toNat_of_nonneg h0] at this
theorem at0 {α : Type} {a : α} {l : List α} : atI (a :: l) 0 = some a := at_nat (i := 0) rfl
theorem at1 {α : Type} {a b : α} {l : List α} : atI (a :: b :: l) 1 = some b := at_nat (i := 1) rfl
theorem at2 {α : Type} {a b c : α} {l : List α} : atI (a :: b :: c :: l) 2 = some c := at_nat (i := 2) rfl
theorem at3 {α : Type} {a b c d : α} {l : List α} : atI (a :: b :: c :: d :: l) 3 = some d := at_nat (i := 3) rfl
theorem at4 {α : Type} {a b c d e : α} {l : List α} : atI (a :: b :: c :: d :: e :: l) 4 = some e := at_nat (i := 4) rfl
theorem at5 {α : Type} {a b c d e f : α} {l : List α} : atI (a :: b :: c :: d :: e :: f :: l) 5 = some f := at_nat (i := 5) rfl
theorem at_last {α : Type} {a : α} {l : List α} : atI (l ++ [a]) (-1) = some a := by
  unfold atI ixN
  rw [if_neg (by decide), if_pos (by simp only [List.length_append, List.length_cons, List.length_nil]; omega)]
  have e : (-1 + ((l ++ [a]).length : Nat) : Int).toNat = l.length := by
    simp only [List.length_append, List.length_cons, List.length_nil]
    omega
  rw [e]
  show (l ++ [a])[l.length]? = some a
  rw [List.getElem?_append_right (Nat.le_refl _), Nat.sub_self]
  rfl
theorem ix0 {n : Nat} : ixN (n + 1) 0 = some 0 := ixN_nat (i := 0) (by omega)
theorem ix1 {n : Nat} : ixN (n + 1 + 1) 1 = some 1 := ixN_nat (i := 1) (by omega)
theorem ix2 {n : Nat} : ixN (n + 1 + 1 + 1) 2 = some 2 := ixN_nat (i := 2) (by omega)
/-! kinds -/
def isInt : D → Bool
  | .int _ => true
  | _ => false
def isTup : D → Bool
  | .tup _ => true
  | _ => false
theorem kit_dec (a : String) (h : a ∈ ["NoneType", "bool", "int", "str", "tuple", "list"]) : kitB a "int" = some (a == "int" || a == "bool") ∧ kitB a "bool" = some (a == "bool") ∧ kitB a "tuple" = some (a == "tuple") := by
  have all : (["NoneType", "bool", "int", "str", "tuple", "list"].all fun a => decide (kitB a "int" = some (a == "int" || a == "bool")) && decide (kitB a "bool" = some (a == "bool")) && decide (kitB a "tuple" = some (a == "tuple"))) = true := by decide +kernel
  have := List.all_eq_true.mp all a h
  simp only [Bool.and_eq_true, decide_eq_true_eq] at this
  exact ⟨this.1.1, this.1.2, this.2⟩
theorem ty_in {x : D} (h : pyOk x = true) : tyD x ∈ ["NoneType", "bool", "int", "str", "tuple", "list"] := by
  cases x <;> first | (exact Bool.noConfusion h) | (simp [tyD])
theorem kit_int {x : D} (h : pyOk x = true) : kitB (tyD x) "int" = some (isInt x || (tyD x == "bool")) := by
  rw [(kit_dec _ (ty_in h)).1]
  cases x <;> rfl
theorem kit_bool {x : D} (h : pyOk x = true) : kitB (tyD x) "bool" = some (tyD x == "bool") := (kit_dec _ (ty_in h)).2.1
theorem kit_tup {x : D} (h : pyOk x = true) : kitB (tyD x) "tuple" = some (isTup x) := by
  rw [(kit_dec _ (ty_in h)).2.2]
  cases x <;> rfl
theorem pyOk_mem : ∀ {ds : List D}, pyOkL ds = true → ∀ d ∈ ds, pyOk d = true
  | [], _, d, h => by simp at h
  | x :: ds, o, d, h => by
    have o' : (pyOk x && pyOkL ds) = true := o
    rw [Bool.and_eq_true] at o'
    rcases List.mem_cons.mp h with e | e
    · rw [e]; exact o'.1
    · exact pyOk_mem o'.2 d e
theorem pyOk_of_mem : ∀ {ds : List D}, (∀ d ∈ ds, pyOk d = true) → pyOkL ds = true
  | [], _ => rfl
  | x :: ds, o => by
    show (pyOk x && pyOkL ds) = true
    rw [o x List.mem_cons_self, pyOk_of_mem fun d h => o d (List.mem_cons_of_mem _ h)]
    rfl
theorem map_bls (f : D → D) (g : D → Bool) (ds : List D) (h : ∀ d ∈ ds, f d = .bl (g d)) : ds.map f = (ds.map g).map D.bl := by
  rw [List.map_map]
  exact List.map_congr_left fun d hd => h d hd
theorem finZ_self (q : Z → Cs → Prop) (x : D) (cs : Cs) : FinZ cs.length q (.d x) cs = q (.d x) cs := by rw [finZ_d, List.take_length]
theorem finZ_old {n m : Nat} {q : Z → Cs → Prop} {cs : Cs} (h : m < n) (p : q (.c m) (cs.take n)) : FinZ n q (.c m) cs := .inl ⟨h, p⟩
theorem finZ_new {n m : Nat} {q : Z → Cs → Prop} {cs : Cs} {x : D} (h : n ≤ m) (e : cs[m]? = some x) (p : q (.c n) (cs.take n ++ [x])) : FinZ n q (.c m) cs := .inr ⟨h, by rw [e]; exact .inr p⟩
theorem finZ_froz {n m : Nat} {q : Z → Cs → Prop} {cs : Cs} {x : D} (h : n ≤ m) (e : cs[m]? = some x) (p : q (.d x) (cs.take n)) : FinZ n q (.c m) cs := .inr ⟨h, by rw [e]; exact .inl p⟩
theorem get_snoc (cs : Cs) (x : D) : (cs ++ [x])[cs.length]? = some x := by
  rw [List.getElem?_append_right (Nat.le_refl _), Nat.sub_self]
  rfl
theorem fz (n : Nat) (q : Z → Cs → Prop) (x : D) (cs : Cs) (h : cs.length = n) : q (.d x) cs → FinZ n q (.d x) cs := fun p => by
  subst h
  rw [finZ_d, List.take_length]
  exact p
end DL
set_option Elab.async false
set_option linter.all false
set_option maxRecDepth 100000
set_option maxHeartbeats 2000000
set_option autoImplicit false
/-! DLM: the operators, one row for each kind of arguments -/
namespace DL
open PySem PySem.Spec PyProof.Rows L2
section
variable {cs : Cs} {k : D → Prop} {kl : List D → Prop}
theorem e_wd (x : D) : withD cs (.d x) k = k x := rfl
theorem e_wc0 (x : D) (cs : Cs) : withD (x :: cs) (.c 0) k = k x := rfl
theorem e_wcs (x : D) (cs : Cs) (n : Nat) : withD (x :: cs) (.c (n + 1)) k = withD cs (.c n) k := rfl
theorem e_wsn (x : D) (cs : Cs) : withD (cs ++ [x]) (.c cs.length) k = k x := by
  unfold withD
  simp only [get_snoc]
theorem e_wc1 (x y : D) (cs : Cs) : withD (x :: y :: cs) (.c 1) k = k y := rfl
theorem e_wc2 (x y z : D) (cs : Cs) : withD (x :: y :: z :: cs) (.c 2) k = k z := rfl
theorem e_wl0 : withL cs [] kl = kl [] := rfl
theorem e_wl1 (z : Z) (zs : List Z) : withL cs (z :: zs) kl = withD cs z fun x => withL cs zs fun xs => kl (x :: xs) := rfl
theorem e_dl0 : datL [] kl = kl [] := rfl
theorem e_dl1 (x : D) (zs : List Z) : datL (.d x :: zs) kl = datL zs fun xs => kl (x :: xs) := rfl
theorem e_sl (ds : List D) (K : List D → (Cs → Prop) → Prop) : seqD cs (.d (.lst ds)) K = K ds yes := rfl
theorem e_st (ds : List D) (K : List D → (Cs → Prop) → Prop) : seqD cs (.d (.tup ds)) K = K ds yes := rfl
theorem e_ss (ns : List Int) (K : List D → (Cs → Prop) → Prop) : seqD cs (.d (.scr ns)) K = K (ns.map D.int) yes := rfl
theorem e_addi (i j : Int) : addD (.int i) (.int j) k = k (.int (i + j)) := rfl
theorem e_adds (a b : Str) : addD (.str a) (.str b) k = (a.length + b.length ≤ sizeLine ∧ k (.str (a ++ b))) := rfl
theorem e_addt (a b : List D) : addD (.tup a) (.tup b) k = (a.length + b.length ≤ 100000 ∧ k (.tup (a ++ b))) := rfl
theorem e_addl (a b : List D) : addD (.lst a) (.lst b) k = (a.length + b.length ≤ 100000 ∧ k (.lst (a ++ b))) := rfl
theorem e_sub (i j : Int) : subD (.int i) (.int j) k = k (.int (i - j)) := rfl
theorem e_muli (i j : Int) : mulD (.int i) (.int j) k = ((Sm i ∧ Sm j) ∧ k (.int (i * j))) := rfl
theorem e_mult (a : List D) (n : Int) : mulD (.tup a) (.int n) k = ((a ≠ [] ∧ 2 ≤ n ∧ n ≤ 1000 ∧ a.length ≤ 1000) ∧ k (.tup (List.replicate n.toNat a).flatten)) := rfl
theorem e_mull (a : List D) (n : Int) : mulD (.lst a) (.int n) k = ((0 ≤ n ∧ n ≤ 100000 ∧ a.length ≤ 1000 ∧ a.length * n.toNat ≤ 100000) ∧ k (.lst (List.replicate n.toNat a).flatten)) := rfl
theorem e_fdiv (i j : Int) : fdivD (.int i) (.int j) k = (Dv j ∧ k (.int (i / j))) := rfl
theorem e_mod (i j : Int) : modD (.int i) (.int j) k = (0 < j ∧ k (.int (i % j))) := rfl
theorem e_pow (i j : Int) : powD (.int i) (.int j) k = ((0 ≤ j ∧ j ≤ 1000 ∧ Sm i) ∧ k (.int (i ^ j.toNat))) := rfl
theorem e_neg (i : Int) : negD (.int i) k = k (.int (-i)) := rfl
theorem e_lt (i j : Int) : ltD (.int i) (.int j) k = k (.bl (decide (i < j))) := rfl
theorem e_le (i j : Int) : leD (.int i) (.int j) k = k (.bl (decide (i ≤ j))) := rfl
theorem e_gt (i j : Int) : gtD (.int i) (.int j) k = k (.bl (decide (j < i))) := rfl
theorem e_ge (i j : Int) : geD (.int i) (.int j) k = k (.bl (decide (j ≤ i))) := rfl
theorem e_eqi (i j : Int) : eqUD (.int i) (.int j) k = k (.bl (decide (i = j))) := rfl
theorem e_eqs (i j : Str) : eqUD (.str i) (.str j) k = k (.bl (decide (i = j))) := rfl
theorem e_eql (a : List D) (y : D) : eqUD (.lst a) y k = ((EqOk (.lst a) ∧ EqOk y) ∧ k (.bl (eqvD (.lst a) y))) := rfl
theorem e_eqt (a : List D) (y : D) : eqUD (.tup a) y k = ((EqOk (.tup a) ∧ EqOk y) ∧ k (.bl (eqvD (.tup a) y))) := rfl
theorem e_eqb (a : Bool) (y : D) : eqUD (.bl a) y k = ((EqOk (.bl a) ∧ EqOk y) ∧ k (.bl (eqvD (.bl a) y))) := rfl
theorem e_eqn (y : D) : eqUD .non y k = ((EqOk .non ∧ EqOk y) ∧ k (.bl (eqvD .non y))) := rfl
theorem e_nei (i j : Int) : neUD (.int i) (.int j) k = k (.bl (!decide (i = j))) := rfl
theorem e_nes (i j : Str) : neUD (.str i) (.str j) k = k (.bl (!decide (i = j))) := rfl
theorem e_nel (a : List D) (y : D) : neUD (.lst a) y k = ((EqOk (.lst a) ∧ EqOk y) ∧ k (.bl (!eqvD (.lst a) y))) := rfl
theorem e_net (a : List D) (y : D) : neUD (.tup a) y k = ((EqOk (.tup a) ∧ EqOk y) ∧ k (.bl (!eqvD (.tup a) y))) := rfl
theorem e_neb (a : Bool) (y : D) : neUD (.bl a) y k = ((EqOk (.bl a) ∧ EqOk y) ∧ k (.bl (!eqvD (.bl a) y))) := rfl
theorem e_nen (y : D) : neUD .non y k = ((EqOk .non ∧ EqOk y) ∧ k (.bl (!eqvD .non y))) := rfl
theorem e_isb (a b : Bool) : isD (.bl a) (.bl b) k = k (.bl (decide (a = b))) := rfl
theorem e_isn (x : D) : isD x .non k = k (.bl (isNonD x)) := by cases x <;> rfl
theorem e_inb (a b : Bool) : isNotD (.bl a) (.bl b) k = k (.bl (!decide (a = b))) := rfl
theorem e_inn (x : D) : isNotD x .non k = k (.bl (!isNonD x)) := by cases x <;> rfl
theorem e_in1 : isNonD .non = true := rfl
theorem e_in2 (i : Int) : isNonD (.int i) = false := rfl
theorem e_in3 (i : List D) : isNonD (.tup i) = false := rfl
theorem e_in4 (i : List D) : isNonD (.lst i) = false := rfl
theorem e_in5 (i : Bool) : isNonD (.bl i) = false := rfl
theorem e_ixt (ds : List D) (i : Int) : ixD (.tup ds) (.int i) k = atD ds i k := rfl
theorem e_ixl (ds : List D) (i : Int) : ixD (.lst ds) (.int i) k = atD ds i k := rfl
theorem e_ixs (ns : List Int) (i : Int) : ixD (.scr ns) (.int i) k = ∃ n, atI ns i = some n ∧ k (.int n) := rfl
theorem e_at {ds : List D} {i : Int} {d : D} (h : atI ds i = some d) : atD ds i k = k d := by
  unfold atD
  rw [h]
theorem e_at0 (a : D) (l : List D) : atD (a :: l) 0 k = k a := e_at at0
theorem e_at1 (a b : D) (l : List D) : atD (a :: b :: l) 1 k = k b := e_at at1
theorem e_at2 (a b c : D) (l : List D) : atD (a :: b :: c :: l) 2 k = k c := e_at at2
theorem e_at3 (a b c d : D) (l : List D) : atD (a :: b :: c :: d :: l) 3 k = k d := e_at at3
theorem e_at4 (a b c d e : D) (l : List D) : atD (a :: b :: c :: d :: e :: l) 4 k = k e := e_at at4
theorem e_at5 (a b c d e f : D) (l : List D) : atD (a :: b :: c :: d :: e :: f :: l) 5 k = k f := e_at at5
theorem e_atl (a : D) (l : List D) : atD (l ++ [a]) (-1) k = k a := e_at at_last
theorem e_keyi (i : Int) (kk : Key → Prop) : keyD (.int i) kk = kk (.inl i) := rfl
theorem e_keys (i : Str) (kk : Key → Prop) : keyD (.str i) kk = kk (.inr i) := rfl
theorem e_lenl (ds : List D) : lenD [.lst ds] k = k (.int ds.length) := rfl
theorem e_lent (ds : List D) : lenD [.tup ds] k = k (.int ds.length) := rfl
theorem e_lens (ns : List Int) : lenD [.scr ns] k = k (.int ns.length) := rfl
theorem e_lend (kvs : List (Key × D)) : lenD [.dic kvs] k = k (.int kvs.length) := rfl
theorem e_maxi (i j : Int) : maxD [.int i, .int j] k = k (.int (max i j)) := rfl
theorem e_mini (i j : Int) : minD [.int i, .int j] k = k (.int (min i j)) := rfl
theorem e_maxl (ds : List D) : maxD [.lst ds] k = ∃ ns : List Int, ds = ns.map D.int ∧ 0 < ns.length ∧ ∀ m, m ∈ ns → (∀ y, y ∈ ns → y ≤ m) → k (.int m) := rfl
theorem e_minl (ds : List D) : minD [.lst ds] k = ∃ ns : List Int, ds = ns.map D.int ∧ 0 < ns.length ∧ ∀ m, m ∈ ns → (∀ y, y ∈ ns → m ≤ y) → k (.int m) := rfl
theorem e_sum (ds : List D) : sumD [.lst ds] k = ∃ ns : List Int, ds = ns.map D.int ∧ k (.int ns.sum) := rfl
theorem e_all (ds : List D) : allD [.lst ds] k = ∃ bs : List Bool, ds = bs.map D.bl ∧ k (.bl (bs.all id)) := rfl
theorem e_any (ds : List D) : anyD [.lst ds] k = ∃ bs : List Bool, ds = bs.map D.bl ∧ k (.bl (bs.any id)) := rfl
theorem e_inti (i : Int) : intD [.int i] k = k (.int i) := rfl
theorem e_intb (b : Bool) : intD [.bl b] k = k (.int (if b then 1 else 0)) := rfl
theorem e_abs (i : Int) : absD [.int i] k = k (.int (if i < 0 then -i else i)) := rfl
theorem e_tol (ds : List D) : tupOfD [.lst ds] k = k (.tup ds) := rfl
theorem e_tot (ds : List D) : tupOfD [.tup ds] k = k (.tup ds) := rfl
theorem e_tos (ns : List Int) : tupOfD [.scr ns] k = k (.tup (ns.map D.int)) := rfl
theorem e_lol (ds : List D) : lstOfD [.lst ds] k = k (.lst ds) := rfl
theorem e_lot (ds : List D) : lstOfD [.tup ds] k = k (.lst ds) := rfl
theorem e_los (ns : List Int) : lstOfD [.scr ns] k = k (.lst (ns.map D.int)) := rfl
theorem e_sll (ds : List D) (lo hi : Option Int) : sliceD (.lst ds) lo hi k = k (.lst (cutG ds lo hi)) := rfl
theorem e_slt (ds : List D) (lo hi : Option Int) : sliceD (.tup ds) lo hi k = k (.tup (cutG ds lo hi)) := rfl
theorem e_rvl (ds : List D) : revD (.lst ds) k = k (.lst ds.reverse) := rfl
theorem e_rvt (ds : List D) : revD (.tup ds) k = k (.tup ds.reverse) := rfl
theorem e_repr (x : D) : reprD [x] k = (RpOk x ∧ k (.str (py x).shown)) := rfl
theorem e_isi (n : String) (x : D) : isiN n [x, .ty n] k = ∃ b, kitB (tyD x) n = some b ∧ k (.bl b) := by
  show (n = n ∧ _) = _
  rw [eq_self_iff_true, true_and]
end
/-- what follows an if, named once -/
def dLock (b : DS) : DS := b
section
variable {X : Cx} {pos : Pos}
/-- the block's readings are found once, at one block -/
theorem q_lcH {elt tg iter : Expr} {ifs : List Expr} {scope : Scope} {own : List (Str × Nat)} {fin : (Z → Cs → Prop) → List D → Cs → Prop} {wi : TI} {g : TG} {tt : TT} {te : TE} {it : DI} {dg : DG} {dt : DT} {de : DE} {is : List Nat} (hf : FinOk X.K fin) (hN : X.N.Nodup) (hi : QI X tg iter wi it) (ok : BlkOk X.N X.env.scope scope own) (s0 : Shared)
    (g0 : QG (X.blk s0 (fun _ => none) scope (compEnvC scope [] 0 X.env) []) tg g dg is) (t0 : QTs (X.blk s0 (fun _ => none) scope (compEnvC scope [] 0 X.env) []) ifs tt dt) (e0 : QE (X.blk s0 (fun _ => none) scope (compEnvC scope [] 0 X.env) []) elt te de)
    (hg : ∀ (s : Shared) (H : Hp) (C : Addr) (cl : List (Str × Addr)) (fp : List Addr), QG (X.blk s H scope (compEnvC scope cl C X.env) fp) tg g dg is) (ht : ∀ (s : Shared) (H : Hp) (C : Addr) (cl : List (Str × Addr)) (fp : List Addr), QTs (X.blk s H scope (compEnvC scope cl C X.env) fp) ifs tt dt)
    (he : ∀ (s : Shared) (H : Hp) (C : Addr) (cl : List (Str × Addr)) (fp : List Addr), QE (X.blk s H scope (compEnvC scope cl C X.env) fp) elt te de) (hw : ∀ i ∈ is, i ∈ own.map (·.2)) (hc : X.calm = true := by rfl) (hs : ∀ x, foldedSetIterable iter X.env x = pure x := by intro _; rfl) :
    QE X (.ListComp elt [⟨tg, iter, ifs, 0⟩] scope pos) (tLc wi g tt te (own.map (·.2))) (dLcG fin it dg dt de (own.map (·.2))) := q_lcG hf hN hi ok hg ht he s0 hw hc hs
theorem qs_setLcH (i : Nat) {y : Str} {py : Pos} {elt tg iter : Expr} {ifs : List Expr} {scope : Scope} {own : List (Str × Nat)} {spos : Pos} {fin : (Z → Cs → Prop) → List D → Cs → Prop} {wi : TI} {g : TG} {tt : TT} {te : TE} {it : DI} {dg : DG} {dt : DT} {de : DE} {is : List Nat} (hf : FinOk X.K fin) (hN : X.N.Nodup) (hsw : swapsWith (.ListComp elt [⟨tg, iter, ifs, 0⟩] scope pos) (some (.Name y py)) spos.line X.env = pure true)
    (hi : QI X tg iter wi it) (ok : BlkOk X.N X.env.scope scope own) (s0 : Shared)
    (g0 : QG (X.blk s0 (fun _ => none) scope (compEnvC scope [] 0 X.env) []) tg g dg is) (t0 : QTs (X.blk s0 (fun _ => none) scope (compEnvC scope [] 0 X.env) []) ifs tt dt) (e0 : QE (X.blk s0 (fun _ => none) scope (compEnvC scope [] 0 X.env) []) elt te de)
    (hg : ∀ (s : Shared) (H : Hp) (C : Addr) (cl : List (Str × Addr)) (fp : List Addr), QG (X.blk s H scope (compEnvC scope cl C X.env) fp) tg g dg is) (ht : ∀ (s : Shared) (H : Hp) (C : Addr) (cl : List (Str × Addr)) (fp : List Addr), QTs (X.blk s H scope (compEnvC scope cl C X.env) fp) ifs tt dt)
    (he : ∀ (s : Shared) (H : Hp) (C : Addr) (cl : List (Str × Addr)) (fp : List Addr), QE (X.blk s H scope (compEnvC scope cl C X.env) fp) elt te de) (hw : ∀ i ∈ is, i ∈ own.map (·.2)) (hy : X.N[i]? = some y := by rfl) (hyl : X.env.scope.names.lookup y = some .local := by rfl) (hc : X.calm = true := by rfl) (hs : ∀ x, foldedSetIterable iter X.env x = pure x := by intro _; rfl) :
    QS X (.Assign [.Name y py] (.ListComp elt [⟨tg, iter, ifs, 0⟩] scope pos) spos) (tAsg (tLc wi g tt te (own.map (·.2))) (gName i)) (dAsg (dLcG fin it dg dt de (own.map (·.2))) (dgName i)) := qs_setLc i hf hN hsw hi ok hg ht he s0 hw hy hyl hc hs
end
def r2D (z w : Z) (K : Int → Int → Prop) : Prop := ∃ i j, z = .d (.int i) ∧ w = .d (.int j) ∧ K i j
theorem e_r2 (a b : Int) (K : Int → Int → Prop) : r2D (.d (.int a)) (.d (.int b)) K = K a b := by
  refine propext ⟨fun ⟨i, j, h1, h2, h⟩ => ?_, fun h => ⟨a, b, rfl, rfl, h⟩⟩
  cases h1
  cases h2
  exact h
theorem e_diR2 {a b : DE} {en : En} {cs : Cs} {k : List D → (Cs → Prop) → Cs → Prop} : diR2 a b en cs k = a en cs fun z cs1 => b en cs1 fun w cs2 => r2D z w fun i j => (Rg i ∧ Rg j) ∧ k (rgD i (j - i).toNat) yes cs2 := rfl
theorem e_dif {A B : DS} {c : DT} {D0 : DEnds} {en : En} {cs : Cs} : dIfS c A B D0 en cs = c en cs fun b cs1 => if b = true then A D0 en cs1 else B D0 en cs1 := rfl
end DL
set_option Elab.async false
set_option linter.all false
set_option maxRecDepth 100000
set_option maxHeartbeats 2000000
set_option autoImplicit false
/-! DLN: lists that an operator lays and that will change -/
namespace DL
open PySem PySem.Spec PyProof.Rows L2
def OpC (K : PySem.W.Frag) (r : R2) (f : D → D → (List D → Prop) → Prop) : Prop :=
  ∀ (S H : Hp) (as : List Addr) (cs : Cs) (dx dy : D) (x y : V) (k : List D → Prop) (Q : VK), Rep K S H as cs → Sh K S H dx x → Sh K S H dy y → f dx dy k →
    (∀ (ds : List D) (vs : List V) (l : Addr), H l = none → IsL K S ds vs → k ds → Q (.ref l) (upd H l (.lst vs))) → r x y H Q
def dOpC (f : D → D → (List D → Prop) → Prop) (a b : DE) : DE := fun en cs k => a en cs fun x cs1 => b en cs1 fun y cs2 => withD cs2 x fun dx => withD cs2 y fun dy => f dx dy fun ds => k (.c cs2.length) (cs2 ++ [.lst ds])
section
variable {X : Cx} {pos : Pos}
theorem Rep.fresh {K : PySem.W.Frag} {S H : Hp} {as : List Addr} {cs : Cs} {k : Z → Cs → Prop} {Q : VK} (r : Rep K S H as cs) (p : PQ K S as k Q) {ds : List D} {vs : List V} {l : Addr} (hl : H l = none) (is : IsL K S ds vs) (h : k (.c cs.length) (cs ++ [.lst ds])) : Q (.ref l) (upd H l (.lst vs)) :=
  p (.c cs.length) (.ref l) S _ (as ++ [l]) _ ⟨Sub.refl _, [l], rfl⟩ (r.cell hl (c := .lst ds) ⟨r.sub.free hl, vs, upd_same, is⟩) ⟨l, r.get_new l, rfl⟩ h
theorem sem_opC {K : PySem.W.Frag} {r : R2} {f : D → D → (List D → Prop) → Prop} {ta tb : TE} {da db : DE} (h : OpC K r f) (ha : SemE K ta da) (hb : SemE K tb db) : SemE K (tOp r ta tb) (dOpC f da db) := by
  intro σ H S as en cs k Q rp e q p
  refine ha.use rp e q fun z v S1 H1 as1 cs1 e1 r1 v1 q1 => ?_
  refine hb.use r1 (e.mono e1) q1 fun z2 v2 S2 H2 as2 cs2 e2 r2 w2 q2 => ?_
  obtain ⟨dx, l1, q2⟩ := withD_look q2
  obtain ⟨dy, l2, q2⟩ := withD_look q2
  exact h S2 H2 as2 cs2 dx dy v v2 _ Q r2 (look_sh r2 (v1.mono e2) l1) (look_sh r2 w2 l2) q2 fun ds vs l hl is hk => r2.fresh (p.mono (e1.trans e2)) hl is hk
theorem q_opC {op : Operator} {r : R2} {f : D → D → (List D → Prop) → Prop} {a b : Expr} {ta tb : TE} {da db : DE} (ho : OpR X (binaryOp op) r) (h : OpC X.K r f) (ha : QE X a ta da) (hb : QE X b tb db) : QE X (.BinOp a op b pos) (tOp r ta tb) (dOpC f da db) :=
  ⟨pe_op ho ha.pe hb.pe, sem_opC h ha.sem hb.sem⟩
def addC : D → D → (List D → Prop) → Prop
  | .lst a, .lst b, k => a.length + b.length ≤ 100000 ∧ k (a ++ b)
  | _, _, _ => False
def mulC : D → D → (List D → Prop) → Prop
  | .lst a, .int n, k => (0 ≤ n ∧ n ≤ 100000 ∧ a.length ≤ 1000 ∧ a.length * n.toNat ≤ 100000) ∧ k (List.replicate n.toNat a).flatten
  | _, _, _ => False
theorem e_addC (a b : List D) (k : List D → Prop) : addC (.lst a) (.lst b) k = (a.length + b.length ≤ 100000 ∧ k (a ++ b)) := rfl
theorem e_mulC (a : List D) (n : Int) (k : List D → Prop) : mulC (.lst a) (.int n) k = ((0 ≤ n ∧ n ≤ 100000 ∧ a.length ≤ 1000 ∧ a.length * n.toNat ≤ 100000) ∧ k (List.replicate n.toNat a).flatten) := rfl
theorem oc_add {K : PySem.W.Frag} : OpC K (rAddU K) addC := by
  intro S H as cs dx dy x y k Q r hx hy h q
  unfold addC at h
  split at h
  · obtain ⟨a, vs, rfl, hs, is⟩ := hx
    obtain ⟨b, us, rfl, ht, it⟩ := hy
    obtain ⟨hz, hk⟩ := h
    exact .inr (.inr (.inr ⟨a, b, vs, us, rfl, rfl, hs, ht, by rw [is.len, it.len]; exact size_of hz, fun p hp => q _ _ p hp (is.append it) hk⟩))
  · exact h.elim
theorem oc_mul {K : PySem.W.Frag} : OpC K (rMulU K) mulC := by
  intro S H as cs dx dy x y k Q r hx hy h q
  unfold mulC at h
  split at h
  · rename_i l n
    obtain ⟨a, vs, rfl, hs, is⟩ := hx
    obtain ⟨⟨h1, h2, h3, h4⟩, hk⟩ := h
    exact .inr (.inr ⟨a, _, vs, rfl, hy, hs, by omega, by omega, by rw [is.len]; exact size_of h4, fun p hp => q _ _ p hp (is.rep _) hk⟩)
  · exact h.elim
/-- xs[a:b], to be changed -/
def dSlC (a : DE) (lo hi : DO) : DE := fun en cs k => a en cs fun x cs1 => lo en cs1 fun l cs2 => hi en cs2 fun h cs3 => withD cs3 x fun dx => ∃ ds, dx = .lst ds ∧ k (.c cs3.length) (cs3 ++ [.lst (cutG ds l h)])
theorem q_sliceC {a : Expr} {lo hi : Option Expr} {ta : TE} {da : DE} {tl th : TO} {dl dh : DO} {p2 : Pos} (ha : QE X a ta da) (hl : QO X lo tl dl) (hh : QO X hi th dh) : QE X (.Subscript a (.Slice lo hi none p2) pos) (tSl (rSlU X.K) ta tl th) (dSlC da dl dh) := by
  refine ⟨pe_slice sl_U ha.pe hl.po hh.po, ?_⟩
  intro σ H S as en cs k Q rp e q p
  refine ha.sem.use rp e q fun z v S1 H1 as1 cs1 e1 r1 v1 q1 => ?_
  refine hl.sem σ H1 S1 as1 en cs1 _ _ r1 (e.mono e1) q1 fun l S2 H2 as2 cs2 e2 r2 q2 => ?_
  refine hh.sem σ H2 S2 as2 en cs2 _ _ r2 (e.mono (e1.trans e2)) q2 fun h S3 H3 as3 cs3 e3 r3 q3 => ?_
  obtain ⟨dx, l1, q3⟩ := withD_look q3
  have hx := look_sh r3 (v1.mono (e2.trans e3)) l1
  obtain ⟨ds, rfl, q3⟩ := q3
  obtain ⟨ad, vs, rfl, hs, is⟩ := hx
  exact .inl ⟨ad, vs, rfl, SqL.of hs, fun b hb => r3.fresh (p.mono ((e1.trans e2).trans e3)) hb (is.cut l h) q3⟩
/-- list(x), to be changed -/
def lstOfC : D → (List D → Prop) → Prop
  | .lst ds, k => k ds
  | .tup ds, k => k ds
  | .scr ns, k => k (ns.map D.int)
  | _, _ => False
theorem e_loCl (ds : List D) (k : List D → Prop) : lstOfC (.lst ds) k = k ds := rfl
theorem e_loCt (ds : List D) (k : List D → Prop) : lstOfC (.tup ds) k = k ds := rfl
theorem e_loCs (ns : List Int) (k : List D → Prop) : lstOfC (.scr ns) k = k (ns.map D.int) := rfl
def dListC (a : DE) : DE := fun en cs k => a en cs fun x cs1 => withD cs1 x fun dx => lstOfC dx fun ds => k (.c cs1.length) (cs1 ++ [.lst ds])
theorem q_listC {x : Str} {p : Pos} {a : Expr} {ta : TE} {da : DE} (hc : CallR X (.type "list") (rLstOf X.K)) (hm : X.mg x = none) (hv : bootBuiltins x = some (.type "list")) (ha : QE X a ta da) (hg : Gl X x := by rfl) (hn : x ≠ "__name__" := by decide) (hdb : (x == ("__debug__" : Str)) = false := by decide)
    (he : starEach [a] X.env = (false, eval a X.env) :: starEach [] X.env := by rfl) (hpl : (backTo pos (starEach [] X.env)).any (·.1) = false := by rfl) : QE X (.Call (.Name x p) [a] [] pos) (tCB (rLstOf X.K) (tCons ta tNil)) (dListC da) := by
  refine ⟨pe_callTy hc hg hm hv (pa_cons ha.pe pa_nil he) hn hdb he hpl, ?_⟩
  intro σ H S as en cs k Q rp e q pq
  refine ha.sem.use rp e q fun z v S1 H1 as1 cs1 e1 r1 v1 q1 => ?_
  obtain ⟨dx, l1, q1⟩ := withD_look q1
  have hx := look_sh r1 v1 l1
  unfold lstOfC at q1
  split at q1
  · obtain ⟨ad, vs, rfl, hs, is⟩ := hx
    exact ⟨ad, vs, rfl, .inl (SqL.of hs), fun l hl => r1.fresh (pq.mono e1) hl is q1⟩
  · obtain ⟨ad, vs, rfl, hs, is⟩ := hx
    exact ⟨ad, vs, rfl, .inr (r1.sub.t hs), fun l hl => r1.fresh (pq.mono e1) hl is q1⟩
  · obtain ⟨ad, rfl, hs⟩ := hx
    exact ⟨ad, _, rfl, .inl (r1.sub.l hs), fun l hl => r1.fresh (pq.mono e1) hl (isL_ints _) q1⟩
  · exact q1.elim
end
end DL
set_option Elab.async false
set_option linter.all false
set_option maxRecDepth 100000
set_option maxHeartbeats 2000000
set_option autoImplicit false
namespace K01
open PySem L2 DL
local macro_rules | `(tactic| walk_at "dl") => `(tactic| simp only [dSeq, dNext, dBreak, dCont, dDrop, dRet, dRetN, dIfS, dNever, dAsg, dPar, dPutK, dAppend, dExtend, dCall, dVar, dC, dOp, dChain, dUn, dB, dNot, dAnd, dOr, dAndV, dOrV, dNotV, dIf, dNil, dCons, dTup, dLst, dLstC, dCB, dInK, dGetK, dDicC, dNoPart, dPart, dSl, dBits, dRev,
  dgName, dgsNil, dgsCons, dgTup, dgSet, diSeq, diR1, e_diR2, e_r2, diEnum, startD, endD, finZ_d, finD, finC, List.take_length, dYes, wipeD, ix0, ix1, ix2, get_snoc, set_snoc, take_snoc,
  dOpC, dSlC, dListC, e_addC, e_mulC, e_loCl, e_loCt, e_loCs, e_wd, e_wc0, e_wcs, e_wsn, e_wc1, e_wc2, e_wl0, e_wl1, e_dl0, e_dl1, e_sl, e_st, e_ss, e_addi, e_adds, e_addt, e_addl, e_sub, e_muli, e_mult, e_mull, e_fdiv, e_mod, e_pow, e_neg, e_lt, e_le, e_gt, e_ge, e_eqi, e_eqs, e_eql, e_eqt, e_eqb, e_eqn, e_nei, e_nes, e_nel, e_net, e_neb, e_nen, e_isb, e_isn, e_inb, e_inn, e_in1, e_in2, e_in3, e_in4, e_in5,
  e_ixt, e_ixl, e_ixs, e_at0, e_at1, e_at2, e_at3, e_at4, e_at5, e_atl, e_keyi, e_keys, e_lenl, e_lent, e_lens, e_lend, e_maxi, e_mini, e_maxl, e_minl, e_sum, e_all, e_any, e_inti, e_intb, e_abs, e_tol, e_tot, e_tos, e_lol, e_lot, e_los, e_sll, e_slt, e_rvl, e_rvt, e_repr, e_isi,
  List.map_cons, List.map_nil, List.length_cons, List.length_nil, List.cons_append, List.nil_append, List.replicate_succ, List.replicate_zero, List.getElem?_cons_zero, List.getElem?_cons_succ, List.set_cons_zero, List.set_cons_succ, Nat.reduceSub, Nat.reduceAdd, Int.reduceToNat, Int.reduceLE, Int.reduceLT, Int.reduceNeg, Nat.reduceLeDiff, Nat.reduceLT, Nat.zero_add, Option.some.injEq, Z.d.injEq, Z.c.injEq, D.bl.injEq, D.int.injEq, D.tup.injEq, D.lst.injEq,
  List.take_succ_cons, List.take_zero, exists_eq_left', exists_eq_left, true_and, and_true, if_true, Bool.not_true, Bool.not_false, Bool.false_eq_true, if_false, decide_true, decide_false])
/-! ### checks -/
def sp_is_int : DSpec := fun zs cs k => match zs with
  | [.d x] => pyOk x = true ∧ k (.d (.bl (isInt x))) cs
  | _ => False
theorem len_is_int : ∀ zs cs q, sp_is_int zs cs q → zs.length = (["value"] : List Str).length := fun zs cs q h => by
  unfold sp_is_int at h
  split at h
  · rfl
  · exact h.elim
def t_is_int : DS :=
  (dRet (dAndV (dCB (isiN "int") (dCons (dVar 0) (dCons (dC (.ty "int")) dNil))) (dNotV (dCB (isiN "bool") (dCons (dVar 0) (dCons (dC (.ty "bool")) dNil))))))
theorem rd_is_int : ∀ zs cs q, sp_is_int zs cs q → t_is_int (endD cs.length q) (startD ["value"] zs) cs := fun zs cs q h => by
  unfold sp_is_int at h
  split at h
  · rename_i x
    obtain ⟨hx, h⟩ := h
    unfold t_is_int
    walk_at "dl"
    rw [kit_int hx, kit_bool hx]
    simp only [Option.some.injEq, exists_eq_left']
    cases x <;> simp_all [isInt, tyD]
  · exact h.elim
def inRange (x : D) (lo hi : Int) : Bool := match x with
  | .int i => decide (lo ≤ i) && decide (i ≤ hi)
  | _ => false
def sp_in_range : DSpec := fun zs cs k => match zs with
  | [.d x, .d (.int lo), .d (.int hi)] => pyOk x = true ∧ k (.d (.bl (inRange x lo hi))) cs
  | _ => False
theorem len_in_range : ∀ zs cs q, sp_in_range zs cs q → zs.length = (["value", "low", "high"] : List Str).length := fun zs cs q h => by
  unfold sp_in_range at h
  split at h
  · rfl
  · exact h.elim
def t_in_range : DS :=
  (dRet (dAndV (dCall sp_is_int (dCons (dVar 0) dNil)) (dChain leD leD (dVar 1) (dVar 0) (dVar 2))))
theorem rd_in_range : ∀ zs cs q, sp_in_range zs cs q → t_in_range (endD cs.length q) (startD ["value", "low", "high"] zs) cs := fun zs cs q h => by
  unfold sp_in_range at h
  split at h
  · rename_i x lo hi
    obtain ⟨hx, h⟩ := h
    unfold t_in_range
    walk_at "dl"
    simp only [sp_is_int]
    refine ⟨hx, ?_⟩
    cases x <;> simp_all [isInt, inRange, e_le]
    rename_i i
    by_cases h1 : lo ≤ i
    · simp_all
    · simp_all
  · exact h.elim
def sp_require_cycle : DSpec := fun zs cs k => match zs with
  | [.d x] => (pyOk x = true ∧ inRange x 1 (10 ^ 30) = true) ∧ k (.d .non) cs
  | _ => False
theorem len_require_cycle : ∀ zs cs q, sp_require_cycle zs cs q → zs.length = (["value"] : List Str).length := fun zs cs q h => by
  unfold sp_require_cycle at h
  split at h
  · rfl
  · exact h.elim
def t_require_cycle : DS :=
  (dIfS (dNot (dB (dCall sp_in_range (dCons (dVar 0) (dCons (dC (.int 1)) (dCons (dC (.int 1000000000000000000000000000000)) dNil)))))) dNever dNext)
theorem rd_require_cycle : ∀ zs cs q, sp_require_cycle zs cs q → t_require_cycle (endD cs.length q) (startD ["value"] zs) cs := fun zs cs q h => by
  unfold sp_require_cycle at h
  split at h
  · rename_i x
    obtain ⟨⟨hx, h1⟩, h⟩ := h
    unfold t_require_cycle
    walk_at "dl"
    simp only [sp_in_range]
    refine ⟨hx, ?_⟩
    rw [show (10 ^ 30 : Int) = 1000000000000000000000000000000 from by decide] at h1
    simp_all
  · exact h.elim
def sp_require_moment : DSpec := fun zs cs k => match zs with
  | [.d (.int _)] => k (.d .non) cs
  | _ => False
theorem len_require_moment : ∀ zs cs q, sp_require_moment zs cs q → zs.length = (["value"] : List Str).length := fun zs cs q h => by
  unfold sp_require_moment at h
  split at h
  · rfl
  · exact h.elim
def t_require_moment : DS :=
  (dIfS (dNot (dB (dCall sp_is_int (dCons (dVar 0) dNil)))) dNever dNext)
theorem rd_require_moment : ∀ zs cs q, sp_require_moment zs cs q → t_require_moment (endD cs.length q) (startD ["value"] zs) cs := fun zs cs q h => by
  unfold sp_require_moment at h
  split at h
  · unfold t_require_moment
    walk_at "dl"
    simp only [sp_is_int]
    simp_all [isInt, pyOk]
  · exact h.elim
def isStretch (c : Int) (x : D) : Bool := match x with
  | .tup [a, b] => inRange a 0 (c - 1) && inRange b 1 c
  | _ => false
def sp_is_stretch : DSpec := fun zs cs k => match zs with
  | [.d (.int c), .d x] => pyOk x = true ∧ k (.d (.bl (isStretch c x))) cs
  | _ => False
theorem len_is_stretch : ∀ zs cs q, sp_is_stretch zs cs q → zs.length = (["cycle", "value"] : List Str).length := fun zs cs q h => by
  unfold sp_is_stretch at h
  split at h
  · rfl
  · exact h.elim
def t_is_stretch : DS :=
  (dSeq (dIfS (dOr (dNot (dB (dCB (isiN "tuple") (dCons (dVar 1) (dCons (dC (.ty "tuple")) dNil))))) (dB (dOp neUD (dCB lenD (dCons (dVar 1) dNil)) (dC (.int 2))))) (dRet (dC (.bl false))) dNext)
  (dRet (dAndV (dCall sp_in_range (dCons (dOp ixD (dVar 1) (dC (.int 0))) (dCons (dC (.int 0)) (dCons (dOp subD (dVar 0) (dC (.int 1))) dNil)))) (dCall sp_in_range (dCons (dOp ixD (dVar 1) (dC (.int 1))) (dCons (dC (.int 1)) (dCons (dVar 0) dNil)))))))
theorem rd_is_stretch : ∀ zs cs q, sp_is_stretch zs cs q → t_is_stretch (endD cs.length q) (startD ["cycle", "value"] zs) cs := fun zs cs q h => by
  unfold sp_is_stretch at h
  split at h
  · rename_i c x
    obtain ⟨hx, h⟩ := h
    unfold t_is_stretch
    walk_at "dl"
    simp only [kit_tup hx, Option.some.injEq, exists_eq_left']
    have ht : isTup x = false → isStretch c x = false := fun e => by
      cases x <;> first | rfl | exact Bool.noConfusion e
    cases e : isTup x with
    | false =>
      rw [ht e] at h
      simp_all
    | true =>
      cases x with
      | tup ds =>
        match ds, hx, h with
        | [a, b], hx, h =>
          have o := pyOk_mem (ds := [a, b]) hx
          have o1 := o a (by simp)
          have o2 := o b (by simp)
          walk_at "dl"
          simp only [sp_in_range]
          simp only [isStretch] at h
          cases q1 : inRange a 0 (c - 1) <;> simp_all [finZ_self]
        | [], hx, h => simp_all [isStretch, e_lent, e_nei]
        | [a], hx, h => simp_all [isStretch, e_lent, e_nei]
        | a :: b :: d :: r, hx, h =>
          have n : ¬ ((r.length : Int) + 1 + 1 + 1 = 2) := by omega
          simp_all [isStretch, e_lent, e_nei]
      | _ => exact Bool.noConfusion e
  · exact h.elim
/-! ### signals -/
def areGreens (c : Int) (x : D) : Bool := match x with
  | .tup ds => decide (1 ≤ ds.length) && decide (ds.length ≤ 6) && ds.all (isStretch c)
  | _ => false
def sp_are_greens : DSpec := fun zs cs k => match zs with
  | [.d (.int c), .d x] => pyOk x = true ∧ k (.d (.bl (areGreens c x))) cs
  | _ => False
theorem len_are_greens : ∀ zs cs q, sp_are_greens zs cs q → zs.length = (["cycle", "value"] : List Str).length := fun zs cs q h => by
  unfold sp_are_greens at h
  split at h
  · rfl
  · exact h.elim
def t_are_greens : DS :=
  (dSeq (dIfS (dOr (dNot (dB (dCB (isiN "tuple") (dCons (dVar 1) (dCons (dC (.ty "tuple")) dNil))))) (dNot (dB (dChain leD leD (dC (.int 1)) (dCB lenD (dCons (dVar 1) dNil)) (dC (.int 6)))))) (dRet (dC (.bl false))) dNext)
  (dRet (dCB allD (dCons (dLc (diSeq (dVar 1)) (dgName 2) dYes (dCall sp_is_stretch (dCons (dVar 0) (dCons (dVar 2) dNil))) [2]) dNil))))
theorem rd_are_greens : ∀ zs cs q, sp_are_greens zs cs q → t_are_greens (endD cs.length q) (startD ["cycle", "value", "one"] zs) cs := fun zs cs q h => by
  unfold sp_are_greens at h
  split at h
  rotate_left
  · exact h.elim
  rename_i c x
  obtain ⟨hx, h⟩ := h
  unfold t_are_greens
  walk_at "dl"
  simp only [kit_tup hx, Option.some.injEq, exists_eq_left']
  have ht : isTup x = false → areGreens c x = false := fun e => by
    cases x <;> first | rfl | exact Bool.noConfusion e
  cases e : isTup x with
  | false =>
    rw [ht e] at h
    simp_all
  | true =>
    cases x with
    | tup ds =>
      have go : 1 ≤ ds.length → ds.length ≤ 6 → ∀ K : Z → Cs → Prop, K (.d (.lst ((ds.map (isStretch c)).map D.bl))) cs → dLcG finD (diSeq (dVar 1)) (dgName 2) dYes (dCall sp_is_stretch (dCons (dVar 0) (dCons (dVar 2) dNil))) [2] (startD ["cycle", "value", "one"] [.d (.int c), .d (.tup ds)]) cs K := fun h1 h2 K hK => by
        refine dLc_mk ds yes cs (fun K h => by walk_at "dl"; exact h) (fun d => .bl (isStretch c d)) (by omega) (fun i d acc hd P hP => ?_) ?_ (fun _ => trivial)
        · walk_at "dl"
          simp only [sp_is_stretch]
          exact ⟨pyOk_mem hx d (List.mem_of_getElem? hd), hP⟩
        · rw [map_bls _ (isStretch c) ds fun _ _ => rfl]
          exact hK
      simp only [areGreens] at h
      walk_at "dl"
      by_cases h1 : 1 ≤ ds.length
      · by_cases h2 : ds.length ≤ 6
        · have g1 : (1 : Int) ≤ (ds.length : Int) := by omega
          have g2 : (ds.length : Int) ≤ 6 := by omega
          simp only [g1, g2, h1, h2, decide_true, Bool.true_and] at h ⊢
          walk_at "dl"
          refine go h1 h2 _ ?_
          walk_at "dl"
          refine ⟨_, rfl, ?_⟩
          rw [List.all_map] 
          simpa using h
        · have g1 : (1 : Int) ≤ (ds.length : Int) := by omega
          have g2 : ¬ (ds.length : Int) ≤ 6 := by omega
          simp_all
      · have g1 : ¬ (1 : Int) ≤ (ds.length : Int) := by omega
        simp_all
    | _ => exact Bool.noConfusion e
end K01
set_option Elab.async false
set_option linter.all false
set_option maxRecDepth 100000
set_option maxHeartbeats 2000000
set_option autoImplicit false
namespace K01
open PySem L2 DL
local macro_rules | `(tactic| walk_at "dl") => `(tactic| simp only [dSeq, dNext, dBreak, dCont, dDrop, dRet, dRetN, dIfS, dNever, dAsg, dPar, dPutK, dAppend, dExtend, dCall, dVar, dC, dOp, dChain, dUn, dB, dNot, dAnd, dOr, dAndV, dOrV, dNotV, dIf, dNil, dCons, dTup, dLst, dLstC, dCB, dInK, dGetK, dDicC, dNoPart, dPart, dSl, dBits, dRev,
  dgName, dgsNil, dgsCons, dgTup, dgSet, diSeq, diR1, e_diR2, e_r2, diEnum, startD, endD, finZ_d, finD, finC, List.take_length, dYes, wipeD, ix0, ix1, ix2, get_snoc, set_snoc, take_snoc,
  dOpC, dSlC, dListC, e_addC, e_mulC, e_loCl, e_loCt, e_loCs, e_wd, e_wc0, e_wcs, e_wsn, e_wc1, e_wc2, e_wl0, e_wl1, e_dl0, e_dl1, e_sl, e_st, e_ss, e_addi, e_adds, e_addt, e_addl, e_sub, e_muli, e_mult, e_mull, e_fdiv, e_mod, e_pow, e_neg, e_lt, e_le, e_gt, e_ge, e_eqi, e_eqs, e_eql, e_eqt, e_eqb, e_eqn, e_nei, e_nes, e_nel, e_net, e_neb, e_nen, e_isb, e_isn, e_inb, e_inn, e_in1, e_in2, e_in3, e_in4, e_in5,
  e_ixt, e_ixl, e_ixs, e_at0, e_at1, e_at2, e_at3, e_at4, e_at5, e_atl, e_keyi, e_keys, e_lenl, e_lent, e_lens, e_lend, e_maxi, e_mini, e_maxl, e_minl, e_sum, e_all, e_any, e_inti, e_intb, e_abs, e_tol, e_tot, e_tos, e_lol, e_lot, e_los, e_sll, e_slt, e_rvl, e_rvt, e_repr, e_isi,
  List.map_cons, List.map_nil, List.length_cons, List.length_nil, List.cons_append, List.nil_append, List.replicate_succ, List.replicate_zero, List.getElem?_cons_zero, List.getElem?_cons_succ, List.set_cons_zero, List.set_cons_succ, Nat.reduceSub, Nat.reduceAdd, Int.reduceToNat, Int.reduceLE, Int.reduceLT, Int.reduceNeg, Nat.reduceLeDiff, Nat.reduceLT, Nat.zero_add, Option.some.injEq, Z.d.injEq, Z.c.injEq, D.bl.injEq, D.int.injEq, D.tup.injEq, D.lst.injEq,
  List.take_succ_cons, List.take_zero, exists_eq_left', exists_eq_left, true_and, and_true, if_true, Bool.not_true, Bool.not_false, Bool.false_eq_true, if_false, decide_true, decide_false])
def prD (g : Int × Int) : D := .tup [.int g.1, .int g.2]
def grD (gs : List (Int × Int)) : List D := gs.map prD
theorem ok_prD (g : Int × Int) : pyOk (prD g) = true := rfl
theorem ok_grD (gs : List (Int × Int)) : pyOk (.tup (grD gs)) = true := pyOk_of_mem fun d hd => by
  obtain ⟨g, _, rfl⟩ := List.mem_map.mp hd
  rfl
theorem len_grD (gs : List (Int × Int)) : (grD gs).length = gs.length := List.length_map _
theorem get_grD {gs : List (Int × Int)} {i : Nat} {d : D} (h : (grD gs)[i]? = some d) : ∃ g, gs[i]? = some g ∧ d = prD g := by
  unfold grD at h
  rw [List.getElem?_map] at h
  cases q : gs[i]? with
  | none => rw [q] at h; cases h
  | some g =>
    rw [q] at h
    exact ⟨g, rfl, (Option.some.inj h).symm⟩
def StOk (c : Int) (g : Int × Int) : Prop := 0 ≤ g.1 ∧ g.1 < c ∧ 1 ≤ g.2 ∧ g.2 ≤ c
theorem str_ok {c : Int} {g : Int × Int} (h : StOk c g) : isStretch c (prD g) = true := by
  obtain ⟨a, b, d, e⟩ := h
  have e1 : g.1 ≤ c - 1 := by omega
  simp only [isStretch, prD, inRange, a, e1, d, e, decide_true, Bool.and_self]
structure GrOk (c : Int) (gs : List (Int × Int)) : Prop where
  lo : 1 ≤ gs.length
  hi : gs.length ≤ 6
  st : ∀ g ∈ gs, StOk c g
theorem areG_ok {c : Int} {gs : List (Int × Int)} (h : GrOk c gs) : areGreens c (.tup (grD gs)) = true := by
  have h1 := h.lo
  have h2 := h.hi
  have h3 : (grD gs).all (isStretch c) = true := List.all_eq_true.mpr fun d hd => by
    obtain ⟨g, hg, rfl⟩ := List.mem_map.mp hd
    exact str_ok (h.st g hg)
  simp only [areGreens, len_grD, h1, h2, h3, decide_true, Bool.and_self]
def sp_is_signal : DSpec := fun zs cs k => match zs with
  | [.d x, .d (.int c)] => (pyOk x = true ∧ 1 ≤ c ∧ c ≤ 10 ^ 30) ∧ k (.d (.bl (areGreens c x))) cs
  | _ => False
theorem len_is_signal : ∀ zs cs q, sp_is_signal zs cs q → zs.length = (["value", "cycle"] : List Str).length := fun zs cs q h => by
  unfold sp_is_signal at h
  split at h
  · rfl
  · exact h.elim
def t_is_signal : DS :=
  (dSeq (dDrop (dCall sp_require_cycle (dCons (dVar 1) dNil)))
  (dRet (dCall sp_are_greens (dCons (dVar 1) (dCons (dVar 0) dNil)))))
theorem rd_is_signal : ∀ zs cs q, sp_is_signal zs cs q → t_is_signal (endD cs.length q) (startD ["value", "cycle"] zs) cs := fun zs cs q h => by
  unfold sp_is_signal at h
  split at h
  rotate_left
  · exact h.elim
  rename_i x c
  obtain ⟨⟨hx, h1, h2⟩, h⟩ := h
  unfold t_is_signal
  walk_at "dl"
  simp only [sp_require_cycle, sp_are_greens]
  refine ⟨⟨rfl, ?_⟩, hx, ?_⟩
  · simp only [inRange, h1, h2, decide_true, Bool.and_self]
  · simp_all [finZ_self]
def sp_require_signal : DSpec := fun zs cs k => match zs with
  | [.d (.int c), .d x] => (pyOk x = true ∧ 1 ≤ c ∧ c ≤ 10 ^ 30 ∧ areGreens c x = true) ∧ k (.d .non) cs
  | _ => False
theorem len_require_signal : ∀ zs cs q, sp_require_signal zs cs q → zs.length = (["cycle", "value"] : List Str).length := fun zs cs q h => by
  unfold sp_require_signal at h
  split at h
  · rfl
  · exact h.elim
def t_require_signal : DS :=
  (dSeq (dDrop (dCall sp_require_cycle (dCons (dVar 0) dNil)))
  (dIfS (dNot (dB (dCall sp_are_greens (dCons (dVar 0) (dCons (dVar 1) dNil))))) dNever dNext))
theorem rd_require_signal : ∀ zs cs q, sp_require_signal zs cs q → t_require_signal (endD cs.length q) (startD ["cycle", "value"] zs) cs := fun zs cs q h => by
  unfold sp_require_signal at h
  split at h
  rotate_left
  · exact h.elim
  rename_i c x
  obtain ⟨⟨hx, h1, h2, h3⟩, h⟩ := h
  unfold t_require_signal
  walk_at "dl"
  simp only [sp_require_cycle, sp_are_greens]
  refine ⟨⟨rfl, ?_⟩, hx, ?_⟩
  · simp only [inRange, h1, h2, decide_true, Bool.and_self]
  · simp_all [finZ_self]
def litB (c : Int) (gs : List (Int × Int)) (t : Int) : Bool := gs.any fun g => decide ((t - g.1) % c < g.2)
def sp_green_at : DSpec := fun zs cs k => match zs with
  | [.d (.int c), .d (.tup xs), .d (.int t)] => ∃ gs, xs = grD gs ∧ (gs.length ≤ 1000 ∧ 0 < c ∧ c ≤ 10 ^ 30) ∧ k (.d (.bl (litB c gs t))) cs
  | _ => False
theorem len_green_at : ∀ zs cs q, sp_green_at zs cs q → zs.length = (["cycle", "signal", "moment"] : List Str).length := fun zs cs q h => by
  unfold sp_green_at at h
  split at h
  · rfl
  · exact h.elim
def t_green_at : DS :=
  (dRet (dCB anyD (dCons (dLc (diSeq (dVar 1)) (dgTup 2 (dgsCons (dgName 3) (dgsCons (dgName 4) dgsNil))) dYes (dOp ltD (dOp modD (dOp subD (dVar 2) (dVar 3)) (dVar 0)) (dVar 4)) [3, 4]) dNil)))
theorem rd_green_at : ∀ zs cs q, sp_green_at zs cs q → t_green_at (endD cs.length q) (startD ["cycle", "signal", "moment", "offset", "length"] zs) cs := fun zs cs q h => by
  unfold sp_green_at at h
  split at h
  rotate_left
  · exact h.elim
  rename_i c xs t
  obtain ⟨gs, rfl, ⟨h1, h2, h3⟩, h⟩ := h
  unfold t_green_at
  walk_at "dl"
  refine dLc_mk (grD gs) yes cs (fun K h => by walk_at "dl"; exact h) (fun d => match d with
    | .tup [.int a, .int b] => .bl (decide ((t - a) % c < b))
    | _ => .non) (by rw [len_grD]; omega) (fun i d acc hd P hP => ?_) ?_ (fun _ => trivial)
  · obtain ⟨g, hg, rfl⟩ := get_grD hd
    simp only [prD] at hP ⊢
    walk_at "dl"
    exact ⟨h2, hP⟩
  · walk_at "dl"
    refine ⟨gs.map fun g => decide ((t - g.1) % c < g.2), ?_, ?_⟩
    · rw [grD, List.map_map, List.map_map]
      rfl
    · rw [List.any_map]
      exact h
def sp_is_green : DSpec := fun zs cs k => match zs with
  | [.d (.int c), .d (.tup xs), .d (.int t)] => ∃ gs, xs = grD gs ∧ (GrOk c gs ∧ 1 ≤ c ∧ c ≤ 10 ^ 30) ∧ k (.d (.bl (litB c gs t))) cs
  | _ => False
theorem len_is_green : ∀ zs cs q, sp_is_green zs cs q → zs.length = (["cycle", "signal", "moment"] : List Str).length := fun zs cs q h => by
  unfold sp_is_green at h
  split at h
  · rfl
  · exact h.elim
def t_is_green : DS :=
  (dSeq (dDrop (dCall sp_require_signal (dCons (dVar 0) (dCons (dVar 1) dNil))))
  (dSeq (dDrop (dCall sp_require_moment (dCons (dVar 2) dNil)))
  (dRet (dCall sp_green_at (dCons (dVar 0) (dCons (dVar 1) (dCons (dVar 2) dNil)))))))
theorem rd_is_green : ∀ zs cs q, sp_is_green zs cs q → t_is_green (endD cs.length q) (startD ["cycle", "signal", "moment"] zs) cs := fun zs cs q h => by
  unfold sp_is_green at h
  split at h
  rotate_left
  · exact h.elim
  rename_i c xs t
  obtain ⟨gs, rfl, ⟨h1, h2, h3⟩, h⟩ := h
  unfold t_is_green
  walk_at "dl"
  simp only [sp_require_signal, sp_require_moment, sp_green_at]
  refine ⟨⟨ok_grD gs, h2, h3, areG_ok h1⟩, gs, rfl, ⟨Nat.le_trans h1.hi (by decide), by omega, h3⟩, ?_⟩
  exact fz _ _ _ _ rfl h
end K01
set_option Elab.async false
set_option linter.all false
set_option maxRecDepth 100000
set_option maxHeartbeats 2000000
set_option autoImplicit false
namespace K01
open PySem L2 DL
local macro_rules | `(tactic| walk_at "dl") => `(tactic| simp only [dSeq, dNext, dBreak, dCont, dDrop, dRet, dRetN, dIfS, dNever, dAsg, dPar, dPutK, dAppend, dExtend, dCall, dVar, dC, dOp, dChain, dUn, dB, dNot, dAnd, dOr, dAndV, dOrV, dNotV, dIf, dNil, dCons, dTup, dLst, dLstC, dCB, dInK, dGetK, dDicC, dNoPart, dPart, dSl, dBits, dRev,
  dgName, dgsNil, dgsCons, dgTup, dgSet, diSeq, diR1, e_diR2, e_r2, diEnum, startD, endD, finZ_d, finD, finC, List.take_length, dYes, wipeD, ix0, ix1, ix2, get_snoc, set_snoc, take_snoc,
  dOpC, dSlC, dListC, e_addC, e_mulC, e_loCl, e_loCt, e_loCs, e_wd, e_wc0, e_wcs, e_wsn, e_wc1, e_wc2, e_wl0, e_wl1, e_dl0, e_dl1, e_sl, e_st, e_ss, e_addi, e_adds, e_addt, e_addl, e_sub, e_muli, e_mult, e_mull, e_fdiv, e_mod, e_pow, e_neg, e_lt, e_le, e_gt, e_ge, e_eqi, e_eqs, e_eql, e_eqt, e_eqb, e_eqn, e_nei, e_nes, e_nel, e_net, e_neb, e_nen, e_isb, e_isn, e_inb, e_inn, e_in1, e_in2, e_in3, e_in4, e_in5,
  e_ixt, e_ixl, e_ixs, e_at0, e_at1, e_at2, e_at3, e_at4, e_at5, e_atl, e_keyi, e_keys, e_lenl, e_lent, e_lens, e_lend, e_maxi, e_mini, e_maxl, e_minl, e_sum, e_all, e_any, e_inti, e_intb, e_abs, e_tol, e_tot, e_tos, e_lol, e_lot, e_los, e_sll, e_slt, e_rvl, e_rvt, e_repr, e_isi,
  List.map_cons, List.map_nil, List.length_cons, List.length_nil, List.cons_append, List.nil_append, List.replicate_succ, List.replicate_zero, List.getElem?_cons_zero, List.getElem?_cons_succ, List.set_cons_zero, List.set_cons_succ, Nat.reduceSub, Nat.reduceAdd, Int.reduceToNat, Int.reduceLE, Int.reduceLT, Int.reduceNeg, Nat.reduceLeDiff, Nat.reduceLT, Nat.zero_add, Option.some.injEq, Z.d.injEq, Z.c.injEq, D.bl.injEq, D.int.injEq, D.tup.injEq, D.lst.injEq,
  List.take_succ_cons, List.take_zero, exists_eq_left', exists_eq_left, true_and, and_true, if_true, Bool.not_true, Bool.not_false, Bool.false_eq_true, if_false, decide_true, decide_false])
/-! ### the pond -/
def Pond (L : Nat) (x : D) : Prop := ∃ d m c : Int, x = .lst [.int d, .int m, .int c] ∧ 0 ≤ d ∧ 0 ≤ m ∧ m < 10 ^ 50 ∧ 0 ≤ c ∧ c ≤ (L : Int)
theorem Pond.le {L M : Nat} {x : D} (h : Pond L x) (l : L ≤ M) : Pond M x :=
  let ⟨d, m, c, a, b, e, f, g, i⟩ := h
  ⟨d, m, c, a, b, e, f, g, by omega⟩
def sp_l_pond : DSpec := fun zs cs k => match zs with
  | [.d (.scr ns), .d (.int j)] => (0 ≤ j ∧ j < 1000) ∧ ∀ x, Pond 0 x → k (.c cs.length) (cs ++ [x])
  | _ => False
theorem len_l_pond : ∀ zs cs q, sp_l_pond zs cs q → zs.length = (["_law_script", "_law_k"] : List Str).length := fun zs cs q h => by
  unfold sp_l_pond at h
  split at h
  · rfl
  · exact h.elim
def t_l_pond : DS :=
  (dSeq (dAsg (dC (.int 0)) (dgName 2))
  (dSeq (dIfS (dB (dOp ltD (dVar 1) (dCB lenD (dCons (dVar 0) dNil)))) (dAsg (dOp ixD (dVar 0) (dVar 1)) (dgName 2)) dNext)
  (dLock (dRet (dLstC (dCons (dCB maxD (dCons (dC (.int 0)) (dCons (dOp subD (dVar 2) (dOp powD (dC (.int 10)) (dC (.int 18)))) dNil))) (dCons (dOp addD (dOp modD (dVar 2) (dOp addD (dOp powD (dC (.int 10)) (dC (.int 38))) (dC (.int 133)))) (dOp mulD (dC (.int 15487469)) (dVar 1))) (dCons (dC (.int 0)) dNil))))))))
theorem rd_l_pond : ∀ zs cs q, sp_l_pond zs cs q → t_l_pond (endD cs.length q) (startD ["_law_script", "_law_k", "_law_cell"] zs) cs := fun zs cs q h => by
  unfold sp_l_pond at h
  split at h
  rotate_left
  · exact h.elim
  rename_i ns j
  obtain ⟨⟨h1, h2⟩, h⟩ := h
  have fin : ∀ c : Int, FinZ cs.length q (.c cs.length) (cs ++ [.lst [.int (max 0 (c - 10 ^ 18)), .int (c % (10 ^ 38 + 133) + 15487469 * j), .int 0]]) := fun c => by
    refine finZ_new (Nat.le_refl _) (get_snoc _ _) ?_
    rw [List.take_left]
    refine h _ ⟨_, _, _, rfl, Int.le_max_left _ _, ?_, ?_, by decide, by decide⟩
    · have := Int.emod_nonneg c (show (10 ^ 38 + 133 : Int) ≠ 0 from by decide)
      omega
    · have := Int.emod_lt_of_pos c (show (0 : Int) < 10 ^ 38 + 133 from by decide)
      omega
  have s10 : Sm 10 := Sm.of (by decide) (by decide)
  have s1 : Sm 15487469 := Sm.of (by decide) (by decide)
  have s2 : Sm j := Sm.of (by omega) (by omega)
  unfold t_l_pond dLock
  by_cases hc : j < (ns.length : Int)
  · obtain ⟨c, e⟩ : ∃ c, atI ns j = some c := ⟨_, at_int h1 (List.getElem?_eq_getElem (by omega))⟩
    walk_at "dl"
    simp only [hc, decide_true, if_true]
    refine ⟨c, e, ?_⟩
    refine ⟨s10, s10, by decide, ⟨s1, s2⟩, ?_⟩
    exact fin c
  · walk_at "dl"
    simp only [hc, decide_false, Bool.false_eq_true, if_false]
    refine ⟨s10, s10, by decide, ⟨s1, s2⟩, ?_⟩
    exact fin 0
def sp_l_fish_1 : DSpec := fun zs cs k => match zs, cs with
  | [.c 0, .d (.int b)], x :: rest => ∃ L, Pond L x ∧ (0 < b ∧ b ≤ 10 ^ 30 ∧ L ≤ 10 ^ 12) ∧ ∀ r x', 0 ≤ r → r < b → Pond (L + 1) x' → k (.d (.int r)) (x' :: rest)
  | _, _ => False
theorem len_l_fish_1 : ∀ zs cs q, sp_l_fish_1 zs cs q → zs.length = (["_law_pond_here", "_law_bound"] : List Str).length := fun zs cs q h => by
  unfold sp_l_fish_1 at h
  split at h
  · rfl
  · exact h.elim
def t_l_fish_1 : DS :=
  (dSeq (dIfS (dB (dOp gtD (dVar 1) (dOp powD (dC (.int 10)) (dC (.int 30))))) dNever dNext)
  (dSeq (dIfS (dB (dOp gtD (dOp ixD (dVar 0) (dC (.int 0))) (dC (.int 0)))) (dSeq (dAsg (dOp modD (dOp ixD (dVar 0) (dC (.int 0))) (dVar 1)) (dgName 2))
  (dSeq (dAsg (dOp fdivD (dOp ixD (dVar 0) (dC (.int 0))) (dVar 1)) (dgSet (dVar 0) (dC (.int 0))))
  (dRet (dVar 2)))) dNext)
  (dSeq (dAsg (dOp addD (dOp ixD (dVar 0) (dC (.int 2))) (dC (.int 1))) (dgSet (dVar 0) (dC (.int 2))))
  (dSeq (dAsg (dOp modD (dOp powD (dOp addD (dOp ixD (dVar 0) (dC (.int 1))) (dOp mulD (dC (.int 49979687)) (dOp ixD (dVar 0) (dC (.int 2))))) (dC (.int 3))) (dOp addD (dOp powD (dC (.int 10)) (dC (.int 42))) (dC (.int 63)))) (dgName 4))
  (dSeq (dAsg (dOp modD (dOp powD (dOp addD (dVar 4) (dOp mulD (dC (.int 67867967)) (dOp ixD (dVar 0) (dC (.int 2))))) (dC (.int 3))) (dOp addD (dOp powD (dC (.int 10)) (dC (.int 44))) (dC (.int 57)))) (dgName 4))
  (dRet (dOp modD (dOp fdivD (dVar 4) (dC (.int 786433))) (dVar 1))))))))
theorem rd_l_fish_1 : ∀ zs cs q, sp_l_fish_1 zs cs q → t_l_fish_1 (endD cs.length q) (startD ["_law_pond_here", "_law_bound", "_law_found", "_law_turn", "_law_mixed"] zs) cs := fun zs cs q h => by
  unfold sp_l_fish_1 at h
  split at h
  rotate_left
  · exact h.elim
  rename_i b x rest
  obtain ⟨L, ⟨d, m, c, rfl, d0, m0, m1, c0, c1⟩, ⟨b0, b1, hL⟩, h⟩ := h
  unfold t_l_fish_1
  walk_at "dl"
  have s10 : Sm 10 := Sm.of (by decide) (by decide)
  have s1 : Sm 49979687 := Sm.of (by decide) (by decide)
  have s2 : Sm 67867967 := Sm.of (by decide) (by decide)
  have s3 : Sm (c + 1) := Sm.of (by omega) (by omega)
  have s4 : Sm (m + 49979687 * (c + 1)) := Sm.of (by omega) (by omega)
  refine ⟨s10, ?_⟩
  rw [if_neg (by simpa using b1)]
  by_cases hd : 0 < d
  · rw [if_pos (by simpa using hd)]
    exact ⟨b0, Dv.of b0 (by omega), h _ _ (Int.emod_nonneg _ (by omega)) (Int.emod_lt_of_pos _ b0) ⟨_, _, _, rfl, Int.ediv_nonneg d0 (by omega), m0, m1, c0, by omega⟩⟩
  · rw [if_neg (by simpa using hd)]
    refine ⟨⟨s1, s3⟩, s4, s10, by decide, ⟨s2, s3⟩, ?_, s10, by decide, Dv.of (by decide) (by decide), b0, h _ _ (Int.emod_nonneg _ (by omega)) (Int.emod_lt_of_pos _ b0) ⟨_, _, _, rfl, d0, m0, m1, by omega, by omega⟩⟩
    have g1 := Int.emod_nonneg ((m + 49979687 * (c + 1)) ^ 3) (show (10 ^ 42 + 63 : Int) ≠ 0 from by decide)
    have g2 := Int.emod_lt_of_pos ((m + 49979687 * (c + 1)) ^ 3) (show (0 : Int) < 10 ^ 42 + 63 from by decide)
    generalize (m + 49979687 * (c + 1)) ^ 3 % (10 ^ 42 + 63) = y at g1 g2
    exact Sm.of (by omega) (by omega)
theorem bits_le {b : Int} (h0 : 0 < b) (h : b ≤ 10 ^ 100) : Builtin.Int.intBits b ≤ 340 := by
  unfold Builtin.Int.intBits
  have h2 : b.natAbs < 2 ^ 340 := Nat.lt_of_le_of_lt (show b.natAbs ≤ 10 ^ 100 by omega) (by decide +kernel)
  have h3 := lt_pow_log2 (k := 340) (by decide) h2
  split <;> omega
def sp_l_fish : DSpec := fun zs cs k => match zs, cs with
  | [.c 0, .d (.int b)], x :: rest => ∃ L, Pond L x ∧ (0 < b ∧ b ≤ 10 ^ 100 ∧ L ≤ 10 ^ 11) ∧ ∀ r x', 0 ≤ r → r < b → Pond (L + 10) x' → k (.d (.int r)) (x' :: rest)
  | _, _ => False
theorem len_l_fish : ∀ zs cs q, sp_l_fish zs cs q → zs.length = (["_law_pond_here", "_law_bound"] : List Str).length := fun zs cs q h => by
  unfold sp_l_fish at h
  split at h
  · rfl
  · exact h.elim
def t_l_fish : DS :=
  (dSeq (dIfS (dB (dOp gtD (dVar 1) (dOp powD (dC (.int 10)) (dC (.int 30))))) (dSeq (dAsg (dC (.int 0)) (dgName 2))
  (dSeq (dFor (diR1 (dOp addD (dC (.int 1)) (dOp fdivD (dBits (dVar 1)) (dC (.int 90))))) (dgName 3) (dAsg (dOp addD (dOp mulD (dVar 2) (dOp powD (dC (.int 10)) (dC (.int 30)))) (dCall sp_l_fish_1 (dCons (dVar 0) (dCons (dOp powD (dC (.int 10)) (dC (.int 30))) dNil)))) (dgName 2)))
  (dRet (dOp modD (dVar 2) (dVar 1))))) dNext)
  (dSeq (dIfS (dB (dOp gtD (dOp ixD (dVar 0) (dC (.int 0))) (dC (.int 0)))) (dSeq (dAsg (dOp modD (dOp ixD (dVar 0) (dC (.int 0))) (dVar 1)) (dgName 2))
  (dSeq (dAsg (dOp fdivD (dOp ixD (dVar 0) (dC (.int 0))) (dVar 1)) (dgSet (dVar 0) (dC (.int 0))))
  (dRet (dVar 2)))) dNext)
  (dSeq (dAsg (dOp addD (dOp ixD (dVar 0) (dC (.int 2))) (dC (.int 1))) (dgSet (dVar 0) (dC (.int 2))))
  (dSeq (dAsg (dOp modD (dOp powD (dOp addD (dOp ixD (dVar 0) (dC (.int 1))) (dOp mulD (dC (.int 49979687)) (dOp ixD (dVar 0) (dC (.int 2))))) (dC (.int 3))) (dOp addD (dOp powD (dC (.int 10)) (dC (.int 42))) (dC (.int 63)))) (dgName 4))
  (dSeq (dAsg (dOp modD (dOp powD (dOp addD (dVar 4) (dOp mulD (dC (.int 67867967)) (dOp ixD (dVar 0) (dC (.int 2))))) (dC (.int 3))) (dOp addD (dOp powD (dC (.int 10)) (dC (.int 44))) (dC (.int 57)))) (dgName 4))
  (dRet (dOp modD (dOp fdivD (dVar 4) (dC (.int 786433))) (dVar 1))))))))
theorem rd_l_fish : ∀ zs cs q, sp_l_fish zs cs q → t_l_fish (endD cs.length q) (startD ["_law_pond_here", "_law_bound", "_law_found", "_law_turn", "_law_mixed"] zs) cs := fun zs cs q h => by
  unfold sp_l_fish at h
  split at h
  rotate_left
  · exact h.elim
  rename_i b x rest
  obtain ⟨L, hP, ⟨b0, b1, hL⟩, h⟩ := h
  obtain ⟨d, m, c, rfl, d0, m0, m1, c0, c1⟩ := id hP
  have s10 : Sm 10 := Sm.of (by decide) (by decide)
  by_cases hb : b ≤ 10 ^ 30
  · have key := rd_l_fish_1 [.c 0, .d (.int b)] (.lst [.int d, .int m, .int c] :: rest) q ⟨L, hP, ⟨b0, hb, by omega⟩, fun r x' r0 r1 p => h r x' r0 r1 (p.le (by omega))⟩
    revert key
    have e : decide (10 ^ 30 < b) = false := decide_eq_false (by omega)
    unfold t_l_fish_1 t_l_fish
    walk_at "dl"
    simp only [e, Bool.false_eq_true, if_false]
    exact id
  · have s10 : Sm 10 := Sm.of (by decide) (by decide)
    have sp30 : Sm (10 ^ 30) := Sm.of (by decide) (by decide)
    have bl := bits_le b0 b1
    unfold t_l_fish
    walk_at "dl"
    refine ⟨s10, ?_⟩
    rw [if_pos (by simpa using hb)]
    refine dFor_mk (rgD 0 (1 + (Builtin.Int.intBits b : Int) / 90).toNat) yes (.lst [.int d, .int m, .int c] :: rest) (fun K h => ?_) (fun i en cs => ∃ (f : Int) (x : D) (o3 o4 : Option Z), en = [some (.c 0), some (.d (.int b)), some (.d (.int f)), o3, o4] ∧ cs = x :: rest ∧ 0 ≤ f ∧ f < (10 ^ 30) ^ i ∧ Pond (L + i) x) ?_ (fun i d en cs hd hI => ?_) (fun en cs hI => ?_) (fun _ _ _ _ => trivial)
    · walk_at "dl"
      exact ⟨Dv.of (by decide) (by decide), ⟨by omega, by omega⟩, h⟩
    · exact ⟨0, _, _, _, rfl, rfl, by decide, by decide, hP⟩
    · obtain ⟨hi, rfl⟩ := rgD_get hd
      obtain ⟨f, x, o3, o4, rfl, rfl, f0, f1, hp⟩ := hI
      have hi2 : i ≤ 4 := by omega
      have f2 : f < 10 ^ 120 := Int.lt_of_lt_of_le f1 (by
        have : i = 0 ∨ i = 1 ∨ i = 2 ∨ i = 3 ∨ i = 4 := by omega
        rcases this with rfl | rfl | rfl | rfl | rfl <;> decide)
      walk_at "dl"
      refine ⟨s10, ⟨Sm.of (by omega) (by omega), sp30⟩, s10, ?_⟩
      simp only [sp_l_fish_1]
      refine ⟨L + i, hp, ⟨by decide, by decide, by omega⟩, fun r x' r0 r1 p => ?_⟩
      refine .inl ⟨_, _, _, _, rfl, rfl, by omega, ?_, p⟩
      rw [show (10 ^ 30 : Int) ^ (i + 1) = (10 ^ 30) ^ i * 10 ^ 30 from Int.pow_succ _ _]
      generalize (10 ^ 30 : Int) ^ i = y at f1 ⊢
      omega
    · obtain ⟨f, x, o3, o4, rfl, rfl, f0, f1, hp⟩ := hI
      walk_at "dl"
      rw [rgD_len] at hp
      exact ⟨b0, h _ _ (Int.emod_nonneg _ (by omega)) (Int.emod_lt_of_pos _ b0) (hp.le (by omega))⟩
theorem fish_use {L : Nat} {x : D} {rest : Cs} {b : Int} {k : Z → Cs → Prop} (hp : Pond L x) (hb : 0 < b ∧ b ≤ 10 ^ 100 ∧ L ≤ 10 ^ 11) (h : ∀ r x', 0 ≤ r → r < b → Pond (L + 10) x' → k (.d (.int r)) (x' :: rest)) :
    sp_l_fish [.c 0, .d (.int b)] (x :: rest) k := ⟨L, hp, hb, h⟩
end K01
set_option Elab.async false
set_option linter.all false
set_option maxRecDepth 100000
set_option maxHeartbeats 2000000
set_option autoImplicit false
namespace K51
open PySem L2 DL K01
local macro_rules | `(tactic| walk_at "dl") => `(tactic| simp only [dSeq, dNext, dBreak, dCont, dDrop, dRet, dRetN, dIfS, dNever, dAsg, dPar, dPutK, dAppend, dExtend, dCall, dVar, dC, dOp, dChain, dUn, dB, dNot, dAnd, dOr, dAndV, dOrV, dNotV, dIf, dNil, dCons, dTup, dLst, dLstC, dCB, dInK, dGetK, dDicC, dNoPart, dPart, dSl, dBits, dRev,
  dgName, dgsNil, dgsCons, dgTup, dgSet, diSeq, diR1, e_diR2, e_r2, diEnum, startD, endD, finZ_d, finD, finC, List.take_length, dYes, wipeD, ix0, ix1, ix2, get_snoc, set_snoc, take_snoc,
  dOpC, dSlC, dListC, e_addC, e_mulC, e_loCl, e_loCt, e_loCs, e_wd, e_wc0, e_wcs, e_wsn, e_wc1, e_wc2, e_wl0, e_wl1, e_dl0, e_dl1, e_sl, e_st, e_ss, e_addi, e_adds, e_addt, e_addl, e_sub, e_muli, e_mult, e_mull, e_fdiv, e_mod, e_pow, e_neg, e_lt, e_le, e_gt, e_ge, e_eqi, e_eqs, e_eql, e_eqt, e_eqb, e_eqn, e_nei, e_nes, e_nel, e_net, e_neb, e_nen, e_isb, e_isn, e_inb, e_inn, e_in1, e_in2, e_in3, e_in4, e_in5,
  e_ixt, e_ixl, e_ixs, e_at0, e_at1, e_at2, e_at3, e_at4, e_at5, e_atl, e_keyi, e_keys, e_lenl, e_lent, e_lens, e_lend, e_maxi, e_mini, e_maxl, e_minl, e_sum, e_all, e_any, e_inti, e_intb, e_abs, e_tol, e_tot, e_tos, e_lol, e_lot, e_los, e_sll, e_slt, e_rvl, e_rvt, e_repr, e_isi,
  List.map_cons, List.map_nil, List.length_cons, List.length_nil, List.cons_append, List.nil_append, List.replicate_succ, List.replicate_zero, List.getElem?_cons_zero, List.getElem?_cons_succ, List.set_cons_zero, List.set_cons_succ, Nat.reduceSub, Nat.reduceAdd, Int.reduceToNat, Int.reduceLE, Int.reduceLT, Int.reduceNeg, Nat.reduceLeDiff, Nat.reduceLT, Nat.zero_add, Option.some.injEq, Z.d.injEq, Z.c.injEq, D.bl.injEq, D.int.injEq, D.tup.injEq, D.lst.injEq,
  List.take_succ_cons, List.take_zero, exists_eq_left', exists_eq_left, true_and, and_true, if_true, Bool.not_true, Bool.not_false, Bool.false_eq_true, if_false, decide_true, decide_false])
/-! ### records -/
theorem sm_div {n c : Int} (h1 : -(10 ^ 150) < n) (h2 : n < 10 ^ 150) (hc : 0 < c) : Sm (n / c) := by
  have a : n / c < 10 ^ 150 := Int.ediv_lt_of_lt_mul hc (by
    have := Int.mul_le_mul_of_nonneg_left (show 1 ≤ c by omega) (show (0 : Int) ≤ 10 ^ 150 by decide)
    omega)
  have b : -(10 ^ 150) ≤ n / c := Int.le_ediv_of_mul_le hc (by
    have := Int.mul_le_mul_of_nonneg_left (show 1 ≤ c by omega) (show (0 : Int) ≤ 10 ^ 150 by decide)
    rw [Int.neg_mul]
    omega)
  exact Sm.of (by omega) (by omega)
def sp_is_record : DSpec := fun zs cs k => match zs with
  | [.d (.tup [.int _, .int _])] => k (.d (.bl true)) cs
  | _ => False
theorem len_is_record : ∀ zs cs q, sp_is_record zs cs q → zs.length = (["value"] : List Str).length := fun zs cs q h => by
  unfold sp_is_record at h
  split at h
  · rfl
  · exact h.elim
def t_is_record : DS :=
  (dRet (dAndV (dCB (isiN "tuple") (dCons (dVar 0) (dCons (dC (.ty "tuple")) dNil))) (dAndV (dOp eqUD (dCB lenD (dCons (dVar 0) dNil)) (dC (.int 2))) (dAndV (dCall sp_is_int (dCons (dOp ixD (dVar 0) (dC (.int 0))) dNil)) (dCall sp_is_int (dCons (dOp ixD (dVar 0) (dC (.int 1))) dNil))))))
theorem rd_is_record : ∀ zs cs q, sp_is_record zs cs q → t_is_record (endD cs.length q) (startD ["value"] zs) cs := fun zs cs q h => by
  unfold sp_is_record at h
  split at h
  rotate_left
  · exact h.elim
  rename_i a b
  have hk : kitB (tyD (.tup [.int a, .int b])) "tuple" = some true := kit_tup rfl
  unfold t_is_record
  walk_at "dl"
  rw [hk]
  walk_at "dl"
  simp only [sp_is_int]
  simp_all [isInt, pyOk, finZ_self]
def sp_require_records : DSpec := fun zs cs k => match zs with
  | [.d (.int c), .d (.int t), .d (.lst xs)] => ∃ ps, xs = grD ps ∧ (1 ≤ c ∧ c ≤ 10 ^ 30 ∧ 0 ≤ t ∧ t ≤ 10 ^ 30 ∧ 1 ≤ ps.length ∧ ps.length ≤ 40) ∧ k (.d .non) cs
  | _ => False
theorem len_require_records : ∀ zs cs q, sp_require_records zs cs q → zs.length = (["cycle", "travel", "value"] : List Str).length := fun zs cs q h => by
  unfold sp_require_records at h
  split at h
  · rfl
  · exact h.elim
def t_require_records : DS :=
  (dSeq (dDrop (dCall sp_require_cycle (dCons (dVar 0) dNil)))
  (dSeq (dIfS (dNot (dB (dCall sp_in_range (dCons (dVar 1) (dCons (dC (.int 0)) (dCons (dC (.int 1000000000000000000000000000000)) dNil)))))) dNever dNext)
  (dSeq (dIfS (dOr (dNot (dB (dCB (isiN "list") (dCons (dVar 2) (dCons (dC (.ty "list")) dNil))))) (dNot (dB (dChain leD leD (dC (.int 1)) (dCB lenD (dCons (dVar 2) dNil)) (dC (.int 40)))))) dNever dNext)
  (dFor (diEnum (dVar 2)) (dgTup 2 (dgsCons (dgName 3) (dgsCons (dgName 4) dgsNil))) (dIfS (dNot (dB (dCall sp_is_record (dCons (dVar 4) dNil)))) dNever dNext)))))
theorem rd_require_records : ∀ zs cs q, sp_require_records zs cs q → t_require_records (endD cs.length q) (startD ["cycle", "travel", "value", "row", "record"] zs) cs := fun zs cs q h => by
  unfold sp_require_records at h
  split at h
  rotate_left
  · exact h.elim
  rename_i c t xs
  obtain ⟨ps, rfl, ⟨c1, c2, t1, t2, l1, l2⟩, h⟩ := h
  have hk : kitB (tyD (.lst (grD ps))) "list" = some true := by
    show kitB "list" "list" = some true
    decide +kernel
  unfold t_require_records
  walk_at "dl"
  simp only [sp_require_cycle, sp_in_range]
  have e1 : inRange (.int c) 1 (10 ^ 30) = true := by simp only [inRange, c1, c2, decide_true, Bool.and_self]
  have e2 : inRange (.int t) 0 1000000000000000000000000000000 = true := by
    have : t ≤ 1000000000000000000000000000000 := by omega
    simp only [inRange, t1, this, decide_true, Bool.and_self]
  have g1 : (1 : Int) ≤ ((grD ps).length : Int) := by rw [len_grD]; omega
  have g2 : ((grD ps).length : Int) ≤ 40 := by rw [len_grD]; omega
  refine ⟨⟨rfl, e1⟩, rfl, ?_⟩
  rw [e2, hk]
  walk_at "dl"
  simp only [g1, g2]
  walk_at "dl"
  refine dFor_mk (enumD (grD ps)) yes cs (fun K h => by walk_at "dl"; exact h) (fun i en c1 => ∃ o3 o4 : Option Z, en = [some (.d (.int c)), some (.d (.int t)), some (.d (.lst (grD ps))), o3, o4] ∧ c1 = cs) ⟨_, _, rfl, rfl⟩ (fun i d en c1 hd hI => ?_) (fun en c1 hI => ?_) (fun _ _ _ _ => trivial)
  · obtain ⟨o3, o4, rfl, rfl⟩ := hI
    obtain ⟨d, hd1, rfl⟩ := enumD_get hd
    obtain ⟨g, hq, rfl⟩ := get_grD hd1
    simp only [prD]
    walk_at "dl"
    simp only [sp_is_record]
    walk_at "dl"
    exact .inl ⟨_, _, rfl, rfl⟩
  · obtain ⟨o3, o4, rfl, rfl⟩ := hI
    walk_at "dl"
    exact h
def ov (c : Int) (p q : Int × Int) : Bool := decide (q.2 < p.2 + (q.1 - p.1) / c * c)
def Sml (p : Int × Int) : Prop := -(10 ^ 100) ≤ p.1 ∧ p.1 ≤ 10 ^ 100 ∧ -(10 ^ 100) ≤ p.2 ∧ p.2 ≤ 10 ^ 100
def sp_overtakes : DSpec := fun zs cs k => match zs with
  | [.d (.int c), .d (.tup [.int a, .int b]), .d (.tup [.int x, .int y])] => (0 < c ∧ c ≤ 10 ^ 30 ∧ Sml (a, b) ∧ Sml (x, y)) ∧ k (.d (.bl (ov c (a, b) (x, y)))) cs
  | _ => False
theorem len_overtakes : ∀ zs cs q, sp_overtakes zs cs q → zs.length = (["cycle", "one", "other"] : List Str).length := fun zs cs q h => by
  unfold sp_overtakes at h
  split at h
  · rfl
  · exact h.elim
def t_overtakes : DS :=
  (dSeq (dAsg (dOp fdivD (dOp subD (dOp ixD (dVar 2) (dC (.int 0))) (dOp ixD (dVar 1) (dC (.int 0)))) (dVar 0)) (dgName 3))
  (dRet (dOp gtD (dOp addD (dOp ixD (dVar 1) (dC (.int 1))) (dOp mulD (dVar 3) (dVar 0))) (dOp ixD (dVar 2) (dC (.int 1))))))
theorem rd_overtakes : ∀ zs cs q, sp_overtakes zs cs q → t_overtakes (endD cs.length q) (startD ["cycle", "one", "other", "turns"] zs) cs := fun zs cs q h => by
  unfold sp_overtakes at h
  split at h
  rotate_left
  · exact h.elim
  rename_i c a b x y
  obtain ⟨⟨c1, c2, ⟨a0, a1, b0, b1⟩, x0, x1, y0, y1⟩, h⟩ := h
  simp only at a0 a1 b0 b1 x0 x1 y0 y1
  unfold t_overtakes
  walk_at "dl"
  exact ⟨Dv.of c1 (by omega), ⟨sm_div (by omega) (by omega) c1, Sm.of (by omega) (by omega)⟩, h⟩
def fitB (c t : Int) (ps : List (Int × Int)) : Bool := ps.all fun p => !decide (p.2 - p.1 < t) && ps.all fun q => !ov c p q
theorem fit_iff (c t : Int) (ps : List (Int × Int)) : fitB c t ps = true ↔ ∀ p ∈ ps, ¬ (p.2 - p.1 < t) ∧ ∀ q ∈ ps, ov c p q = false := by
  unfold fitB
  simp only [List.all_eq_true, Bool.and_eq_true, Bool.not_eq_true', decide_eq_false_iff_not]
theorem ov_self (c : Int) (p : Int × Int) : ov c p p = false := by
  unfold ov
  rw [Int.sub_self, Int.zero_ediv, Int.zero_mul, Int.add_zero]
  exact decide_eq_false (Int.lt_irrefl _)
theorem fit_of {c t : Int} {ps : List (Int × Int)} (h : ∀ (a : Nat) (p : Int × Int), ps[a]? = some p → ¬ (p.2 - p.1 < t) ∧ ∀ (b : Nat) (q : Int × Int), a < b → ps[b]? = some q → ov c p q = false ∧ ov c q p = false) : fitB c t ps = true := by
  rw [fit_iff]
  intro p hp
  obtain ⟨a, ha⟩ := List.getElem?_of_mem hp
  refine ⟨(h a p ha).1, fun q hq => ?_⟩
  obtain ⟨b, hb⟩ := List.getElem?_of_mem hq
  rcases Nat.lt_trichotomy a b with g | g | g
  · exact ((h a p ha).2 b q g hb).1
  · subst g
    rw [ha] at hb
    cases hb
    exact ov_self c p
  · exact ((h b q hb).2 a p g ha).2
theorem fit_no1 {c t : Int} {ps : List (Int × Int)} {p : Int × Int} (hp : p ∈ ps) (h : p.2 - p.1 < t) : fitB c t ps = false := by
  cases e : fitB c t ps with
  | false => rfl
  | true => exact absurd h ((fit_iff c t ps).mp e p hp).1
theorem fit_no2 {c t : Int} {ps : List (Int × Int)} {p q : Int × Int} (hp : p ∈ ps) (hq : q ∈ ps) (h : ov c p q = true) : fitB c t ps = false := by
  cases e : fitB c t ps with
  | false => rfl
  | true =>
    have := ((fit_iff c t ps).mp e p hp).2 q hq
    rw [h] at this
    cases this
def sp_first_contradiction : DSpec := fun zs cs k => match zs with
  | [.d (.int c), .d (.int t), .d (.lst xs)] => ∃ ps, xs = grD ps ∧ (0 < c ∧ c ≤ 10 ^ 30 ∧ ps.length ≤ 1000 ∧ ∀ p ∈ ps, Sml p) ∧ ∀ z, isNonD z = fitB c t ps → k (.d z) cs
  | _ => False
theorem len_first_contradiction : ∀ zs cs q, sp_first_contradiction zs cs q → zs.length = (["cycle", "travel", "records"] : List Str).length := fun zs cs q h => by
  unfold sp_first_contradiction at h
  split at h
  · rfl
  · exact h.elim
def t_first_contradiction : DS :=
  (dSeq (dFor (diEnum (dVar 2)) (dgTup 2 (dgsCons (dgName 3) (dgsCons (dgName 4) dgsNil))) (dSeq (dIfS (dB (dOp ltD (dOp subD (dOp ixD (dVar 4) (dC (.int 1))) (dOp ixD (dVar 4) (dC (.int 0)))) (dVar 1))) (dRet (dTup (dCons (dVar 3) (dCons (dVar 3) dNil)))) dNext)
  (dFor (diR2 (dOp addD (dVar 3) (dC (.int 1))) (dCB lenD (dCons (dVar 2) dNil))) (dgName 5) (dIfS (dOr (dB (dCall sp_overtakes (dCons (dVar 0) (dCons (dVar 4) (dCons (dOp ixD (dVar 2) (dVar 5)) dNil))))) (dB (dCall sp_overtakes (dCons (dVar 0) (dCons (dOp ixD (dVar 2) (dVar 5)) (dCons (dVar 4) dNil)))))) (dRet (dTup (dCons (dVar 3) (dCons (dVar 5) dNil)))) dNext))))
  (dRet (dC .non)))
theorem rd_first_contradiction : ∀ zs cs q, sp_first_contradiction zs cs q → t_first_contradiction (endD cs.length q) (startD ["cycle", "travel", "records", "first", "one", "second"] zs) cs := fun zs cs q h => by
  unfold sp_first_contradiction at h
  split at h
  rotate_left
  · exact h.elim
  rename_i c t xs
  obtain ⟨ps, rfl, ⟨c1, c2, hl, hs⟩, h⟩ := h
  unfold t_first_contradiction
  walk_at "dl"
  refine dFor_mk (enumD (grD ps)) yes cs (fun K h => by walk_at "dl"; exact h) (fun i en cx => ∃ o3 o4 o5 : Option Z, en = [some (.d (.int c)), some (.d (.int t)), some (.d (.lst (grD ps))), o3, o4, o5] ∧ cx = cs ∧
    ∀ (a : Nat) (p : Int × Int), a < i → ps[a]? = some p → ¬ (p.2 - p.1 < t) ∧ ∀ (b : Nat) (q : Int × Int), a < b → ps[b]? = some q → ov c p q = false ∧ ov c q p = false) ⟨_, _, _, rfl, rfl, fun a p ha => absurd ha (Nat.not_lt_zero _)⟩ (fun i d en cx hd hI => ?_) (fun en cx hI => ?_) (fun _ _ _ _ => trivial)
  · obtain ⟨o3, o4, o5, rfl, rfl, hi⟩ := hI
    obtain ⟨d, hd1, rfl⟩ := enumD_get hd
    obtain ⟨⟨a, b⟩, hq, rfl⟩ := get_grD hd1
    have hm := List.mem_of_getElem? hq
    have hil := (List.getElem?_eq_some_iff.mp hq).1
    simp only [prD]
    walk_at "dl"
    by_cases ht : b - a < t
    · simp only [ht]
      walk_at "dl"
      exact h _ (fit_no1 hm ht).symm
    · simp only [ht]
      walk_at "dl"
      refine dFor_mk (rgD ((i : Int) + 1) (((grD ps).length : Int) - ((i : Int) + 1)).toNat) yes cx (fun K h => by walk_at "dl"; exact ⟨⟨⟨by omega, by omega⟩, by omega, by rw [len_grD]; omega⟩, h⟩) (fun j en cy => ∃ o5 : Option Z, en = [some (.d (.int c)), some (.d (.int t)), some (.d (.lst (grD ps))), some (.d (.int i)), some (.d (.tup [.int a, .int b])), o5] ∧ cy = cx ∧
        ∀ (e : Nat) (q : Int × Int), i < e → e < i + 1 + j → ps[e]? = some q → ov c (a, b) q = false ∧ ov c q (a, b) = false) ⟨_, rfl, rfl, fun e q h1 h2 => by omega⟩ (fun j d en cy hd2 hI => ?_) (fun en cy hI => ?_) (fun _ _ _ _ => trivial)
      · obtain ⟨o5, rfl, rfl, hj⟩ := hI
        obtain ⟨hj2, rfl⟩ := rgD_get hd2
        rw [len_grD] at hj2
        obtain ⟨⟨x, y⟩, hx⟩ : ∃ g, ps[i + 1 + j]? = some g := ⟨_, List.getElem?_eq_getElem (by omega)⟩
        have hmx := List.mem_of_getElem? hx
        have ix : atI (grD ps) ((i : Int) + 1 + (j : Int)) = some (.tup [.int x, .int y]) := at_int (by omega) (by
          rw [show ((i : Int) + 1 + (j : Int)).toNat = i + 1 + j by omega, grD, List.getElem?_map, hx]
          rfl)
        walk_at "dl"
        rw [e_at ix]
        refine ⟨⟨c1, c2, hs _ hm, hs _ hmx⟩, ?_⟩
        walk_at "dl"
        have no : ∀ z : D, isNonD z = false → ov c (a, b) (x, y) = true → q (.d z) cy := fun z hz ho => h z (by rw [hz, fit_no2 hm hmx ho])
        have no2 : ∀ z : D, isNonD z = false → ov c (x, y) (a, b) = true → q (.d z) cy := fun z hz ho => h z (by rw [hz, fit_no2 hmx hm ho])
        cases o1 : ov c (a, b) (x, y) with
        | true =>
          walk_at "dl"
          exact no _ rfl o1
        | false =>
          walk_at "dl"
          rw [e_at ix]
          refine ⟨⟨c1, c2, hs _ hmx, hs _ hm⟩, ?_⟩
          cases o2 : ov c (x, y) (a, b) with
          | true =>
            walk_at "dl"
            exact no2 _ rfl o2
          | false =>
            walk_at "dl"
            refine .inl ⟨_, rfl, rfl, fun e g he1 he2 hg => ?_⟩
            by_cases hee : e = i + 1 + j
            · subst hee
              rw [hx] at hg
              cases hg
              exact ⟨o1, o2⟩
            · exact hj e g he1 (by omega) hg
      · obtain ⟨o5, rfl, rfl, hj⟩ := hI
        rw [rgD_len, len_grD] at hj
        refine .inl ⟨_, _, _, rfl, rfl, fun e p he hp => ?_⟩
        by_cases hei : e = i
        · subst hei
          rw [hq] at hp
          cases hp
          exact ⟨ht, fun f q hf hq2 => hj f q hf (by have := (List.getElem?_eq_some_iff.mp hq2).1; omega) hq2⟩
        · exact hi e p (by omega) hp
  · obtain ⟨o3, o4, o5, rfl, rfl, hi⟩ := hI
    rw [enumD_len, len_grD] at hi
    walk_at "dl"
    refine h .non ?_
    rw [fit_of fun a p ha => hi a p (List.getElem?_eq_some_iff.mp ha).1 ha]
    rfl
def sp_fits : DSpec := fun zs cs k => match zs with
  | [.d (.int c), .d (.int t), .d (.lst xs)] => ∃ ps, xs = grD ps ∧ (1 ≤ c ∧ c ≤ 10 ^ 30 ∧ 0 ≤ t ∧ t ≤ 10 ^ 30 ∧ 1 ≤ ps.length ∧ ps.length ≤ 40 ∧ ∀ p ∈ ps, Sml p) ∧ k (.d (.bl (fitB c t ps))) cs
  | _ => False
theorem len_fits : ∀ zs cs q, sp_fits zs cs q → zs.length = (["cycle", "travel", "records"] : List Str).length := fun zs cs q h => by
  unfold sp_fits at h
  split at h
  · rfl
  · exact h.elim
def t_fits : DS :=
  (dSeq (dDrop (dCall sp_require_records (dCons (dVar 0) (dCons (dVar 1) (dCons (dVar 2) dNil)))))
  (dRet (dOp isD (dCall sp_first_contradiction (dCons (dVar 0) (dCons (dVar 1) (dCons (dVar 2) dNil)))) (dC .non))))
theorem rd_fits : ∀ zs cs q, sp_fits zs cs q → t_fits (endD cs.length q) (startD ["cycle", "travel", "records"] zs) cs := fun zs cs q h => by
  unfold sp_fits at h
  split at h
  rotate_left
  · exact h.elim
  rename_i c t xs
  obtain ⟨ps, rfl, ⟨c1, c2, t1, t2, l1, l2, hs⟩, h⟩ := h
  unfold t_fits
  walk_at "dl"
  refine ⟨ps, rfl, ⟨c1, c2, t1, t2, l1, l2⟩, ps, rfl, ⟨by omega, c2, by omega, hs⟩, fun z hz => ?_⟩
  walk_at "dl"
  rw [hz]
  exact h
end K51
set_option Elab.async false
set_option linter.all false
set_option maxRecDepth 100000
set_option maxHeartbeats 2000000
set_option autoImplicit false
namespace K51
open PySem L2 DL K01
local macro_rules | `(tactic| walk_at "dl") => `(tactic| simp only [dSeq, dNext, dBreak, dCont, dDrop, dRet, dRetN, dIfS, dNever, dAsg, dPar, dPutK, dAppend, dExtend, dCall, dVar, dC, dOp, dChain, dUn, dB, dNot, dAnd, dOr, dAndV, dOrV, dNotV, dIf, dNil, dCons, dTup, dLst, dLstC, dCB, dInK, dGetK, dDicC, dNoPart, dPart, dSl, dBits, dRev,
  dgName, dgsNil, dgsCons, dgTup, dgSet, diSeq, diR1, e_diR2, e_r2, diEnum, startD, endD, finZ_d, finD, finC, List.take_length, dYes, wipeD, ix0, ix1, ix2, get_snoc, set_snoc, take_snoc,
  dOpC, dSlC, dListC, e_addC, e_mulC, e_loCl, e_loCt, e_loCs, e_wd, e_wc0, e_wcs, e_wsn, e_wc1, e_wc2, e_wl0, e_wl1, e_dl0, e_dl1, e_sl, e_st, e_ss, e_addi, e_adds, e_addt, e_addl, e_sub, e_muli, e_mult, e_mull, e_fdiv, e_mod, e_pow, e_neg, e_lt, e_le, e_gt, e_ge, e_eqi, e_eqs, e_eql, e_eqt, e_eqb, e_eqn, e_nei, e_nes, e_nel, e_net, e_neb, e_nen, e_isb, e_isn, e_inb, e_inn, e_in1, e_in2, e_in3, e_in4, e_in5,
  e_ixt, e_ixl, e_ixs, e_at0, e_at1, e_at2, e_at3, e_at4, e_at5, e_atl, e_keyi, e_keys, e_lenl, e_lent, e_lens, e_lend, e_maxi, e_mini, e_maxl, e_minl, e_sum, e_all, e_any, e_inti, e_intb, e_abs, e_tol, e_tot, e_tos, e_lol, e_lot, e_los, e_sll, e_slt, e_rvl, e_rvt, e_repr, e_isi,
  List.map_cons, List.map_nil, List.length_cons, List.length_nil, List.cons_append, List.nil_append, List.replicate_succ, List.replicate_zero, List.getElem?_cons_zero, List.getElem?_cons_succ, List.set_cons_zero, List.set_cons_succ, Nat.reduceSub, Nat.reduceAdd, Int.reduceToNat, Int.reduceLE, Int.reduceLT, Int.reduceNeg, Nat.reduceLeDiff, Nat.reduceLT, Nat.zero_add, Option.some.injEq, Z.d.injEq, Z.c.injEq, D.bl.injEq, D.int.injEq, D.tup.injEq, D.lst.injEq,
  List.take_succ_cons, List.take_zero, exists_eq_left', exists_eq_left, true_and, and_true, if_true, Bool.not_true, Bool.not_false, Bool.false_eq_true, if_false, decide_true, decide_false])
def sp_l_against : DSpec := fun zs cs k => match zs with
  | [.d (.int c), .d (.tup [.int a, .int b]), .d (.tup [.int x, .int y])] => 0 < c ∧ k (.d (.bl (ov c (a, b) (x, y)))) cs
  | _ => False
theorem len_l_against : ∀ zs cs q, sp_l_against zs cs q → zs.length = (["_law_span", "_law_one", "_law_other"] : List Str).length := fun zs cs q h => by
  unfold sp_l_against at h
  split at h
  · rfl
  · exact h.elim
def t_l_against : DS :=
  (dSeq (dAsg (dVar 1) (dgName 3))
  (dSeq (dWhile (dB (dOp gtD (dOp ixD (dVar 3) (dC (.int 0))) (dOp ixD (dVar 2) (dC (.int 0))))) (dAsg (dTup (dCons (dOp subD (dOp ixD (dVar 3) (dC (.int 0))) (dVar 0)) (dCons (dOp subD (dOp ixD (dVar 3) (dC (.int 1))) (dVar 0)) dNil))) (dgName 3)))
  (dSeq (dWhile (dB (dOp leD (dOp addD (dOp ixD (dVar 3) (dC (.int 0))) (dVar 0)) (dOp ixD (dVar 2) (dC (.int 0))))) (dAsg (dTup (dCons (dOp addD (dOp ixD (dVar 3) (dC (.int 0))) (dVar 0)) (dCons (dOp addD (dOp ixD (dVar 3) (dC (.int 1))) (dVar 0)) dNil))) (dgName 3)))
  (dRet (dOp gtD (dOp ixD (dVar 3) (dC (.int 1))) (dOp ixD (dVar 2) (dC (.int 1))))))))
theorem turn_of {c n j : Int} (hc : 0 < c) (h1 : c * j ≤ n) (h2 : n < c * j + c) : n / c = j := by
  have e := Int.mul_ediv_add_emod n c
  have m0 := Int.emod_nonneg n (show c ≠ 0 by omega)
  have m1 := Int.emod_lt_of_pos n hc
  have e1 : n = (n - c * j) + c * j := by omega
  rw [e1, Int.add_mul_ediv_left _ _ (by omega), Int.ediv_eq_zero_of_lt (by omega) (by omega)]
  omega
theorem rd_l_against : ∀ zs cs q, sp_l_against zs cs q → t_l_against (endD cs.length q) (startD ["_law_span", "_law_one", "_law_other", "_law_moved"] zs) cs := fun zs cs q h => by
  unfold sp_l_against at h
  split at h
  rotate_left
  · exact h.elim
  rename_i c a b x y
  obtain ⟨hc, h⟩ := h
  unfold t_l_against
  walk_at "dl"
  have dn : ∀ m : Int, c * (m - 1) = c * m - c := fun m => by rw [Int.mul_sub, Int.mul_one]
  have up : ∀ m : Int, c * (m + 1) = c * m + c := fun m => by rw [Int.mul_add, Int.mul_one]
  refine ⟨fun m en cx => ∃ j : Int, en = [some (.d (.int c)), some (.d (.tup [.int a, .int b])), some (.d (.tup [.int x, .int y])), some (.d (.tup [.int (a + c * j), .int (b + c * j)]))] ∧ cx = cs ∧ (a + c * j - x).toNat ≤ m ∧ (0 < j → False) ∧ (j < 0 → x < a + c * j + c), ⟨(a - x).toNat, 0, by rw [Int.mul_zero, Int.add_zero, Int.add_zero], rfl, by rw [Int.mul_zero, Int.add_zero]; exact Nat.le_refl _, fun h => by omega, fun h => by omega⟩, fun m en cx hI => ?_⟩
  obtain ⟨j, rfl, rfl, hm, hj, hj2⟩ := hI
  walk_at "dl"
  by_cases hg : x < a + c * j
  · simp only [hg]
    walk_at "dl"
    refine .inl ⟨m - 1, by omega, j - 1, ?_, rfl, ?_, fun h => hj (by omega), fun _ => ?_⟩
    · rw [dn, show a + (c * j - c) = a + c * j - c by omega, show b + (c * j - c) = b + c * j - c by omega]
    · rw [dn]; omega
    · rw [dn]; omega
  · simp only [hg]
    walk_at "dl"
    refine ⟨fun m en cy => ∃ j : Int, en = [some (.d (.int c)), some (.d (.tup [.int a, .int b])), some (.d (.tup [.int x, .int y])), some (.d (.tup [.int (a + c * j), .int (b + c * j)]))] ∧ cy = cx ∧ (x + c - (a + c * j)).toNat ≤ m ∧ a + c * j ≤ x, ⟨(x + c - (a + c * j)).toNat, j, rfl, rfl, Nat.le_refl _, by omega⟩, fun m en cy hI => ?_⟩
    obtain ⟨j, rfl, rfl, hm, hj⟩ := hI
    walk_at "dl"
    by_cases hl : a + c * j + c ≤ x
    · simp only [hl]
      walk_at "dl"
      refine .inl ⟨m - 1, by omega, j + 1, ?_, rfl, ?_, ?_⟩
      · rw [up, show a + (c * j + c) = a + c * j + c by omega, show b + (c * j + c) = b + c * j + c by omega]
      · rw [up]; omega
      · rw [up]; omega
    · simp only [hl]
      walk_at "dl"
      have e : (x - a) / c = j := turn_of hc (by omega) (by omega)
      have e2 : decide (y < b + c * j) = ov c (a, b) (x, y) := by
        unfold ov
        simp only
        rw [e, Int.mul_comm]
      rw [e2]
      exact h
def sp_l_fit : DSpec := fun zs cs k => match zs with
  | [.d (.int c), .d (.int t), .d (.lst xs)] => ∃ ps, xs = grD ps ∧ (0 < c ∧ ps.length ≤ 1000) ∧ k (.d (.bl (fitB c t ps))) cs
  | _ => False
theorem len_l_fit : ∀ zs cs q, sp_l_fit zs cs q → zs.length = (["_law_span", "_law_ticks", "_law_pairs_here"] : List Str).length := fun zs cs q h => by
  unfold sp_l_fit at h
  split at h
  · rfl
  · exact h.elim
def t_l_fit : DS :=
  (dSeq (dFor (diSeq (dVar 2)) (dgName 3) (dIfS (dOr (dB (dOp ltD (dOp subD (dOp ixD (dVar 3) (dC (.int 1))) (dOp ixD (dVar 3) (dC (.int 0)))) (dVar 1))) (dB (dOp neUD (dLc (diSeq (dVar 2)) (dgName 4) (dB (dCall sp_l_against (dCons (dVar 0) (dCons (dVar 3) (dCons (dVar 4) dNil))))) (dC (.int 1)) [4]) (dLst dNil)))) (dRet (dC (.bl false))) dNext))
  (dRet (dC (.bl true))))
theorem rd_l_fit : ∀ zs cs q, sp_l_fit zs cs q → t_l_fit (endD cs.length q) (startD ["_law_span", "_law_ticks", "_law_pairs_here", "_law_one", "_law_other"] zs) cs := fun zs cs q h => by
  unfold sp_l_fit at h
  split at h
  rotate_left
  · exact h.elim
  rename_i c t xs
  obtain ⟨ps, rfl, ⟨c1, hl⟩, h⟩ := h
  unfold t_l_fit
  walk_at "dl"
  refine dFor_mk (grD ps) yes cs (fun K h => by walk_at "dl"; exact h) (fun i en cx => ∃ o3 o4 : Option Z, en = [some (.d (.int c)), some (.d (.int t)), some (.d (.lst (grD ps))), o3, o4] ∧ cx = cs ∧ ∀ (a : Nat) (p : Int × Int), a < i → ps[a]? = some p → ¬ (p.2 - p.1 < t) ∧ ∀ q ∈ ps, ov c p q = false)
    ⟨_, _, rfl, rfl, fun a p ha => absurd ha (Nat.not_lt_zero _)⟩ (fun i d en cx hd hI => ?_) (fun en cx hI => ?_) (fun _ _ _ _ => trivial)
  · obtain ⟨o3, o4, rfl, rfl, hi⟩ := hI
    obtain ⟨⟨a, b⟩, hq, rfl⟩ := get_grD hd
    have hm := List.mem_of_getElem? hq
    simp only [prD]
    walk_at "dl"
    by_cases ht : b - a < t
    · simp only [ht]
      walk_at "dl"
      rw [fit_no1 hm ht] at h
      exact h
    · simp only [ht]
      walk_at "dl"
      refine dLc_if (grD ps) yes cx (fun K h => by walk_at "dl"; exact h) (fun d => match d with | .tup [.int x, .int y] => if ov c (a, b) (x, y) = true then some (.int 1) else none | _ => none) (by rw [len_grD]; omega) (fun j d acc hd P N hP hN => ?_) ?_ (fun _ => trivial)
      · obtain ⟨⟨x, y⟩, hx, rfl⟩ := get_grD hd
        simp only [prD] at hP hN ⊢
        walk_at "dl"
        refine ⟨c1, ?_⟩
        walk_at "dl"
        cases o : ov c (a, b) (x, y) with
        | true =>
          rw [if_pos rfl]
          exact hP (.int 1) (by rw [o]; rfl)
        | false =>
          rw [if_neg Bool.false_ne_true]
          exact hN (by rw [o]; rfl)
      · walk_at "dl"
        have eo : EqOk (.lst ((grD ps).filterMap fun d => match d with | .tup [.int x, .int y] => if ov c (a, b) (x, y) = true then some (.int 1) else none | _ => none)) := (EqN.lst (e := 0) fun d hd => by
          obtain ⟨z, hz, e⟩ := List.mem_filterMap.mp hd
          obtain ⟨⟨x, y⟩, hg, rfl⟩ := List.mem_map.mp hz
          simp only [prD] at e
          split at e
          · cases e
            exact EqN.int 1
          · cases e).eq (by decide)
        refine ⟨⟨eo, (EqN.lst (e := 0) (ds := []) (fun d hd => by simp at hd)).eq (by decide)⟩, ?_⟩
        rw [eqv_nil]
        by_cases hno : ∀ q ∈ ps, ov c (a, b) q = false
        · have e : ((grD ps).filterMap fun d => match d with | .tup [.int x, .int y] => if ov c (a, b) (x, y) = true then some (.int 1) else none | _ => none) = ([] : List D) := by
            rw [List.filterMap_eq_nil_iff]
            intro d hd
            obtain ⟨⟨x, y⟩, hg, rfl⟩ := List.mem_map.mp hd
            simp only [prD]
            rw [hno _ hg]
            rfl
          rw [e]
          refine .inl ⟨_, _, rfl, rfl, fun e p he hp => ?_⟩
          by_cases hee : e = i
          · subst hee
            rw [hq] at hp
            cases hp
            exact ⟨ht, hno⟩
          · exact hi e p (by omega) hp
        · have ⟨q', hq', ho⟩ : ∃ q ∈ ps, ov c (a, b) q = true := by
            refine Classical.byContradiction fun hn => hno fun q hq => ?_
            cases o : ov c (a, b) q with
            | false => rfl
            | true => exact absurd ⟨q, hq, o⟩ hn
          have e : ((grD ps).filterMap fun d => match d with | .tup [.int x, .int y] => if ov c (a, b) (x, y) = true then some (D.int 1) else none | _ => none).isEmpty = false := by
            have hm2 : D.int 1 ∈ ((grD ps).filterMap fun d => match d with | .tup [.int x, .int y] => if ov c (a, b) (x, y) = true then some (D.int 1) else none | _ => none) := List.mem_filterMap.mpr ⟨prD q', List.mem_map.mpr ⟨q', hq', rfl⟩, by
              obtain ⟨x, y⟩ := q'
              simp only [prD]
              rw [ho]
              rfl⟩
            cases hf : ((grD ps).filterMap fun d => match d with | .tup [.int x, .int y] => if ov c (a, b) (x, y) = true then some (D.int 1) else none | _ => none) with
            | nil => rw [hf] at hm2; cases hm2
            | cons _ _ => rfl
          rw [e]
          rw [fit_no2 hm hq' ho] at h
          exact h
  · obtain ⟨o3, o4, rfl, rfl, hi⟩ := hI
    rw [len_grD] at hi
    walk_at "dl"
    rw [(fit_iff c t ps).mpr fun p hp => by
      obtain ⟨a, ha⟩ := List.getElem?_of_mem hp
      exact hi a p (List.getElem?_eq_some_iff.mp ha).1 ha] at h
    exact h
end K51
set_option Elab.async false
set_option linter.all false
set_option maxRecDepth 100000
set_option maxHeartbeats 2000000
set_option autoImplicit false
namespace K51
open PySem L2 DL K01
local macro_rules | `(tactic| walk_at "dl") => `(tactic| simp only [dSeq, dNext, dBreak, dCont, dDrop, dRet, dRetN, dIfS, dNever, dAsg, dPar, dPutK, dAppend, dExtend, dCall, dVar, dC, dOp, dChain, dUn, dB, dNot, dAnd, dOr, dAndV, dOrV, dNotV, dIf, dNil, dCons, dTup, dLst, dLstC, dCB, dInK, dGetK, dDicC, dNoPart, dPart, dSl, dBits, dRev,
  dgName, dgsNil, dgsCons, dgTup, dgSet, diSeq, diR1, e_diR2, e_r2, diEnum, startD, endD, finZ_d, finD, finC, List.take_length, dYes, wipeD, ix0, ix1, ix2, get_snoc, set_snoc, take_snoc,
  dOpC, dSlC, dListC, e_addC, e_mulC, e_loCl, e_loCt, e_loCs, e_wd, e_wc0, e_wcs, e_wsn, e_wc1, e_wc2, e_wl0, e_wl1, e_dl0, e_dl1, e_sl, e_st, e_ss, e_addi, e_adds, e_addt, e_addl, e_sub, e_muli, e_mult, e_mull, e_fdiv, e_mod, e_pow, e_neg, e_lt, e_le, e_gt, e_ge, e_eqi, e_eqs, e_eql, e_eqt, e_eqb, e_eqn, e_nei, e_nes, e_nel, e_net, e_neb, e_nen, e_isb, e_isn, e_inb, e_inn, e_in1, e_in2, e_in3, e_in4, e_in5,
  e_ixt, e_ixl, e_ixs, e_at0, e_at1, e_at2, e_at3, e_at4, e_at5, e_atl, e_keyi, e_keys, e_lenl, e_lent, e_lens, e_lend, e_maxi, e_mini, e_maxl, e_minl, e_sum, e_all, e_any, e_inti, e_intb, e_abs, e_tol, e_tot, e_tos, e_lol, e_lot, e_los, e_sll, e_slt, e_rvl, e_rvt, e_repr, e_isi,
  List.map_cons, List.map_nil, List.length_cons, List.length_nil, List.cons_append, List.nil_append, List.replicate_succ, List.replicate_zero, List.getElem?_cons_zero, List.getElem?_cons_succ, List.set_cons_zero, List.set_cons_succ, Nat.reduceSub, Nat.reduceAdd, Int.reduceToNat, Int.reduceLE, Int.reduceLT, Int.reduceNeg, Nat.reduceLeDiff, Nat.reduceLT, Nat.zero_add, Option.some.injEq, Z.d.injEq, Z.c.injEq, D.bl.injEq, D.int.injEq, D.tup.injEq, D.lst.injEq,
  List.take_succ_cons, List.take_zero, exists_eq_left', exists_eq_left, true_and, and_true, if_true, Bool.not_true, Bool.not_false, Bool.false_eq_true, if_false, decide_true, decide_false])
theorem get_snoc2 (cs : Cs) (x y : D) : (cs ++ [x] ++ [y])[cs.length]? = some x := by
  rw [List.append_assoc, List.getElem?_append_right (Nat.le_refl _), Nat.sub_self]
  rfl
theorem set_snoc2 (cs : Cs) (x y z : D) : (cs ++ [x] ++ [y]).set cs.length z = cs ++ [z] ++ [y] := by
  rw [List.append_assoc, List.set_append_right _ _ (Nat.le_refl _), Nat.sub_self, List.append_assoc]
  rfl
theorem e_sc {cs : Cs} {n : Nat} {ds : List D} {K : List D → (Cs → Prop) → Prop} (h : cs[n]? = some (D.lst ds)) : seqD cs (.c n) K = K ds (fun c : Cs => c[n]? = some (D.lst ds)) := by
  unfold seqD
  simp only [h]
theorem at_ints {ss : List Int} {r : Int} (h0 : 0 ≤ r) (h : r < (ss.length : Int)) : atI (ss.map D.int) r = some (.int (ss.getD r.toNat 0)) := at_int h0 (by
  rw [List.getElem?_map, List.getD_eq_getElem?_getD, List.getElem?_eq_getElem (show r.toNat < ss.length by omega)]
  rfl)
theorem ix_ints {ss : List Int} {r : Int} (h0 : 0 ≤ r) (h : r < (ss.length : Int)) : ixN (ss.map D.int).length r = some r.toNat := by
  have := ixN_nat (n := (ss.map D.int).length) (i := r.toNat) (by rw [List.length_map]; omega)
  rwa [Int.toNat_of_nonneg h0] at this
theorem set_ints (ss : List Int) (m : Nat) (v : Int) : (ss.map D.int).set m (.int v) = (ss.set m v).map D.int := by rw [List.map_set]
theorem sum_set : ∀ (ss : List Int) (m : Nat) (v : Int), m < ss.length → (ss.set m v).sum = ss.sum - ss.getD m 0 + v
  | [], m, v, h => by simp at h
  | s :: ss, 0, v, h => by
    simp only [List.set_cons_zero, List.sum_cons, List.getD_cons_zero]
    omega
  | s :: ss, m + 1, v, h => by
    simp only [List.set_cons_succ, List.sum_cons, List.getD_cons_succ]
    rw [sum_set ss m v (by simpa using h)]
    omega
theorem mem_set {ss : List Int} {m : Nat} {v : Int} (h : ∀ s ∈ ss, 0 ≤ s) (hv : 0 ≤ v) : ∀ s ∈ ss.set m v, 0 ≤ s := fun s hs => by
  rcases List.mem_or_eq_of_mem_set hs with q | q
  · exact h s q
  · rw [q]; exact hv
theorem getD_nonneg {ss : List Int} (h : ∀ s ∈ ss, 0 ≤ s) (m : Nat) : 0 ≤ ss.getD m 0 := by
  rw [List.getD_eq_getElem?_getD]
  cases q : ss[m]? with
  | none => exact Int.le_refl _
  | some s => exact h s (List.mem_of_getElem? q)
def blD (b : Int × Bool) : D := .tup [.int b.1, .bl b.2]
structure ShOk (n : Int) (bs : List (Int × Bool)) (E : Nat → Int) : Prop where
  len : (bs.length : Int) = n
  get : ∀ i < bs.length, ∃ r, bs[i]? = some (E i, r)
  up : ∀ i < bs.length, E i ≤ E (i + 1)
  last : E bs.length = E 0 + n
  lo : -1000 ≤ E 0
  hi : E 0 ≤ 1000
theorem rep_ones (n : Nat) : (List.replicate n [D.int 1]).flatten = (List.replicate n (1 : Int)).map D.int := by
  induction n with
  | zero => rfl
  | succ n ih => rw [List.replicate_succ, List.replicate_succ, List.flatten_cons, ih]; rfl
def sp_l_shape : DSpec := fun zs cs k => match zs, cs with
  | [.c 0, .d (.int n), .d (.int w)], x :: rest => ∃ L, Pond L x ∧ (1 ≤ n ∧ n ≤ 40 ∧ 1 ≤ w ∧ w ≤ 1000 ∧ L ≤ 10 ^ 9) ∧ ∀ bs E x', ShOk n bs E → Pond (L + 5000) x' → k (.d (.lst (bs.map blD))) (x' :: rest)
  | _, _ => False
theorem len_l_shape : ∀ zs cs q, sp_l_shape zs cs q → zs.length = (["_law_pond_here", "_law_span", "_law_wide"] : List Str).length := fun zs cs q h => by
  unfold sp_l_shape at h
  split at h
  · rfl
  · exact h.elim
def t_l_shape : DS :=
  (dSeq (dAsg (dOpC mulC (dLst (dCons (dC (.int 1)) dNil)) (dVar 1)) (dgName 3))
  (dSeq (dFor (diR1 (dCall sp_l_fish (dCons (dVar 0) (dCons (dOp addD (dOp mulD (dC (.int 2)) (dVar 1)) (dC (.int 1))) dNil)))) (dgName 4) (dSeq (dPar 5 6 (dCons (dCall sp_l_fish (dCons (dVar 0) (dCons (dVar 1) dNil))) (dCons (dCall sp_l_fish (dCons (dVar 0) (dCons (dVar 1) dNil))) dNil)))
  (dSeq (dAsg (dOp ixD (dLst (dCons (dCB minD (dCons (dC (.int 1)) (dCons (dOp ixD (dVar 3) (dVar 5)) dNil))) (dCons (dOp ixD (dVar 3) (dVar 5)) dNil))) (dCall sp_l_fish (dCons (dVar 0) (dCons (dC (.int 2)) dNil)))) (dgName 7))
  (dSeq (dAsg (dOp subD (dOp ixD (dVar 3) (dVar 5)) (dVar 7)) (dgSet (dVar 3) (dVar 5)))
  (dAsg (dOp addD (dOp ixD (dVar 3) (dVar 6)) (dVar 7)) (dgSet (dVar 3) (dVar 6)))))))
  (dSeq (dPar 8 9 (dCons (dOp subD (dCall sp_l_fish (dCons (dVar 0) (dCons (dVar 2) dNil))) (dOp fdivD (dVar 2) (dC (.int 3)))) (dCons (dLstC dNil) dNil)))
  (dSeq (dFor (diSeq (dVar 3)) (dgName 10) (dSeq (dDrop (dAppend (dVar 9) (dTup (dCons (dVar 8) (dCons (dAndV (dOp gtD (dVar 10) (dC (.int 0))) (dOp gtD (dCall sp_l_fish (dCons (dVar 0) (dCons (dC (.int 3)) dNil))) (dC (.int 0)))) dNil)))))
  (dAsg (dOp addD (dVar 8) (dVar 10)) (dgName 8))))
  (dRet (dVar 9))))))
theorem rd_l_shape : ∀ zs cs q, sp_l_shape zs cs q → t_l_shape (endD cs.length q) (startD ["_law_pond_here", "_law_span", "_law_wide", "_law_steps", "_law_turn", "_law_one", "_law_to", "_law_more", "_law_end_here", "_law_found", "_law_step"] zs) cs := fun zs cs q h => by
  unfold sp_l_shape at h
  split at h
  rotate_left
  · exact h.elim
  rename_i n w x rest
  obtain ⟨L, hP, ⟨n1, n40, w1, w2, hL⟩, h⟩ := h
  have s2 : Sm 2 := Sm.of (by decide) (by decide)
  have sn : Sm n := Sm.of (by omega) (by omega)
  unfold t_l_shape
  try walk_at "dl"
  refine ⟨⟨by omega, by omega, ?_⟩, ?_⟩
  · omega
  rw [rep_ones]
  refine dFor_it ?_
  try walk_at "dl"
  refine ⟨⟨s2, sn⟩, fish_use hP ⟨by omega, by omega, by omega⟩ fun m x1 m0 m1 p1 => ?_⟩
  try walk_at "dl"
  refine ⟨⟨by omega, by omega⟩, ?_⟩
  refine dForB_mk (fun i en cx => ∃ (x : D) (ss : List Int) (o4 o5 o6 o7 o8 o9 o10 : Option Z), en = [some (.c 0), some (.d (.int n)), some (.d (.int w)), some (.c (rest.length + 1)), o4, o5, o6, o7, o8, o9, o10] ∧ cx = x :: (rest ++ [.lst (ss.map D.int)]) ∧ (ss.length : Int) = n ∧ (∀ s ∈ ss, 0 ≤ s) ∧ ss.sum = n ∧ Pond (L + 10 + i * 30) x)
    ⟨x1, List.replicate n.toNat 1, _, _, _, _, _, _, _, rfl, rfl, by rw [List.length_replicate]; omega, fun s hs => by rw [List.eq_of_mem_replicate hs]; decide, by
      have : ∀ k : Nat, (List.replicate k (1 : Int)).sum = (k : Int) := fun k => by
        induction k with
        | zero => rfl
        | succ k ih => rw [List.replicate_succ, List.sum_cons, ih]; omega
      rw [this]; omega, p1.le (by omega)⟩ (fun i d en cx hd hI => ?_) (fun en cx hI => ?_) (fun _ _ _ _ => trivial)
  · obtain ⟨hi, rfl⟩ := rgD_get hd
    obtain ⟨x, ss, o4, o5, o6, o7, o8, o9, o10, rfl, rfl, hl, hs, hsum, hp⟩ := hI
    try walk_at "dl"
    refine fish_use hp ⟨by omega, by omega, by omega⟩ fun one x2 one0 one1 p2 => ?_
    try walk_at "dl"
    refine fish_use p2 ⟨by omega, by omega, by omega⟩ fun to x3 to0 to1 p3 => ?_
    try walk_at "dl"
    rw [e_at (at_ints one0 (by omega))]
    try walk_at "dl"
    rw [e_at (at_ints one0 (by omega))]
    refine fish_use p3 ⟨by decide, by decide, by omega⟩ fun r x4 r0 r1 p4 => ?_
    try walk_at "dl"
    have hge := getD_nonneg hs one.toNat
    have pick : ∃ more : Int, 0 ≤ more ∧ more ≤ ss.getD one.toNat 0 ∧ atI [D.int (min 1 (ss.getD one.toNat 0)), .int (ss.getD one.toNat 0)] r = some (.int more) := by
      have : r = 0 ∨ r = 1 := by omega
      rcases this with rfl | rfl
      · exact ⟨min 1 (ss.getD one.toNat 0), by omega, by omega, at0⟩
      · exact ⟨ss.getD one.toNat 0, hge, Int.le_refl _, at1⟩
    obtain ⟨more, mo0, mo1, pick⟩ := pick
    rw [e_at pick]
    rw [e_at (at_ints one0 (by omega))]
    try walk_at "dl"
    refine ⟨_, ix_ints one0 (by omega), ?_⟩
    rw [set_ints]
    try walk_at "dl"
    have l2 : ((ss.set one.toNat (ss.getD one.toNat 0 - more)).length : Int) = n := by rw [List.length_set]; exact hl
    have h2 := mem_set (m := one.toNat) hs (show 0 ≤ ss.getD one.toNat 0 - more by omega)
    have u2 := sum_set ss one.toNat (ss.getD one.toNat 0 - more) (by omega)
    generalize ss.set one.toNat (ss.getD one.toNat 0 - more) = s2 at l2 h2 u2
    rw [e_at (at_ints to0 (by omega))]
    try walk_at "dl"
    have hto := getD_nonneg h2 to.toNat
    refine ⟨_, ix_ints to0 (by omega), ?_⟩
    rw [set_ints]
    refine .inl ⟨x4, _, _, _, _, _, _, _, _, rfl, rfl, by rw [List.length_set]; exact l2, mem_set h2 (by omega), ?_, p4.le (by omega)⟩
    rw [sum_set _ _ _ (by omega), u2]
    omega
  · obtain ⟨x, ss, o4, o5, o6, o7, o8, o9, o10, rfl, rfl, hl, hs, hsum, hp⟩ := hI
    rw [rgD_len] at hp
    try walk_at "dl"
    refine fish_use hp ⟨by omega, by omega, by omega⟩ fun b x2 b0 b1 p2 => ?_
    try walk_at "dl"
    refine ⟨Dv.of (by decide) (by decide), ?_⟩
    refine dFor_it ?_
    try walk_at "dl"
    rw [e_sc (by
      show ((x2 :: (rest ++ [D.lst (ss.map D.int)])) ++ [D.lst []])[rest.length + 1]? = _
      rw [List.cons_append, List.getElem?_cons_succ]
      exact get_snoc2 _ _ _)]
    have EE : ∀ i, i ≤ ss.length → -1000 ≤ b - w / 3 ∧ b - w / 3 ≤ 1000 := fun i _ => by omega
    refine dForB_mk (fun i en cx => ∃ (x : D) (bs : List (Int × Bool)) (o10 : Option Z), en = [some (.c 0), some (.d (.int n)), some (.d (.int w)), some (.c (rest.length + 1)), o4, o5, o6, o7, some (.d (.int (b - w / 3 + (ss.take i).sum))), some (.c ((rest ++ [D.lst (ss.map D.int)]).length + 1)), o10] ∧ cx = x :: (rest ++ [.lst (ss.map D.int)] ++ [.lst (bs.map blD)]) ∧
      bs.length = i ∧ (∀ j < i, ∃ r, bs[j]? = some (b - w / 3 + (ss.take j).sum, r)) ∧ Pond (L + 3000 + i * 10) x)
      ⟨x2, [], _, by rw [List.take_zero, List.sum_nil, Int.add_zero], rfl, rfl, fun j hj => absurd hj (Nat.not_lt_zero _), p2.le (by omega)⟩ (fun i d en cx hd hI => ?_) (fun en cx hI => ?_) (fun i en cx hI => ?_)
    · obtain ⟨x, bs, o10, rfl, rfl, hbl, hb, hp⟩ := hI
      rw [List.getElem?_map] at hd
      obtain ⟨s, hs', rfl⟩ : ∃ s, ss[i]? = some s ∧ d = .int s := by
        cases e : ss[i]? with
        | none => rw [e] at hd; cases hd
        | some s => rw [e] at hd; exact ⟨s, rfl, (Option.some.inj hd).symm⟩
      have hil := (List.getElem?_eq_some_iff.mp hs').1
      have tk : (ss.take (i + 1)).sum = (ss.take i).sum + s := by
        rw [List.take_add_one, hs', List.sum_append]
        simp
      have put : ∀ (r : Bool) (x' : D) (M : Nat), Pond M x' → M ≤ L + 3000 + i * 10 + 10 → Wkn ((rest ++ [D.lst (ss.map D.int)] ++ [D.lst []]).length + 1) (fun en cx => ∃ (x : D) (bs : List (Int × Bool)) (o10 : Option Z), en = [some (.c 0), some (.d (.int n)), some (.d (.int w)), some (.c (rest.length + 1)), o4, o5, o6, o7, some (.d (.int (b - w / 3 + (ss.take (i + 1)).sum))), some (.c ((rest ++ [D.lst (ss.map D.int)]).length + 1)), o10] ∧ cx = x :: (rest ++ [.lst (ss.map D.int)] ++ [.lst (bs.map blD)]) ∧
          bs.length = i + 1 ∧ (∀ j < i + 1, ∃ r, bs[j]? = some (b - w / 3 + (ss.take j).sum, r)) ∧ Pond (L + 3000 + (i + 1) * 10) x)
          [some (.c 0), some (.d (.int n)), some (.d (.int w)), some (.c (rest.length + 1)), o4, o5, o6, o7, some (.d (.int (b - w / 3 + (ss.take i).sum + s))), some (.c ((rest ++ [D.lst (ss.map D.int)]).length + 1)), some (.d (.int s))] (x' :: (rest ++ [.lst (ss.map D.int)] ++ [.lst (bs.map blD ++ [.tup [.int (b - w / 3 + (ss.take i).sum), .bl r]])])) := fun r x' M hp' hM => by
        refine .inl ⟨x', bs ++ [(b - w / 3 + (ss.take i).sum, r)], _, by rw [tk, Int.add_assoc], by rw [List.map_append]; rfl, by rw [List.length_append, hbl]; rfl, fun j hj => ?_, hp'.le (by omega)⟩
        by_cases hji : j = i
        · subst hji
          exact ⟨r, by rw [List.getElem?_append_right (by omega), hbl, Nat.sub_self]; rfl⟩
        · obtain ⟨r', hr'⟩ := hb j (by omega)
          exact ⟨r', by rw [List.getElem?_append_left (by omega)]; exact hr'⟩
      try walk_at "dl"
      by_cases hpos : 0 < s
      · simp only [hpos]
        try walk_at "dl"
        refine fish_use hp ⟨by decide, by decide, by omega⟩ fun r x3 r0 r1 p3 => ?_
        try walk_at "dl"
        exact ⟨by rw [List.length_map]; omega, put _ x3 _ p3 (by omega)⟩
      · simp only [hpos]
        try walk_at "dl"
        exact ⟨by rw [List.length_map]; omega, put _ x _ hp (by omega)⟩
    · obtain ⟨x, bs, o10, rfl, rfl, hbl, hb, hp⟩ := hI
      rw [List.length_map] at hbl hb hp
      try walk_at "dl"
      refine finZ_froz (x := .lst (bs.map blD)) (by rw [List.length_append]; simp) (by rw [List.getElem?_cons_succ]; exact get_snoc _ _) ?_
      rw [show (x :: (rest ++ [D.lst (ss.map D.int)] ++ [D.lst (bs.map blD)])).take (rest.length + 1) = x :: rest by rw [List.take_succ_cons, List.append_assoc, List.take_left]]
      refine h bs (fun i => b - w / 3 + (ss.take i).sum) x ⟨by omega, fun i hi => hb i (by omega), fun i hi => ?_, ?_, ?_, ?_⟩ (hp.le (by omega))
      · show _ ≤ b - w / 3 + (ss.take (i + 1)).sum
        obtain ⟨s, hs'⟩ : ∃ s, ss[i]? = some s := ⟨_, List.getElem?_eq_getElem (by omega)⟩
        rw [List.take_add_one, hs', List.sum_append]
        have := hs s (List.mem_of_getElem? hs')
        simp only [Option.toList_some, List.sum_cons, List.sum_nil]
        omega
      · show b - w / 3 + (ss.take bs.length).sum = b - w / 3 + (ss.take 0).sum + n
        rw [hbl, List.take_length, hsum, List.take_zero, List.sum_nil]
        omega
      · show -1000 ≤ b - w / 3 + (ss.take 0).sum
        rw [List.take_zero, List.sum_nil]
        omega
      · show b - w / 3 + (ss.take 0).sum ≤ 1000
        rw [List.take_zero, List.sum_nil]
        omega
    · obtain ⟨x, bs, o10, rfl, rfl, _⟩ := hI
      show (x :: (rest ++ [D.lst (ss.map D.int)] ++ [D.lst (bs.map blD)]))[rest.length + 1]? = _
      rw [List.getElem?_cons_succ]
      exact get_snoc2 _ _ _
end K51
set_option Elab.async false
set_option linter.all false
set_option maxRecDepth 100000
set_option maxHeartbeats 2000000
set_option autoImplicit false
namespace K51
open PySem L2 DL K01
local macro_rules | `(tactic| walk_at "dl") => `(tactic| simp only [dSeq, dNext, dBreak, dCont, dDrop, dRet, dRetN, dIfS, dNever, dAsg, dPar, dPutK, dAppend, dExtend, dCall, dVar, dC, dOp, dChain, dUn, dB, dNot, dAnd, dOr, dAndV, dOrV, dNotV, dIf, dNil, dCons, dTup, dLst, dLstC, dCB, dInK, dGetK, dDicC, dNoPart, dPart, dSl, dBits, dRev,
  dgName, dgsNil, dgsCons, dgTup, dgSet, diSeq, diR1, e_diR2, e_r2, diEnum, startD, endD, finZ_d, finD, finC, List.take_length, dYes, wipeD, ix0, ix1, ix2, get_snoc, set_snoc, take_snoc,
  dOpC, dSlC, dListC, e_addC, e_mulC, e_loCl, e_loCt, e_loCs, e_wd, e_wc0, e_wcs, e_wsn, e_wc1, e_wc2, e_wl0, e_wl1, e_dl0, e_dl1, e_sl, e_st, e_ss, e_addi, e_adds, e_addt, e_addl, e_sub, e_muli, e_mult, e_mull, e_fdiv, e_mod, e_pow, e_neg, e_lt, e_le, e_gt, e_ge, e_eqi, e_eqs, e_eql, e_eqt, e_eqb, e_eqn, e_nei, e_nes, e_nel, e_net, e_neb, e_nen, e_isb, e_isn, e_inb, e_inn, e_in1, e_in2, e_in3, e_in4, e_in5,
  e_ixt, e_ixl, e_ixs, e_at0, e_at1, e_at2, e_at3, e_at4, e_at5, e_atl, e_keyi, e_keys, e_lenl, e_lent, e_lens, e_lend, e_maxi, e_mini, e_maxl, e_minl, e_sum, e_all, e_any, e_inti, e_intb, e_abs, e_tol, e_tot, e_tos, e_lol, e_lot, e_los, e_sll, e_slt, e_rvl, e_rvt, e_repr, e_isi,
  List.map_cons, List.map_nil, List.length_cons, List.length_nil, List.cons_append, List.nil_append, List.replicate_succ, List.replicate_zero, List.getElem?_cons_zero, List.getElem?_cons_succ, List.set_cons_zero, List.set_cons_succ, Nat.reduceSub, Nat.reduceAdd, Int.reduceToNat, Int.reduceLE, Int.reduceLT, Int.reduceNeg, Nat.reduceLeDiff, Nat.reduceLT, Nat.zero_add, Option.some.injEq, Z.d.injEq, Z.c.injEq, D.bl.injEq, D.int.injEq, D.tup.injEq, D.lst.injEq,
  List.take_succ_cons, List.take_zero, exists_eq_left', exists_eq_left, true_and, and_true, if_true, Bool.not_true, Bool.not_false, Bool.false_eq_true, if_false, decide_true, decide_false])
theorem cut_take {α : Type} (xs : List α) (n : Nat) : cutG xs none (some (n : Int)) = xs.take n := by
  unfold cutG
  rw [HT.sIx_none, HT.sIx_nat, List.drop_zero, Nat.sub_zero]
  by_cases h : n ≤ xs.length
  · rw [Nat.min_eq_left h]
  · rw [Nat.min_eq_right (by omega), List.take_length, List.take_of_length_le (by omega)]
theorem cut_init {α : Type} (xs : List α) (a : α) : cutG (xs ++ [a]) none (some (-1)) = xs := by
  unfold cutG
  have e : HT.sIx (xs ++ [a]).length (xs ++ [a]).length (some (-1)) = xs.length := by
    show (if (-1 : Int) < 0 then ((-1 : Int) + ((xs ++ [a]).length : Int)).toNat else min (-1 : Int).toNat (xs ++ [a]).length) = _
    rw [if_pos (by decide), List.length_append, List.length_cons, List.length_nil]
    omega
  rw [HT.sIx_none, e, List.drop_zero, Nat.sub_zero, List.take_left]
theorem cut_drop {α : Type} (xs : List α) (n : Nat) : cutG xs (some (n : Int)) none = xs.drop n := by
  unfold cutG
  rw [HT.sIx_none, HT.sIx_nat]
  by_cases h : n ≤ xs.length
  · rw [Nat.min_eq_left h, List.take_of_length_le (by rw [List.length_drop]; omega)]
  · rw [Nat.min_eq_right (by omega), Nat.sub_self, List.take_zero, List.drop_of_length_le (by omega)]
def sp_l_end : DSpec := fun zs cs k => match zs with
  | [.d (.int n), .d (.lst xs), .d (.int t)] => ∃ bs : List (Int × Bool), xs = bs.map blD ∧ (1 ≤ n ∧ n ≤ 1000 ∧ (bs.length : Int) = n ∧ -(10 ^ 100) ≤ t ∧ t ≤ 10 ^ 100) ∧ ∀ e r, bs[(t % n).toNat]? = some (e, r) → k (.d (.int (e + t / n * n))) cs
  | _ => False
theorem len_l_end : ∀ zs cs q, sp_l_end zs cs q → zs.length = (["_law_span", "_law_blocks", "_law_t"] : List Str).length := fun zs cs q h => by
  unfold sp_l_end at h
  split at h
  · rfl
  · exact h.elim
def t_l_end : DS :=
  (dRet (dOp addD (dOp ixD (dOp ixD (dVar 1) (dOp modD (dVar 2) (dVar 0))) (dC (.int 0))) (dOp mulD (dOp fdivD (dVar 2) (dVar 0)) (dVar 0))))
theorem rd_l_end : ∀ zs cs q, sp_l_end zs cs q → t_l_end (endD cs.length q) (startD ["_law_span", "_law_blocks", "_law_t"] zs) cs := fun zs cs q h => by
  unfold sp_l_end at h
  split at h
  rotate_left
  · exact h.elim
  rename_i n xs t
  obtain ⟨bs, rfl, ⟨n1, n2, hl, t1, t2⟩, h⟩ := h
  have m0 := Int.emod_nonneg t (show n ≠ 0 by omega)
  have m1 := Int.emod_lt_of_pos t (show 0 < n by omega)
  obtain ⟨⟨e, r⟩, he⟩ : ∃ b, bs[(t % n).toNat]? = some b := ⟨_, List.getElem?_eq_getElem (by omega)⟩
  have ix : atI (bs.map blD) (t % n) = some (.tup [.int e, .bl r]) := at_int m0 (by
    rw [List.getElem?_map, he]
    rfl)
  unfold t_l_end
  walk_at "dl"
  refine ⟨by omega, ?_⟩
  rw [e_at ix]
  walk_at "dl"
  exact ⟨Dv.of (by omega) (by omega), ⟨sm_div (by omega) (by omega) (by omega), Sm.of (by omega) (by omega)⟩, h e r he⟩
def ArrOk (n : Int) (bs : List (Int × Bool)) (p : Int × Int) : Prop := ∃ e r, bs[(p.1 % n).toNat]? = some (e, r) ∧ p.2 = e + p.1 / n * n
def sp_l_pairs : DSpec := fun zs cs k => match zs, cs with
  | [.c 0, .d (.int n), .d (.lst xs), .d (.int m)], x :: rest => ∃ L, ∃ bs : List (Int × Bool), xs = bs.map blD ∧ Pond L x ∧ (1 ≤ n ∧ n ≤ 40 ∧ (bs.length : Int) = n ∧ 0 ≤ m ∧ m ≤ 40 ∧ L ≤ 10 ^ 9) ∧
      ∀ ps x', (ps.length : Int) = m → (∀ p ∈ ps, -1000 ≤ p.1 ∧ p.1 ≤ 1000 ∧ ArrOk n bs p) → Pond (L + 1000) x' → k (.d (.lst (grD ps))) (x' :: rest)
  | _, _ => False
theorem len_l_pairs : ∀ zs cs q, sp_l_pairs zs cs q → zs.length = (["_law_pond_here", "_law_span", "_law_blocks", "_law_many"] : List Str).length := fun zs cs q h => by
  unfold sp_l_pairs at h
  split at h
  · rfl
  · exact h.elim
def t_l_pairs : DS :=
  (dSeq (dAsg (dLstC dNil) (dgName 4))
  (dSeq (dFor (diR1 (dVar 3)) (dgName 5) (dSeq (dAsg (dOp subD (dCall sp_l_fish (dCons (dVar 0) (dCons (dOp mulD (dC (.int 6)) (dVar 1)) dNil))) (dOp mulD (dC (.int 3)) (dVar 1))) (dgName 6))
  (dDrop (dAppend (dVar 4) (dTup (dCons (dVar 6) (dCons (dCall sp_l_end (dCons (dVar 1) (dCons (dVar 2) (dCons (dVar 6) dNil)))) dNil)))))))
  (dRet (dVar 4))))
theorem rd_l_pairs : ∀ zs cs q, sp_l_pairs zs cs q → t_l_pairs (endD cs.length q) (startD ["_law_pond_here", "_law_span", "_law_blocks", "_law_many", "_law_found", "_law_turn", "_law_t"] zs) cs := fun zs cs q h => by
  unfold sp_l_pairs at h
  split at h
  rotate_left
  · exact h.elim
  rename_i n xs m x rest
  obtain ⟨L, bs, rfl, hP, ⟨n1, n40, hl, m0, m40, hL⟩, h⟩ := h
  unfold t_l_pairs
  try walk_at "dl"
  refine dFor_mk (rgD 0 m.toNat) yes (x :: (rest ++ [.lst []])) (fun K h => by walk_at "dl"; exact ⟨⟨by omega, by omega⟩, h⟩) (fun i en cx => ∃ (x : D) (ps : List (Int × Int)) (o5 o6 : Option Z), en = [some (.c 0), some (.d (.int n)), some (.d (.lst (bs.map blD))), some (.d (.int m)), some (.c (rest.length + 1)), o5, o6] ∧ cx = x :: (rest ++ [.lst (grD ps)]) ∧ ps.length = i ∧ (∀ p ∈ ps, -1000 ≤ p.1 ∧ p.1 ≤ 1000 ∧ ArrOk n bs p) ∧ Pond (L + i * 20) x)
    ⟨x, [], _, _, rfl, rfl, rfl, fun p hp => (by simp at hp), hP.le (by omega)⟩ (fun i d en cx hd hI => ?_) (fun en cx hI => ?_) (fun _ _ _ _ => trivial)
  · obtain ⟨hi, rfl⟩ := rgD_get hd
    obtain ⟨x, ps, o5, o6, rfl, rfl, hpl, hps, hp⟩ := hI
    have s6 : Sm 6 := Sm.of (by decide) (by decide)
    have s3 : Sm 3 := Sm.of (by decide) (by decide)
    have sn : Sm n := Sm.of (by omega) (by omega)
    try walk_at "dl"
    refine ⟨⟨s6, sn⟩, fish_use hp ⟨by omega, by omega, by omega⟩ fun r x2 r0 r1 p2 => ?_⟩
    try walk_at "dl"
    refine ⟨⟨s3, sn⟩, bs, rfl, ⟨n1, by omega, hl, by omega, by omega⟩, fun e g he => ?_⟩
    try walk_at "dl"
    refine ⟨by rw [len_grD]; omega, .inl ⟨x2, ps ++ [(r - 3 * n, e + (r - 3 * n) / n * n)], _, _, rfl, ?_, by rw [List.length_append, hpl]; rfl, fun p hp' => ?_, p2.le (by omega)⟩⟩
    · unfold grD
      rw [List.map_append]
      rfl
    · rcases List.mem_append.mp hp' with q1 | q1
      · exact hps p q1
      · have : p = (r - 3 * n, e + (r - 3 * n) / n * n) := by simpa using q1
        subst this
        exact ⟨by show -1000 ≤ r - 3 * n; omega, by show r - 3 * n ≤ 1000; omega, e, g, he, rfl⟩
  · obtain ⟨x, ps, o5, o6, rfl, rfl, hpl, hps, hp⟩ := hI
    rw [rgD_len] at hpl hp
    try walk_at "dl"
    refine finZ_froz (x := .lst (grD ps)) (Nat.le_refl _) (by rw [List.getElem?_cons_succ]; exact get_snoc _ _) ?_
    rw [show (x :: (rest ++ [D.lst (grD ps)])).take (rest.length + 1) = x :: rest by rw [List.take_succ_cons, List.take_left]]
    exact h ps x (by omega) hps (hp.le (by omega))
/-! ### what moving and scaling leave -/
theorem ov_l (c k : Int) (p q : Int × Int) (hc : 0 < c) : ov c (p.1 + k * c, p.2 + k * c) q = ov c p q := by
  unfold ov
  simp only
  rw [decide_eq_decide, show q.1 - (p.1 + k * c) = (q.1 - p.1) + (-k) * c by rw [Int.neg_mul]; omega, Int.add_mul_ediv_right _ _ (by omega), Int.add_mul, Int.neg_mul]
  omega
theorem ov_r (c k : Int) (p q : Int × Int) (hc : 0 < c) : ov c p (q.1 + k * c, q.2 + k * c) = ov c p q := by
  unfold ov
  simp only
  rw [decide_eq_decide, show q.1 + k * c - p.1 = (q.1 - p.1) + k * c by omega, Int.add_mul_ediv_right _ _ (by omega), Int.add_mul]
  omega
theorem ov_sc (c f : Int) (p q : Int × Int) (hc : 0 < c) (hf : 0 < f) : ov (c * f) (p.1 * f, p.2 * f) (q.1 * f, q.2 * f) = ov c p q := by
  unfold ov
  simp only
  rw [decide_eq_decide, ← Int.sub_mul, Int.mul_ediv_mul_of_pos_left _ _ hf, ← Int.mul_assoc, ← Int.add_mul]
  exact ⟨fun h => Int.lt_of_mul_lt_mul_right h (by omega), fun h => Int.mul_lt_mul_of_pos_right h hf⟩
def Rel (c : Int) (p p0 : Int × Int) : Prop := ∃ k : Int, p = (p0.1 + k * c, p0.2 + k * c)
theorem Rel.refl (c : Int) (p : Int × Int) : Rel c p p := ⟨0, by simp⟩
theorem Rel.symm {c : Int} {p q : Int × Int} (h : Rel c p q) : Rel c q p := by
  obtain ⟨k, rfl⟩ := h
  refine ⟨-k, ?_⟩
  simp only [Int.neg_mul]
  exact Prod.ext (by simp only; omega) (by simp only; omega)
theorem fit_rel {c t : Int} {ps qs : List (Int × Int)} (hc : 0 < c) (h : ∀ q ∈ qs, ∃ p ∈ ps, Rel c q p) (hf : fitB c t ps = true) : fitB c t qs = true := by
  rw [fit_iff] at hf ⊢
  intro q hq
  obtain ⟨p, hp, k, rfl⟩ := h q hq
  refine ⟨by simp only; have := (hf p hp).1; omega, fun q' hq' => ?_⟩
  obtain ⟨p', hp', k', rfl⟩ := h q' hq'
  rw [ov_l c k p _ hc, ov_r c k' p p' hc]
  exact (hf p hp).2 p' hp'
theorem fit_same {c t : Int} {ps qs : List (Int × Int)} (hc : 0 < c) (h : ∀ q ∈ qs, ∃ p ∈ ps, Rel c q p) (h' : ∀ p ∈ ps, ∃ q ∈ qs, Rel c p q) : fitB c t qs = fitB c t ps := by
  cases e : fitB c t ps with
  | true => exact fit_rel hc h e
  | false =>
    cases e2 : fitB c t qs with
    | false => rfl
    | true =>
      rw [fit_rel hc h' e2] at e
      cases e
theorem fit_sc (c f t : Int) (ps : List (Int × Int)) (hc : 0 < c) (hf : 0 < f) : fitB (c * f) (t * f) (ps.map fun p => (p.1 * f, p.2 * f)) = fitB c t ps := by
  unfold fitB
  rw [List.all_map]
  congr 1
  funext p
  show (!decide (p.2 * f - p.1 * f < t * f) && (ps.map fun p => (p.1 * f, p.2 * f)).all fun q => !ov (c * f) (p.1 * f, p.2 * f) q) = _
  rw [List.all_map]
  congr 1
  · congr 1
    rw [decide_eq_decide, ← Int.sub_mul]
    exact ⟨fun h => Int.lt_of_mul_lt_mul_right h (by omega), fun h => Int.mul_lt_mul_of_pos_right h hf⟩
  · congr 1
    funext q
    show (!ov (c * f) (p.1 * f, p.2 * f) (q.1 * f, q.2 * f)) = _
    rw [ov_sc c f p q hc hf]
end K51
set_option Elab.async false
set_option linter.all false
set_option maxRecDepth 100000
set_option maxHeartbeats 2000000
set_option autoImplicit false
namespace K51
open PySem L2 DL K01
local macro_rules | `(tactic| walk_at "dl") => `(tactic| simp only [dSeq, dNext, dBreak, dCont, dDrop, dRet, dRetN, dIfS, dNever, dAsg, dPar, dPutK, dAppend, dExtend, dCall, dVar, dC, dOp, dChain, dUn, dB, dNot, dAnd, dOr, dAndV, dOrV, dNotV, dIf, dNil, dCons, dTup, dLst, dLstC, dCB, dInK, dGetK, dDicC, dNoPart, dPart, dSl, dBits, dRev,
  dgName, dgsNil, dgsCons, dgTup, dgSet, diSeq, diR1, e_diR2, e_r2, diEnum, startD, endD, finZ_d, finD, finC, List.take_length, dYes, wipeD, ix0, ix1, ix2, get_snoc, set_snoc, take_snoc,
  dOpC, dSlC, dListC, e_addC, e_mulC, e_loCl, e_loCt, e_loCs, e_wd, e_wc0, e_wcs, e_wsn, e_wc1, e_wc2, e_wl0, e_wl1, e_dl0, e_dl1, e_sl, e_st, e_ss, e_addi, e_adds, e_addt, e_addl, e_sub, e_muli, e_mult, e_mull, e_fdiv, e_mod, e_pow, e_neg, e_lt, e_le, e_gt, e_ge, e_eqi, e_eqs, e_eql, e_eqt, e_eqb, e_eqn, e_nei, e_nes, e_nel, e_net, e_neb, e_nen, e_isb, e_isn, e_inb, e_inn, e_in1, e_in2, e_in3, e_in4, e_in5,
  e_ixt, e_ixl, e_ixs, e_at0, e_at1, e_at2, e_at3, e_at4, e_at5, e_atl, e_keyi, e_keys, e_lenl, e_lent, e_lens, e_lend, e_maxi, e_mini, e_maxl, e_minl, e_sum, e_all, e_any, e_inti, e_intb, e_abs, e_tol, e_tot, e_tos, e_lol, e_lot, e_los, e_sll, e_slt, e_rvl, e_rvt, e_repr, e_isi,
  List.map_cons, List.map_nil, List.length_cons, List.length_nil, List.cons_append, List.nil_append, List.flatten_cons, List.flatten_nil, List.append_nil, List.replicate_succ, List.replicate_zero, List.getElem?_cons_zero, List.getElem?_cons_succ, List.set_cons_zero, List.set_cons_succ, Nat.reduceSub, Nat.reduceAdd, Int.reduceToNat, Int.reduceLE, Int.reduceLT, Int.reduceNeg, Nat.reduceLeDiff, Nat.reduceLT, Nat.zero_add, Option.some.injEq, Z.d.injEq, Z.c.injEq, D.bl.injEq, D.int.injEq, D.tup.injEq, D.lst.injEq,
  List.take_succ_cons, List.take_zero, exists_eq_left', exists_eq_left, true_and, and_true, if_true, Bool.not_true, Bool.not_false, Bool.false_eq_true, if_false, decide_true, decide_false])
theorem ok_pairL (gs : List (Int × Int)) : EqN 2 (.lst (grD gs)) := EqN.lst fun d hd => by
  obtain ⟨g, _, rfl⟩ := List.mem_map.mp hd
  exact EqN.tup fun x hx => by
    rcases List.mem_cons.mp hx with e | hx
    · rw [e]; exact EqN.int _
    · have e : x = .int g.2 := by simpa using hx
      rw [e]; exact EqN.int _
theorem grD_rev (gs : List (Int × Int)) : (grD gs).reverse = grD gs.reverse := by
  unfold grD
  rw [List.map_reverse]
theorem grD_app (a b : List (Int × Int)) : grD a ++ grD b = grD (a ++ b) := by
  unfold grD
  rw [List.map_append]
theorem grD_take (n : Nat) (a : List (Int × Int)) : (grD a).take n = grD (a.take n) := by
  unfold grD
  rw [List.map_take]
theorem grD_drop (n : Nat) (a : List (Int × Int)) : (grD a).drop n = grD (a.drop n) := by
  unfold grD
  rw [List.map_drop]
def Near (p : Int × Int) : Prop := -(10 ^ 6) ≤ p.1 ∧ p.1 ≤ 10 ^ 6 ∧ -(10 ^ 6) ≤ p.2 ∧ p.2 ≤ 10 ^ 6
theorem mul_bd {a b A B : Int} (h1 : -A ≤ a) (h2 : a ≤ A) (h3 : 0 ≤ b) (h4 : b ≤ B) (hA : 0 ≤ A) : -(A * B) ≤ a * b ∧ a * b ≤ A * B := by
  have e1 : a * b ≤ A * b := Int.mul_le_mul_of_nonneg_right h2 h3
  have e2 : -A * b ≤ a * b := Int.mul_le_mul_of_nonneg_right h1 h3
  have e3 : A * b ≤ A * B := Int.mul_le_mul_of_nonneg_left h4 hA
  rw [Int.neg_mul] at e2
  omega
def sp_l_right : DSpec := fun zs cs k => match zs, cs with
  | [.c 0, .d (.int n), .d (.int t), .d (.lst xs)], x :: rest => ∃ L ps, xs = grD ps ∧ Pond L x ∧ (1 ≤ n ∧ n ≤ 40 ∧ 0 ≤ t ∧ t ≤ 10 ^ 6 ∧ 1 ≤ ps.length ∧ ps.length ≤ 40 ∧ (∀ p ∈ ps, Near p) ∧ L ≤ 10 ^ 9) ∧ ∀ x', Pond (L + 100) x' → k (.d (.bl true)) (x' :: rest)
  | _, _ => False
theorem len_l_right : ∀ zs cs q, sp_l_right zs cs q → zs.length = (["_law_pond_here", "_law_span", "_law_ticks", "_law_pairs_here"] : List Str).length := fun zs cs q h => by
  unfold sp_l_right at h
  split at h
  · rfl
  · exact h.elim
def t_l_right : DS :=
  (dSeq (dAsg (dCall sp_l_fit (dCons (dVar 1) (dCons (dVar 2) (dCons (dVar 3) dNil)))) (dgName 4))
  (dSeq (dAsg (dTup (dCons (dOp addD (dC (.int 1)) (dCall sp_l_fish (dCons (dVar 0) (dCons (dOp fdivD (dOp powD (dC (.int 10)) (dC (.int 30))) (dOp addD (dVar 1) (dVar 2))) dNil)))) (dCons (dCall sp_l_fish (dCons (dVar 0) (dCons (dOp powD (dC (.int 10)) (dC (.int 40))) dNil))) dNil))) (dgTup 2 (dgsCons (dgName 5) (dgsCons (dgName 6) dgsNil))))
  (dSeq (dAsg (dLc (diSeq (dVar 3)) (dgTup 2 (dgsCons (dgName 10) (dgsCons (dgName 11) dgsNil))) dYes (dTup (dCons (dOp mulD (dVar 10) (dVar 5)) (dCons (dOp mulD (dVar 11) (dVar 5)) dNil))) [10, 11]) (dgName 7))
  (dSeq (dAsg (dLc (diSeq (dRev (dVar 3))) (dgTup 2 (dgsCons (dgName 10) (dgsCons (dgName 11) dgsNil))) dYes (dTup (dCons (dOp addD (dVar 10) (dOp mulD (dVar 6) (dVar 1))) (dCons (dOp addD (dVar 11) (dOp mulD (dVar 6) (dVar 1))) dNil))) [10, 11]) (dgName 8))
  (dSeq (dAsg (dLst (dCons (dCall sp_fits (dCons (dVar 1) (dCons (dVar 2) (dCons (dVar 3) dNil)))) (dCons (dCall sp_fits (dCons (dVar 1) (dCons (dVar 2) (dCons (dVar 8) dNil)))) (dCons (dCall sp_fits (dCons (dOp mulD (dVar 1) (dVar 5)) (dCons (dOp mulD (dVar 2) (dVar 5)) (dCons (dVar 7) dNil)))) dNil)))) (dgName 9))
  (dSeq (dAsg (dOp addD (dVar 9) (dLst (dCons (dCall sp_fits (dCons (dVar 1) (dCons (dVar 2) (dCons (dSl (dOp addD (dVar 3) (dVar 3)) dNoPart (dPart (dC (.int 40)))) dNil)))) (dCons (dCall sp_fits (dCons (dVar 1) (dCons (dVar 2) (dCons (dOp addD (dSl (dVar 8) dNoPart (dPart (dC (.int 1)))) (dSl (dVar 3) dNoPart (dPart (dUn negD (dC (.int 1)))))) dNil)))) dNil)))) (dgName 9))
  (dRet (dOp eqUD (dCB reprD (dCons (dVar 9) dNil)) (dCB reprD (dCons (dOp mulD (dLst (dCons (dVar 4) dNil)) (dC (.int 5))) dNil))))))))))
theorem rd_l_right : ∀ zs cs q, sp_l_right zs cs q → t_l_right (endD cs.length q) (startD ["_law_pond_here", "_law_span", "_law_ticks", "_law_pairs_here", "_law_due", "_law_factor", "_law_far", "_law_great", "_law_moved", "_law_told", "_law_start", "_law_end_here"] zs) cs := fun zs cs q h => by
  unfold sp_l_right at h
  split at h
  rotate_left
  · exact h.elim
  rename_i n t xs x rest
  obtain ⟨L, ps, rfl, hP, ⟨n1, n40, t0, t6, l1, l40, hs, hL⟩, h⟩ := h
  have s10 : Sm 10 := Sm.of (by decide) (by decide)
  have sn : Sm n := Sm.of (by omega) (by omega)
  have st : Sm t := Sm.of (by omega) (by omega)
  unfold t_l_right
  try walk_at "dl"
  refine ⟨ps, rfl, ⟨by omega, by omega⟩, ?_⟩
  try walk_at "dl"
  generalize hF : fitB n t ps = F
  have big0 : 1 ≤ (10 ^ 30 : Int) / (n + t) := Int.le_ediv_of_mul_le (by omega) (by omega)
  have big1 : (10 ^ 30 : Int) / (n + t) * (n + t) ≤ 10 ^ 30 := Int.ediv_mul_le _ (by omega)
  have big2 : (10 ^ 30 : Int) / (n + t) ≤ 10 ^ 30 := by
    have := Int.mul_le_mul_of_nonneg_left (show 1 ≤ n + t by omega) (show 0 ≤ (10 ^ 30 : Int) / (n + t) by omega)
    omega
  generalize hB : (10 ^ 30 : Int) / (n + t) = B at big0 big1 big2
  refine ⟨s10, Dv.of (by omega) (by omega), ?_⟩
  try rw [hB]
  refine fish_use hP ⟨by omega, by omega, by omega⟩ fun r1 x1 r1a r1b p1 => ?_
  try walk_at "dl"
  generalize hf : 1 + r1 = f
  have f1 : 1 ≤ f := by omega
  have fB : f ≤ B := by omega
  have fnt : f * (n + t) ≤ 10 ^ 30 := Int.le_trans (Int.mul_le_mul_of_nonneg_right fB (by omega)) big1
  rw [Int.mul_add] at fnt
  have fn1 : 1 ≤ f * n := by
    have := Int.mul_le_mul_of_nonneg_left n1 (show 0 ≤ f by omega)
    omega
  have ft0 : 0 ≤ f * t := Int.mul_nonneg (by omega) t0
  rw [Int.mul_comm f n, Int.mul_comm f t] at fnt
  rw [Int.mul_comm f n] at fn1
  rw [Int.mul_comm f t] at ft0
  have sf : Sm f := Sm.of (by omega) (by omega)
  refine ⟨s10, fish_use p1 ⟨by decide, by decide, by omega⟩ fun m x2 m0 m1 p2 => ?_⟩
  try walk_at "dl"
  have sm : Sm m := Sm.of (by omega) (by omega)
  have mn := mul_bd (A := 10 ^ 40) (B := 40) (by omega) (by omega) (by omega) n40 (by decide) (a := m) (b := n)
  refine dLc_mk (grD ps) yes (x2 :: rest) (fun K h => by walk_at "dl"; exact h) (fun d => match d with
    | .tup [.int a, .int b] => .tup [.int (a * f), .int (b * f)]
    | _ => .non) (by rw [len_grD]; omega) (fun i d acc hd P hP => ?_) ?_ (fun _ => trivial)
  · obtain ⟨g, hq, rfl⟩ := get_grD hd
    obtain ⟨a0, a1, b0, b1⟩ := hs g (List.mem_of_getElem? hq)
    simp only [prD] at hP ⊢
    try walk_at "dl"
    exact ⟨⟨Sm.of (by omega) (by omega), sf⟩, ⟨Sm.of (by omega) (by omega), sf⟩, hP⟩
  rw [show (grD ps).map (fun d => match d with
    | .tup [.int a, .int b] => .tup [.int (a * f), .int (b * f)]
    | _ => .non) = grD (ps.map fun p => (p.1 * f, p.2 * f)) by
      rw [grD, grD, List.map_map, List.map_map]
      rfl]
  try walk_at "dl"
  refine dLc_it ?_
  try walk_at "dl"
  rw [grD_rev]
  refine dLc_mk (grD ps.reverse) yes (x2 :: rest) (fun K h => h) (fun d => match d with
    | .tup [.int a, .int b] => .tup [.int (a + m * n), .int (b + m * n)]
    | _ => .non) (by rw [len_grD, List.length_reverse]; omega) (fun i d acc hd P hP => ?_) ?_ (fun _ => trivial)
  · obtain ⟨g, hq, rfl⟩ := get_grD hd
    simp only [prD] at hP ⊢
    try walk_at "dl"
    exact ⟨⟨sm, sn⟩, ⟨sm, sn⟩, hP⟩
  rw [show (grD ps.reverse).map (fun d => match d with
    | .tup [.int a, .int b] => .tup [.int (a + m * n), .int (b + m * n)]
    | _ => .non) = grD (ps.reverse.map fun p => (p.1 + m * n, p.2 + m * n)) by
      rw [grD, grD, List.map_map, List.map_map]
      rfl]
  have n0 : 0 < n := by omega
  generalize hmv : (ps.reverse.map fun p : Int × Int => (p.1 + m * n, p.2 + m * n)) = mv
  have lmv : mv.length = ps.length := by rw [← hmv, List.length_map, List.length_reverse]
  have rmv : ∀ q ∈ mv, ∃ p ∈ ps, Rel n q p := fun q hq => by
    rw [← hmv] at hq
    obtain ⟨p, hp, rfl⟩ := List.mem_map.mp hq
    exact ⟨p, List.mem_reverse.mp hp, m, rfl⟩
  have rmv' : ∀ p ∈ ps, ∃ q ∈ mv, Rel n p q := fun p hp => by
    refine ⟨(p.1 + m * n, p.2 + m * n), ?_, Rel.symm ⟨m, rfl⟩⟩
    rw [← hmv]
    exact List.mem_map.mpr ⟨p, List.mem_reverse.mpr hp, rfl⟩
  have near : ∀ p ∈ ps, Sml p := fun p hp => by
    obtain ⟨a0, a1, b0, b1⟩ := hs p hp
    exact ⟨by omega, by omega, by omega, by omega⟩
  have nearm : ∀ q ∈ mv, Sml q := fun q hq => by
    rw [← hmv] at hq
    obtain ⟨p, hp, rfl⟩ := List.mem_map.mp hq
    obtain ⟨a0, a1, b0, b1⟩ := hs p (List.mem_reverse.mp hp)
    exact ⟨by simp only; omega, by simp only; omega, by simp only; omega, by simp only; omega⟩
  have near2 : ∀ q ∈ ps.map (fun p : Int × Int => (p.1 * f, p.2 * f)), Sml q := fun q hq => by
    obtain ⟨p, hp, rfl⟩ := List.mem_map.mp hq
    obtain ⟨a0, a1, b0, b1⟩ := hs p hp
    have e1 := mul_bd (A := 10 ^ 6) (B := 10 ^ 30) a0 a1 (b := f) (by omega) (by omega) (by decide)
    have e2 := mul_bd (A := 10 ^ 6) (B := 10 ^ 30) b0 b1 (b := f) (by omega) (by omega) (by decide)
    exact ⟨by simp only; omega, by simp only; omega, by simp only; omega, by simp only; omega⟩
  try walk_at "dl"
  refine ⟨ps, rfl, ⟨n1, by omega, t0, by omega, l1, l40, near⟩, ?_⟩
  rw [hF]
  try walk_at "dl"
  refine ⟨mv, rfl, ⟨n1, by omega, t0, by omega, by omega, by omega, nearm⟩, ?_⟩
  rw [fit_same n0 rmv rmv', hF]
  try walk_at "dl"
  refine ⟨⟨sn, sf⟩, ⟨st, sf⟩, _, rfl, ⟨fn1, by omega, ft0, by omega, by rw [List.length_map]; exact l1, by rw [List.length_map]; exact l40, near2⟩, ?_⟩
  rw [fit_sc n f t ps n0 (by omega), hF]
  try walk_at "dl"
  have e40 : cutG (grD ps ++ grD ps) none (some 40) = grD ((ps ++ ps).take 40) := by
    have := cut_take (grD ps ++ grD ps) 40
    rw [grD_app, grD_take] at this
    rw [grD_app]
    exact this
  rw [e40]
  have l2 : ((ps ++ ps).take 40).length ≤ 40 := by rw [List.length_take]; omega
  have l3 : 1 ≤ ((ps ++ ps).take 40).length := by rw [List.length_take, List.length_append]; omega
  have m40 : ∀ q ∈ (ps ++ ps).take 40, q ∈ ps := fun q hq => by
    rcases List.mem_append.mp (List.mem_of_mem_take hq) with h | h <;> exact h
  have m40' : ∀ q ∈ ps, q ∈ (ps ++ ps).take 40 := fun q hq => by
    rw [List.take_append, List.take_of_length_le l40]
    exact List.mem_append_left _ hq
  refine ⟨by rw [len_grD]; omega, _, rfl, ⟨n1, by omega, t0, by omega, l3, l2, fun p hp => near p (m40 p hp)⟩, ?_⟩
  rw [fit_same n0 (fun q hq => ⟨q, m40 q hq, Rel.refl n q⟩) (fun q hq => ⟨q, m40' q hq, Rel.refl n q⟩), hF]
  try walk_at "dl"
  obtain ⟨gi, gl, hgs⟩ : ∃ gi gl, ps = gi ++ [gl] := by
    rcases List.eq_nil_or_concat ps with e | ⟨a, b, e⟩
    · rw [e] at l1
      simp at l1
    · exact ⟨a, b, by rw [e, List.concat_eq_append]⟩
  have hm1 : mv.take 1 = [(gl.1 + m * n, gl.2 + m * n)] := by
    rw [← hmv, hgs, List.reverse_append]
    rfl
  have e1 : cutG (grD mv) none (some 1) = grD (mv.take 1) := by
    have := cut_take (grD mv) 1
    rw [grD_take] at this
    exact this
  have e2 : cutG (grD ps) none (some (-1)) = grD gi := by
    rw [hgs, ← grD_app]
    exact cut_init _ _
  rw [e1, e2, grD_app, hm1]
  have lgi : gi.length + 1 = ps.length := by rw [hgs, List.length_append]; rfl
  have mg : ∀ q ∈ [(gl.1 + m * n, gl.2 + m * n)] ++ gi, ∃ p ∈ ps, Rel n q p := fun q hq => by
    rcases List.mem_append.mp hq with h | h
    · have : q = (gl.1 + m * n, gl.2 + m * n) := by simpa using h
      exact ⟨gl, by rw [hgs]; simp, m, this⟩
    · exact ⟨q, by rw [hgs]; exact List.mem_append_left _ h, Rel.refl n q⟩
  have mg' : ∀ p ∈ ps, ∃ q ∈ [(gl.1 + m * n, gl.2 + m * n)] ++ gi, Rel n p q := fun p hp => by
    rw [hgs] at hp
    rcases List.mem_append.mp hp with h | h
    · exact ⟨p, List.mem_append_right _ h, Rel.refl n p⟩
    · have : p = gl := by simpa using h
      subst this
      exact ⟨_, List.mem_append_left _ List.mem_cons_self, Rel.symm ⟨m, rfl⟩⟩
  have nearg : ∀ q ∈ [(gl.1 + m * n, gl.2 + m * n)] ++ gi, Sml q := fun q hq => by
    obtain ⟨p, hp, k, rfl⟩ := mg q hq
    rcases List.mem_append.mp hq with h | h
    · have : (p.1 + k * n, p.2 + k * n) = (gl.1 + m * n, gl.2 + m * n) := by simpa using h
      rw [this]
      obtain ⟨a0, a1, b0, b1⟩ := hs gl (by rw [hgs]; simp)
      exact ⟨by simp only; omega, by simp only; omega, by simp only; omega, by simp only; omega⟩
    · exact near _ (by rw [hgs]; exact List.mem_append_left _ h)
  refine ⟨by rw [len_grD, len_grD]; simp only [List.length_cons, List.length_nil]; omega, _, rfl, ⟨n1, by omega, t0, by omega, by simp only [List.length_append, List.length_cons, List.length_nil]; omega, by simp only [List.length_append, List.length_cons, List.length_nil]; omega, nearg⟩, ?_⟩
  rw [fit_same n0 mg mg', hF]
  try walk_at "dl"
  exact ⟨rpOk_bls [F, F, F, F, F] (by simp), by decide, rpOk_bls [F, F, F, F, F] (by simp), h x2 (p2.le (by omega))⟩
end K51
set_option Elab.async false
set_option linter.all false
set_option maxRecDepth 100000
set_option maxHeartbeats 2000000
set_option autoImplicit false
namespace K51
open PySem L2 DL K01
local macro_rules | `(tactic| walk_at "dl") => `(tactic| simp only [dSeq, dNext, dBreak, dCont, dDrop, dRet, dRetN, dIfS, dNever, dAsg, dPar, dPutK, dAppend, dExtend, dCall, dVar, dC, dOp, dChain, dUn, dB, dNot, dAnd, dOr, dAndV, dOrV, dNotV, dIf, dNil, dCons, dTup, dLst, dLstC, dCB, dInK, dGetK, dDicC, dNoPart, dPart, dSl, dBits, dRev,
  dgName, dgsNil, dgsCons, dgTup, dgSet, diSeq, diR1, e_diR2, e_r2, diEnum, startD, endD, finZ_d, finD, finC, List.take_length, dYes, wipeD, ix0, ix1, ix2, get_snoc, set_snoc, take_snoc,
  dOpC, dSlC, dListC, e_addC, e_mulC, e_loCl, e_loCt, e_loCs, e_wd, e_wc0, e_wcs, e_wsn, e_wc1, e_wc2, e_wl0, e_wl1, e_dl0, e_dl1, e_sl, e_st, e_ss, e_addi, e_adds, e_addt, e_addl, e_sub, e_muli, e_mult, e_mull, e_fdiv, e_mod, e_pow, e_neg, e_lt, e_le, e_gt, e_ge, e_eqi, e_eqs, e_eql, e_eqt, e_eqb, e_eqn, e_nei, e_nes, e_nel, e_net, e_neb, e_nen, e_isb, e_isn, e_inb, e_inn, e_in1, e_in2, e_in3, e_in4, e_in5,
  e_ixt, e_ixl, e_ixs, e_at0, e_at1, e_at2, e_at3, e_at4, e_at5, e_atl, e_keyi, e_keys, e_lenl, e_lent, e_lens, e_lend, e_maxi, e_mini, e_maxl, e_minl, e_sum, e_all, e_any, e_inti, e_intb, e_abs, e_tol, e_tot, e_tos, e_lol, e_lot, e_los, e_sll, e_slt, e_rvl, e_rvt, e_repr, e_isi,
  List.map_cons, List.map_nil, List.length_cons, List.length_nil, List.cons_append, List.nil_append, List.flatten_cons, List.flatten_nil, List.append_nil, List.replicate_succ, List.replicate_zero, List.getElem?_cons_zero, List.getElem?_cons_succ, List.set_cons_zero, List.set_cons_succ, Nat.reduceSub, Nat.reduceAdd, Int.reduceToNat, Int.reduceLE, Int.reduceLT, Int.reduceNeg, Nat.reduceLeDiff, Nat.reduceLT, Nat.zero_add, Option.some.injEq, Z.d.injEq, Z.c.injEq, D.bl.injEq, D.int.injEq, D.tup.injEq, D.lst.injEq,
  List.take_succ_cons, List.take_zero, exists_eq_left', exists_eq_left, true_and, and_true, if_true, Bool.not_true, Bool.not_false, Bool.false_eq_true, if_false, decide_true, decide_false])
theorem ShOk.mono {n : Int} {bs : List (Int × Bool)} {E : Nat → Int} (h : ShOk n bs E) : ∀ (k i : Nat), i + k ≤ bs.length → E i ≤ E (i + k)
  | 0, i, _ => Int.le_refl _
  | k + 1, i, hl => Int.le_trans (h.mono k i (by omega)) (h.up (i + k) (by omega))
theorem ShOk.mono' {n : Int} {bs : List (Int × Bool)} {E : Nat → Int} (h : ShOk n bs E) {i j : Nat} (hij : i ≤ j) (hj : j ≤ bs.length) : E i ≤ E j := by
  have := h.mono (j - i) i (by omega)
  rwa [show i + (j - i) = j by omega] at this
structure ArOk (n : Int) (E : Nat → Int) (p : Int × Int) : Prop where
  val : p.2 = E (p.1 % n).toNat + p.1 / n * n
theorem arr_E {n : Int} {bs : List (Int × Bool)} {E : Nat → Int} (n1 : 1 ≤ n) (hl : (bs.length : Int) = n) (hg : ∀ i < bs.length, ∃ r, bs[i]? = some (E i, r)) {p : Int × Int} (h : ArrOk n bs p) : ArOk n E p := by
  obtain ⟨e, r, h1, h2⟩ := h
  have m0 := Int.emod_nonneg p.1 (show n ≠ 0 by omega)
  have m1 := Int.emod_lt_of_pos p.1 (show 0 < n by omega)
  obtain ⟨r', h3⟩ := hg (p.1 % n).toNat (by omega)
  rw [h1] at h3
  cases h3
  exact ⟨h2⟩
theorem fit_arr {n t : Int} {E : Nat → Int} {N : Nat} {ps : List (Int × Int)} (n1 : 1 ≤ n) (hN : (N : Int) = n) (mono : ∀ i j, i ≤ j → j ≤ N → E i ≤ E j) (last : E N = E 0 + n) (hp : ∀ p ∈ ps, ArOk n E p) (ht : ∀ i < N, t ≤ E i - (i : Int)) : fitB n t ps = true := by
  rw [fit_iff]
  intro p hpm
  have h1 := (hp p hpm).val
  have m0 := Int.emod_nonneg p.1 (show n ≠ 0 by omega)
  have m1 := Int.emod_lt_of_pos p.1 (show 0 < n by omega)
  have d1 := Int.mul_ediv_add_emod p.1 n
  rw [Int.mul_comm] at d1
  generalize hr : (p.1 % n) = r at h1 m0 m1 d1
  generalize hq : (p.1 / n) = q at h1 d1
  refine ⟨?_, fun p' hpm' => ?_⟩
  · have := ht r.toNat (by omega)
    omega
  · have h2 := (hp p' hpm').val
    have m2 := Int.emod_nonneg p'.1 (show n ≠ 0 by omega)
    have m3 := Int.emod_lt_of_pos p'.1 (show 0 < n by omega)
    have d2 := Int.mul_ediv_add_emod p'.1 n
    rw [Int.mul_comm] at d2
    generalize hr' : (p'.1 % n) = r' at h2 m2 m3 d2
    generalize hq' : (p'.1 / n) = q' at h2 d2
    have e0 : (q' - q) * n = q' * n - q * n := Int.sub_mul ..
    have e1 : (q' - q - 1) * n = q' * n - q * n - n := by rw [Int.sub_mul, e0, Int.one_mul]
    unfold ov
    rw [decide_eq_false_iff_not]
    by_cases hle : r ≤ r'
    · have tn : (p'.1 - p.1) / n = q' - q := turn_of (by omega) (by rw [Int.mul_comm]; omega) (by rw [Int.mul_comm]; omega)
      have mo := mono r.toNat r'.toNat (by omega) (by omega)
      rw [tn]
      omega
    · have tn : (p'.1 - p.1) / n = q' - q - 1 := turn_of (by omega) (by rw [Int.mul_comm]; omega) (by rw [Int.mul_comm]; omega)
      have mo := mono r.toNat N (by omega) (by omega)
      have mo2 := mono 0 r'.toNat (by omega) (by omega)
      rw [tn]
      omega
theorem get_blD {bs : List (Int × Bool)} {i : Nat} {d : D} (h : (bs.map blD)[i]? = some d) : ∃ b, bs[i]? = some b ∧ d = blD b := by
  rw [List.getElem?_map] at h
  cases q : bs[i]? with
  | none => rw [q] at h; cases h
  | some g =>
    rw [q] at h
    exact ⟨g, rfl, (Option.some.inj h).symm⟩
theorem pick2 {w r : Int} (w1 : 1 ≤ w) (w40 : w ≤ 40) (r0 : 0 ≤ r) (r2 : r < 2) : ∃ v : Int, 1 ≤ v ∧ v ≤ 40 ∧ atI [D.int 5, .int w] r = some (.int v) := by
  have : r = 0 ∨ r = 1 := by omega
  rcases this with rfl | rfl
  · exact ⟨5, by decide, by decide, at0⟩
  · exact ⟨w, w1, w40, at1⟩
theorem pick5 {a b c d e r lo hi : Int} (h : ∀ x, x = a ∨ x = b ∨ x = c ∨ x = d ∨ x = e → lo ≤ x ∧ x ≤ hi) (r0 : 0 ≤ r) (r5 : r < 5) : ∃ v : Int, lo ≤ v ∧ v ≤ hi ∧ atI [D.int a, .int b, .int c, .int d, .int e] r = some (.int v) := by
  have : r = 0 ∨ r = 1 ∨ r = 2 ∨ r = 3 ∨ r = 4 := by omega
  rcases this with rfl | rfl | rfl | rfl | rfl
  · exact ⟨a, (h a (by simp)).1, (h a (by simp)).2, at0⟩
  · exact ⟨b, (h b (by simp)).1, (h b (by simp)).2, at1⟩
  · exact ⟨c, (h c (by simp)).1, (h c (by simp)).2, at2⟩
  · exact ⟨d, (h d (by simp)).1, (h d (by simp)).2, at3⟩
  · exact ⟨e, (h e (by simp)).1, (h e (by simp)).2, at4⟩
def sp_law : DSpec := fun zs cs k => match zs, cs with
  | [.d (.scr ns)], [] => ns.length ≤ 63 ∧ k (.d (.bl true)) []
  | _, _ => False
theorem len_law : ∀ zs cs q, sp_law zs cs q → zs.length = (["_law_script"] : List Str).length := fun zs cs q h => by
  unfold sp_law at h
  split at h
  · rfl
  · exact h.elim
def t_law : DS :=
  (dSeq (dFor (diR1 (dCB maxD (dCons (dC (.int 1)) (dCons (dCB minD (dCons (dC (.int 6)) (dCons (dCB lenD (dCons (dVar 0) dNil)) dNil))) dNil)))) (dgName 1) (dSeq (dAsg (dCall sp_l_pond (dCons (dVar 0) (dCons (dVar 1) dNil))) (dgName 2))
  (dFor (diR1 (dC (.int 4))) (dgName 3) (dSeq (dAsg (dOp ixD (dLst (dCons (dOp addD (dC (.int 1)) (dCall sp_l_fish (dCons (dVar 2) (dCons (dC (.int 30)) dNil)))) (dCons (dC (.int 10)) (dCons (dC (.int 2)) (dCons (dC (.int 1)) dNil))))) (dCall sp_l_fish (dCons (dVar 2) (dCons (dC (.int 4)) dNil)))) (dgName 4))
  (dSeq (dAsg (dCall sp_l_shape (dCons (dVar 2) (dCons (dVar 4) (dCons (dOp addD (dOp mulD (dC (.int 3)) (dVar 4)) (dC (.int 1))) dNil)))) (dgName 5))
  (dSeq (dAsg (dLc (diSeq (dVar 5)) (dgTup 2 (dgsCons (dgName 12) (dgsCons (dgName 13) dgsNil))) dYes (dTup (dCons (dOp addD (dOp addD (dVar 12) (dVar 4)) (dC (.int 1))) (dCons (dVar 13) dNil))) [12, 13]) (dgName 5))
  (dSeq (dAsg (dCB minD (dCons (dLc (diEnum (dVar 5)) (dgTup 2 (dgsCons (dgName 14) (dgsCons (dgTup 2 (dgsCons (dgName 12) (dgsCons (dgName 13) dgsNil))) dgsNil))) dYes (dOp subD (dVar 12) (dVar 14)) [14, 12, 13]) dNil)) (dgName 6))
  (dSeq (dAsg (dOp addD (dC (.int 1)) (dCall sp_l_fish (dCons (dVar 2) (dCons (dOp ixD (dLst (dCons (dC (.int 5)) (dCons (dIf (dB (dOp eqUD (dVar 1) (dC (.int 0)))) (dC (.int 40)) (dC (.int 8))) dNil))) (dCall sp_l_fish (dCons (dVar 2) (dCons (dC (.int 2)) dNil)))) dNil)))) (dgName 7))
  (dSeq (dAsg (dCall sp_l_pairs (dCons (dVar 2) (dCons (dVar 4) (dCons (dVar 5) (dCons (dVar 7) dNil))))) (dgName 8))
  (dSeq (dAsg (dCB maxD (dCons (dC (.int 0)) (dCons (dOp addD (dVar 6) (dOp ixD (dLst (dCons (dC (.int 0)) (dCons (dC (.int 0)) (dCons (dC (.int 1)) (dCons (dUn negD (dC (.int 1))) (dCons (dOp subD (dC (.int 0)) (dCall sp_l_fish (dCons (dVar 2) (dCons (dC (.int 9)) dNil)))) dNil)))))) (dCall sp_l_fish (dCons (dVar 2) (dCons (dC (.int 5)) dNil))))) dNil))) (dgName 9))
  (dSeq (dIfS (dOr (dNot (dB (dCall sp_l_right (dCons (dVar 2) (dCons (dVar 4) (dCons (dVar 9) (dCons (dVar 8) dNil))))))) (dAnd (dB (dOp geD (dVar 6) (dVar 9))) (dNot (dB (dCall sp_fits (dCons (dVar 4) (dCons (dVar 9) (dCons (dVar 8) dNil)))))))) (dRet (dC (.bl false))) dNext)
  (dSeq (dAsg (dCall sp_l_fish (dCons (dVar 2) (dCons (dCB lenD (dCons (dVar 8) dNil)) dNil))) (dgName 10))
  (dSeq (dAsg (dTup (dCons (dOp ixD (dOp ixD (dVar 8) (dVar 10)) (dC (.int 0))) (dCons (dOp addD (dOp ixD (dOp ixD (dVar 8) (dVar 10)) (dC (.int 1))) (dOp ixD (dLst (dCons (dC (.int 1)) (dCons (dUn negD (dC (.int 1))) (dCons (dC (.int 2)) (dCons (dVar 4) (dCons (dOp subD (dC (.int 0)) (dVar 4)) dNil)))))) (dCall sp_l_fish (dCons (dVar 2) (dCons (dC (.int 5)) dNil))))) dNil))) (dgName 11))
  (dIfS (dNot (dB (dCall sp_l_right (dCons (dVar 2) (dCons (dVar 4) (dCons (dVar 9) (dCons (dOp addD (dOp addD (dSl (dVar 8) dNoPart (dPart (dVar 10))) (dLst (dCons (dVar 11) dNil))) (dSl (dVar 8) (dPart (dOp addD (dVar 10) (dC (.int 1)))) dNoPart)) dNil))))))) (dRet (dC (.bl false))) dNext))))))))))))))
  (dRet (dAndV (dCall sp_fits (dCons (dC (.int 10)) (dCons (dC (.int 2)) (dCons (dLst (dCons (dTup (dCons (dC (.int 0)) (dCons (dC (.int 5)) dNil))) (dCons (dTup (dCons (dC (.int 3)) (dCons (dC (.int 6)) dNil))) dNil))) dNil)))) (dAndV (dNotV (dCall sp_fits (dCons (dC (.int 10)) (dCons (dC (.int 2)) (dCons (dLst (dCons (dTup (dCons (dC (.int 0)) (dCons (dC (.int 5)) dNil))) (dCons (dTup (dCons (dC (.int 3)) (dCons (dC (.int 4)) dNil))) dNil))) dNil))))) (dNotV (dCall sp_fits (dCons (dC (.int 10)) (dCons (dC (.int 6)) (dCons (dLst (dCons (dTup (dCons (dC (.int 0)) (dCons (dC (.int 5)) dNil))) dNil)) dNil)))))))))
theorem rd_law : ∀ zs cs q, sp_law zs cs q → t_law (endD cs.length q) (startD ["_law_script", "_law_k", "_law_pond_here", "_law_turn", "_law_span", "_law_blocks", "_law_low", "_law_many", "_law_pairs_here", "_law_ticks", "_law_spot", "_law_other", "_law_end_here", "_law_rises", "_law_t"] zs) cs := fun zs cs q h => by
  unfold sp_law at h
  split at h
  rotate_left
  · exact h.elim
  rename_i ns
  obtain ⟨hn, h⟩ := h
  unfold t_law
  try walk_at "dl"
  refine dFor_mk (rgD 0 (max 1 (min 6 (ns.length : Int))).toNat) yes [] (fun K h => by walk_at "dl"; exact ⟨⟨by omega, by omega⟩, h⟩) (fun i en c1 => ∃ o1 o2 o3 o4 o5 o6 o7 o8 o9 o10 o11 o12 o13 o14 : Option Z, en = [some (.d (.scr ns)), o1, o2, o3, o4, o5, o6, o7, o8, o9, o10, o11, o12, o13, o14] ∧ c1 = [])
    ⟨_, _, _, _, _, _, _, _, _, _, _, _, _, _, rfl, rfl⟩ (fun i d en c1 hd hI => ?_) (fun en c1 hI => ?_) (fun _ _ _ _ => trivial)
  · obtain ⟨hi, rfl⟩ := rgD_get hd
    obtain ⟨o1, o2, o3, o4, o5, o6, o7, o8, o9, o10, o11, o12, o13, o14, rfl, rfl⟩ := hI
    try walk_at "dl"
    refine ⟨⟨by omega, by omega⟩, fun x0 hx0 => ?_⟩
    try walk_at "dl"
    refine dFor_mk (rgD 0 4) yes [x0] (fun K h => by walk_at "dl"; exact ⟨⟨by decide, by decide⟩, h⟩) (fun j en c1 => ∃ (x : D) (o3 o4 o5 o6 o7 o8 o9 o10 o11 o12 o13 o14 : Option Z), en = [some (.d (.scr ns)), some (.d (.int (0 + (i : Int)))), some (.c 0), o3, o4, o5, o6, o7, o8, o9, o10, o11, o12, o13, o14] ∧ c1 = [x] ∧ Pond (j * 10000) x)
      ⟨_, _, _, _, _, _, _, _, _, _, _, _, _, rfl, rfl, hx0.le (by omega)⟩ (fun j d en c1 hd hI => ?_) (fun en c1 hI => ?_) (fun _ _ _ _ => trivial)
    · obtain ⟨hj, rfl⟩ := rgD_get hd
      obtain ⟨x, o3, o4, o5, o6, o7, o8, o9, o10, o11, o12, o13, o14, rfl, rfl, hp⟩ := hI
      try walk_at "dl"
      refine fish_use hp ⟨by decide, by decide, by omega⟩ fun r1 x1 r1a r1b p1 => ?_
      try walk_at "dl"
      refine fish_use p1 ⟨by decide, by decide, by omega⟩ fun r2 x2 r2a r2b p2 => ?_
      try walk_at "dl"
      have pick : ∃ v : Int, 1 ≤ v ∧ v ≤ 40 ∧ atI [D.int (1 + r1), .int 10, .int 2, .int 1] r2 = some (.int v) := by
        have : r2 = 0 ∨ r2 = 1 ∨ r2 = 2 ∨ r2 = 3 := by omega
        rcases this with rfl | rfl | rfl | rfl
        · exact ⟨1 + r1, by omega, by omega, at0⟩
        · exact ⟨10, by decide, by decide, at1⟩
        · exact ⟨2, by decide, by decide, at2⟩
        · exact ⟨1, by decide, by decide, at3⟩
      obtain ⟨n, n1, n40, pick⟩ := pick
      rw [e_at pick]
      have s3 : Sm 3 := Sm.of (by decide) (by decide)
      have sn : Sm n := Sm.of (by omega) (by omega)
      refine ⟨⟨s3, sn⟩, _, p2, ⟨n1, n40, by omega, by omega, by omega⟩, fun bs0 E0 x3 sh0 p3 => ?_⟩
      try walk_at "dl"
      have l0 := sh0.len
      refine dLc_mk (bs0.map blD) yes [x3] (fun K h => by walk_at "dl"; exact h) (fun d => match d with
        | .tup [.int a, .bl b] => .tup [.int (a + n + 1), .bl b]
        | _ => .non) (by rw [List.length_map]; omega) (fun i d acc hd P hP => ?_) ?_ (fun _ => trivial)
      · obtain ⟨b, hq, rfl⟩ := get_blD hd
        simp only [blD] at hP ⊢
        try walk_at "dl"
        exact hP
      rw [show (bs0.map blD).map (fun d => match d with
        | .tup [.int a, .bl b] => .tup [.int (a + n + 1), .bl b]
        | _ => .non) = (bs0.map fun b => (b.1 + n + 1, b.2)).map blD by
          rw [List.map_map, List.map_map]
          rfl]
      generalize hbs : (bs0.map fun b : Int × Bool => (b.1 + n + 1, b.2)) = bs
      have lb : bs.length = bs0.length := by rw [← hbs, List.length_map]
      generalize hE : (fun i => E0 i + n + 1) = E
      have Ei : ∀ i, E i = E0 i + n + 1 := fun i => by rw [← hE]
      have gb : ∀ i < bs.length, ∃ r, bs[i]? = some (E i, r) := fun i hi => by
        obtain ⟨r, hr⟩ := sh0.get i (by omega)
        exact ⟨r, by rw [← hbs, List.getElem?_map, hr, Ei]; rfl⟩
      have mono : ∀ i j, i ≤ j → j ≤ bs.length → E i ≤ E j := fun i j hij hj => by
        have := sh0.mono' hij (by omega)
        rw [Ei, Ei]
        omega
      have last : E bs.length = E 0 + n := by
        have := sh0.last
        rw [Ei, Ei, lb]
        omega
      have lo := sh0.lo
      have hi0 := sh0.hi
      have E0v := Ei 0
      try walk_at "dl"
      refine dLc_mk (enumD (bs.map blD)) yes [x3] (fun K h => by walk_at "dl"; exact h) (fun d => match d with
        | .tup [.int t, .tup [.int a, .bl _]] => .int (a - t)
        | _ => .non) (by rw [enumD_len, List.length_map]; omega) (fun i d acc hd P hP => ?_) ?_ (fun _ => trivial)
      · obtain ⟨d, hd1, rfl⟩ := enumD_get hd
        obtain ⟨b, hq, rfl⟩ := get_blD hd1
        simp only [blD] at hP ⊢
        try walk_at "dl"
        exact hP
      have eint : (enumD (bs.map blD)).map (fun d => match d with
        | .tup [.int t, .tup [.int a, .bl _]] => .int (a - t)
        | _ => .non) = ((List.range bs.length).map fun i => E i - (i : Int)).map D.int := by
        apply List.ext_getElem?
        intro i
        rw [List.getElem?_map, List.getElem?_map, List.getElem?_map]
        by_cases hi : i < bs.length
        · obtain ⟨r, hr⟩ := gb i hi
          have e1 : (enumD (bs.map blD))[i]? = some (.tup [.int (i : Int), blD (E i, r)]) := by
            unfold enumD
            rw [List.getElem?_map, List.getElem?_zipIdx, List.getElem?_map, hr]
            simp
          rw [e1, List.getElem?_range hi]
          rfl
        · rw [List.getElem?_eq_none (by rw [enumD_len, List.length_map]; omega), List.getElem?_eq_none (by rw [List.length_range]; omega)]
          rfl
      rw [eint]
      try walk_at "dl"
      refine ⟨_, rfl, by rw [List.length_map, List.length_range]; omega, fun low hlow1 hlow2 => ?_⟩
      obtain ⟨il, hil, rfl⟩ := List.mem_map.mp hlow1
      rw [List.mem_range] at hil
      have low2 : ∀ i < bs.length, E il - (il : Int) ≤ E i - (i : Int) := fun i hi => hlow2 _ (List.mem_map.mpr ⟨i, List.mem_range.mpr hi, rfl⟩)
      have b1 := mono 0 il (by omega) (by omega)
      have b2 := mono il bs.length (by omega) (by omega)
      generalize hlo : E il - (il : Int) = low at low2
      try walk_at "dl"
      have lbn : (bs.length : Int) = n := by omega
      have nearE : ∀ i ≤ bs.length, -2000 ≤ E i ∧ E i ≤ 2000 := fun i hi => by
        have q1 := mono 0 i (by omega) hi
        have q2 := mono i bs.length hi (Nat.le_refl _)
        omega
      have lowb : -3000 ≤ low ∧ low ≤ 3000 := by
        have := nearE il (by omega)
        omega
      split
      all_goals
        refine fish_use p3 ⟨by decide, by decide, by omega⟩ fun r3 x4 r3a r3b p4 => ?_
        try walk_at "dl"
        first
          | (obtain ⟨v, v1, v40, pv⟩ := pick2 (w := 40) (r := r3) (by decide) (by decide) r3a r3b; rw [e_at pv])
          | (obtain ⟨v, v1, v40, pv⟩ := pick2 (w := 8) (r := r3) (by decide) (by decide) r3a r3b; rw [e_at pv])
        refine fish_use p4 ⟨by omega, by omega, by omega⟩ fun r4 x5 r4a r4b p5 => ?_
        try walk_at "dl"
        refine ⟨_, bs, rfl, p5, ⟨n1, n40, lbn, by omega, by omega, by omega⟩, fun ps x6 lps hps p6 => ?_⟩
        try walk_at "dl"
        refine fish_use p6 ⟨by decide, by decide, by omega⟩ fun r6 x7 r6a r6b p7 => ?_
        try walk_at "dl"
        refine fish_use p7 ⟨by decide, by decide, by omega⟩ fun r7 x8 r7a r7b p8 => ?_
        try walk_at "dl"
        obtain ⟨u, u1, u2, pu⟩ := pick5 (a := 0) (b := 0) (c := 1) (d := -1) (e := 0 - r6) (r := r7) (lo := -9) (hi := 1) (fun x hx => by omega) r7a r7b
        rw [e_at pu]
        try walk_at "dl"
        generalize ht : max 0 (low + u) = t
        have t0 : 0 ≤ t := by omega
        have t6 : t ≤ 10 ^ 6 := by omega
        have har : ∀ p ∈ ps, ArOk n E p := fun p hp => arr_E n1 lbn gb (hps p hp).2.2
        have hnear : ∀ p ∈ ps, -5000 ≤ p.1 ∧ p.1 ≤ 5000 ∧ -5000 ≤ p.2 ∧ p.2 ≤ 5000 := fun p hp => by
          obtain ⟨a1, a2, _⟩ := hps p hp
          have v1 := (har p hp).val
          have d1 := Int.mul_ediv_add_emod p.1 n
          rw [Int.mul_comm] at d1
          have m0 := Int.emod_nonneg p.1 (show n ≠ 0 by omega)
          have m1 := Int.emod_lt_of_pos p.1 (show 0 < n by omega)
          have := nearE (p.1 % n).toNat (by omega)
          omega
        have yes : low ≥ t → fitB n t ps = true := fun hl => fit_arr n1 lbn mono last har fun i hi => by
          have := low2 i hi
          omega
        refine ⟨_, ps, rfl, p8, ⟨n1, n40, t0, t6, by omega, by omega, fun p hp => by have := hnear p hp; exact ⟨by omega, by omega, by omega, by omega⟩, by omega⟩, fun x9 p9 => ?_⟩
        try walk_at "dl"
        have lg := len_grD ps
        by_cases hle : t ≤ low
        all_goals
          first
            | (have hle2 : t ≤ low := hle
               simp only [hle2]
               try walk_at "dl"
               refine ⟨ps, rfl, ⟨n1, by omega, t0, by omega, by omega, by omega, fun p hp => by have := hnear p hp; exact ⟨by omega, by omega, by omega, by omega⟩⟩, ?_⟩
               rw [yes hle2]
               try walk_at "dl")
            | (simp only [hle]
               try walk_at "dl")
          refine fish_use p9 ⟨by omega, by omega, by omega⟩ fun s x10 s0 s1' p10 => ?_
          rw [lg] at s1'
          obtain ⟨⟨a, b⟩, hab⟩ : ∃ p, ps[s.toNat]? = some p := ⟨_, List.getElem?_eq_getElem (by omega)⟩
          have ix : atI (grD ps) s = some (.tup [.int a, .int b]) := at_int s0 (by
            rw [grD, List.getElem?_map, hab]
            rfl)
          have hnab := hnear (a, b) (List.mem_of_getElem? hab)
          try walk_at "dl"
          rw [e_at ix]
          try walk_at "dl"
          rw [e_at ix]
          try walk_at "dl"
          refine fish_use p10 ⟨by decide, by decide, by omega⟩ fun r11 x11 r11a r11b p11 => ?_
          try walk_at "dl"
          obtain ⟨u', u1', u2', pu'⟩ := pick5 (a := 1) (b := -1) (c := 2) (d := n) (e := 0 - n) (r := r11) (lo := -40) (hi := 40) (fun x hx => by omega) r11a r11b
          rw [e_at pu']
          try walk_at "dl"
          have c1 : cutG (grD ps) none (some s) = grD (ps.take s.toNat) := by
            have := cut_take (grD ps) s.toNat
            rw [Int.toNat_of_nonneg s0, grD_take] at this
            exact this
          have c2 : cutG (grD ps) (some (s + 1)) none = grD (ps.drop (s.toNat + 1)) := by
            have := cut_drop (grD ps) (s.toNat + 1)
            rw [grD_drop, show ((s.toNat + 1 : Nat) : Int) = s + 1 by omega] at this
            exact this
          rw [c1, c2, show [D.tup [.int a, .int (b + u')]] = grD [(a, b + u')] from rfl, grD_app, grD_app]
          have lq : (ps.take s.toNat ++ [(a, b + u')] ++ ps.drop (s.toNat + 1)).length = ps.length := by
            simp only [List.length_append, List.length_take, List.length_drop, List.length_cons, List.length_nil]
            omega
          refine ⟨by rw [len_grD, List.length_take]; omega, by rw [len_grD, len_grD, List.length_append, List.length_take, List.length_drop]; simp only [List.length_cons, List.length_nil]; omega, ?_⟩
          refine ⟨_, _, rfl, p11, ⟨n1, n40, t0, t6, by omega, by omega, fun p hp => ?_, by omega⟩, fun x12 p12 => ?_⟩
          · rcases List.mem_append.mp hp with hp | hp
            · rcases List.mem_append.mp hp with hp | hp
              · have := hnear p (List.mem_of_mem_take hp)
                exact ⟨by omega, by omega, by omega, by omega⟩
              · have e : p = (a, b + u') := by simpa using hp
                subst e
                simp only at hnab
                exact ⟨by simp only; omega, by simp only; omega, by simp only; omega, by simp only; omega⟩
            · have := hnear p (List.mem_of_mem_drop hp)
              exact ⟨by omega, by omega, by omega, by omega⟩
          · try walk_at "dl"
            exact .inl ⟨_, _, _, _, _, _, _, _, _, _, _, _, _, rfl, rfl, p12.le (by omega)⟩
    · obtain ⟨x, o3, o4, o5, o6, o7, o8, o9, o10, o11, o12, o13, o14, rfl, rfl, hp⟩ := hI
      exact .inr ⟨0, Nat.le_refl _, _, _, _, _, _, _, _, _, _, _, _, _, _, _, rfl, rfl⟩
  · obtain ⟨o1, o2, o3, o4, o5, o6, o7, o8, o9, o10, o11, o12, o13, o14, rfl, rfl⟩ := hI
    try walk_at "dl"
    have sm : ∀ a b : Int, -10 ≤ a → a ≤ 10 → -10 ≤ b → b ≤ 10 → Sml (a, b) := fun a b h1 h2 h3 h4 => ⟨by simp only; omega, by simp only; omega, by simp only; omega, by simp only; omega⟩
    have one : ∀ ps : List (Int × Int), (∀ p ∈ ps, -10 ≤ p.1 ∧ p.1 ≤ 10 ∧ -10 ≤ p.2 ∧ p.2 ≤ 10) → ∀ p ∈ ps, Sml p := fun ps h p hp => by
      obtain ⟨a, b, c, d⟩ := h p hp
      exact sm p.1 p.2 a b c d
    refine ⟨[(0, 5), (3, 6)], rfl, ⟨by decide, by decide, by decide, by decide, by decide, by decide, one _ (by decide)⟩, ?_⟩
    rw [show fitB 10 2 [(0, 5), (3, 6)] = true from by decide]
    try walk_at "dl"
    refine ⟨[(0, 5), (3, 4)], rfl, ⟨by decide, by decide, by decide, by decide, by decide, by decide, one _ (by decide)⟩, ?_⟩
    rw [show fitB 10 2 [(0, 5), (3, 4)] = false from by decide]
    try walk_at "dl"
    refine ⟨[(0, 5)], rfl, ⟨by decide, by decide, by decide, by decide, by decide, by decide, one _ (by decide)⟩, ?_⟩
    rw [show fitB 10 6 [(0, 5)] = false from by decide]
    try walk_at "dl"
    exact h
theorem law_true : ∀ ns : List Int, ns.length ≤ 63 → sp_law [.d (.scr ns)] [] fun z _ => z = .d (.bl true) := fun ns h => ⟨h, rfl⟩
end K51
set_option Elab.async false
set_option linter.all false
set_option maxRecDepth 100000
set_option maxHeartbeats 4000000
set_option autoImplicit false
namespace K51
open PySem PySem.Spec PyProof.Rows L2 DL K01
def topS (i : Nat) : Stmt := PySem.Challenge.pw_greenroads_k51_records_that_fit.main.body.getD i (.Pass ⟨0, 0, 0, 0⟩)
structure Bt (mg : Str → Option Value) : Prop where
  bool_ : mg "bool" = none
  enumerate_ : mg "enumerate" = none
  int_ : mg "int" = none
  isinstance_ : mg "isinstance" = none
  len_ : mg "len" = none
  list_ : mg "list" = none
  max_ : mg "max" = none
  min_ : mg "min" = none
  range_ : mg "range" = none
  repr_ : mg "repr" = none
  tuple_ : mg "tuple" = none
abbrev s_is_int : Stmt := topS 8
abbrev N_is_int : List Str := ["value"]
theorem sc_is_int : FnScope N_is_int ["value"] (defScope s_is_int) := ⟨rfl, rfl, rfl, by decide +kernel, rfl, by decide +kernel, by decide +kernel⟩
abbrev s_in_range : Stmt := topS 9
abbrev N_in_range : List Str := ["value", "low", "high"]
theorem sc_in_range : FnScope N_in_range ["value", "low", "high"] (defScope s_in_range) := ⟨rfl, rfl, rfl, by decide +kernel, rfl, by decide +kernel, by decide +kernel⟩
abbrev s_require_cycle : Stmt := topS 10
abbrev N_require_cycle : List Str := ["value"]
theorem sc_require_cycle : FnScope N_require_cycle ["value"] (defScope s_require_cycle) := ⟨rfl, rfl, rfl, by decide +kernel, rfl, by decide +kernel, by decide +kernel⟩
abbrev s_is_record : Stmt := topS 13
abbrev N_is_record : List Str := ["value"]
theorem sc_is_record : FnScope N_is_record ["value"] (defScope s_is_record) := ⟨rfl, rfl, rfl, by decide +kernel, rfl, by decide +kernel, by decide +kernel⟩
abbrev s_require_records : Stmt := topS 14
abbrev N_require_records : List Str := ["cycle", "travel", "value", "row", "record"]
theorem sc_require_records : FnScope N_require_records ["cycle", "travel", "value"] (defScope s_require_records) := ⟨rfl, rfl, rfl, by decide +kernel, rfl, by decide +kernel, by decide +kernel⟩
abbrev s_overtakes : Stmt := topS 15
abbrev N_overtakes : List Str := ["cycle", "one", "other", "turns"]
theorem sc_overtakes : FnScope N_overtakes ["cycle", "one", "other"] (defScope s_overtakes) := ⟨rfl, rfl, rfl, by decide +kernel, rfl, by decide +kernel, by decide +kernel⟩
abbrev s_first_contradiction : Stmt := topS 16
abbrev N_first_contradiction : List Str := ["cycle", "travel", "records", "first", "one", "second"]
theorem sc_first_contradiction : FnScope N_first_contradiction ["cycle", "travel", "records"] (defScope s_first_contradiction) := ⟨rfl, rfl, rfl, by decide +kernel, rfl, by decide +kernel, by decide +kernel⟩
abbrev s_fits : Stmt := topS 17
abbrev N_fits : List Str := ["cycle", "travel", "records"]
theorem sc_fits : FnScope N_fits ["cycle", "travel", "records"] (defScope s_fits) := ⟨rfl, rfl, rfl, by decide +kernel, rfl, by decide +kernel, by decide +kernel⟩
abbrev s_l_pond : Stmt := topS 19
abbrev N_l_pond : List Str := ["_law_script", "_law_k", "_law_cell"]
theorem sc_l_pond : FnScope N_l_pond ["_law_script", "_law_k"] (defScope s_l_pond) := ⟨rfl, rfl, rfl, by decide +kernel, rfl, by decide +kernel, by decide +kernel⟩
abbrev s_l_fish : Stmt := topS 20
abbrev N_l_fish : List Str := ["_law_pond_here", "_law_bound", "_law_found", "_law_turn", "_law_mixed"]
theorem sc_l_fish : FnScope N_l_fish ["_law_pond_here", "_law_bound"] (defScope s_l_fish) := ⟨rfl, rfl, rfl, by decide +kernel, rfl, by decide +kernel, by decide +kernel⟩
abbrev s_l_shape : Stmt := topS 21
abbrev N_l_shape : List Str := ["_law_pond_here", "_law_span", "_law_wide", "_law_steps", "_law_turn", "_law_one", "_law_to", "_law_more", "_law_end_here", "_law_found", "_law_step"]
theorem sc_l_shape : FnScope N_l_shape ["_law_pond_here", "_law_span", "_law_wide"] (defScope s_l_shape) := ⟨rfl, rfl, rfl, by decide +kernel, rfl, by decide +kernel, by decide +kernel⟩
abbrev s_l_end : Stmt := topS 22
abbrev N_l_end : List Str := ["_law_span", "_law_blocks", "_law_t"]
theorem sc_l_end : FnScope N_l_end ["_law_span", "_law_blocks", "_law_t"] (defScope s_l_end) := ⟨rfl, rfl, rfl, by decide +kernel, rfl, by decide +kernel, by decide +kernel⟩
abbrev s_l_against : Stmt := topS 23
abbrev N_l_against : List Str := ["_law_span", "_law_one", "_law_other", "_law_moved"]
theorem sc_l_against : FnScope N_l_against ["_law_span", "_law_one", "_law_other"] (defScope s_l_against) := ⟨rfl, rfl, rfl, by decide +kernel, rfl, by decide +kernel, by decide +kernel⟩
abbrev s_l_fit : Stmt := topS 24
abbrev N_l_fit : List Str := ["_law_span", "_law_ticks", "_law_pairs_here", "_law_one", "_law_other"]
theorem sc_l_fit : FnScope N_l_fit ["_law_span", "_law_ticks", "_law_pairs_here"] (defScope s_l_fit) := ⟨rfl, rfl, rfl, by decide +kernel, rfl, by decide +kernel, by decide +kernel⟩
abbrev s_l_pairs : Stmt := topS 25
abbrev N_l_pairs : List Str := ["_law_pond_here", "_law_span", "_law_blocks", "_law_many", "_law_found", "_law_turn", "_law_t"]
theorem sc_l_pairs : FnScope N_l_pairs ["_law_pond_here", "_law_span", "_law_blocks", "_law_many"] (defScope s_l_pairs) := ⟨rfl, rfl, rfl, by decide +kernel, rfl, by decide +kernel, by decide +kernel⟩
abbrev s_l_right : Stmt := topS 26
abbrev N_l_right : List Str := ["_law_pond_here", "_law_span", "_law_ticks", "_law_pairs_here", "_law_due", "_law_factor", "_law_far", "_law_great", "_law_moved", "_law_told", "_law_start", "_law_end_here"]
theorem sc_l_right : FnScope N_l_right ["_law_pond_here", "_law_span", "_law_ticks", "_law_pairs_here"] (defScope s_l_right) := ⟨rfl, rfl, rfl, by decide +kernel, rfl, by decide +kernel, by decide +kernel⟩
abbrev s_law : Stmt := topS 27
abbrev N_law : List Str := ["_law_script", "_law_k", "_law_pond_here", "_law_turn", "_law_span", "_law_blocks", "_law_low", "_law_many", "_law_pairs_here", "_law_ticks", "_law_spot", "_law_other", "_law_end_here", "_law_rises", "_law_t"]
theorem sc_law : FnScope N_law ["_law_script"] (defScope s_law) := ⟨rfl, rfl, rfl, by decide +kernel, rfl, by decide +kernel, by decide +kernel⟩
variable {P : Program} {w : World} {K : PySem.W.Frag} {mg : Str → Option Value} {base : Heap}
theorem ok_is_int (T : DefT K mg "is_int" s_is_int ["value"]) (B : Bt mg)  : Got P w K mg base "is_int" 1 ["value"] sp_is_int :=
  Got.mk T sc_is_int len_is_int t_is_int (fun f cdv A outer s H hr hg => ⟨_,
      (qss_one (qs_ret (q_and (q_callB call_isi (c_isi "int" (by decide +kernel)) B.isinstance_ PyProof.Rows.boot_isinstance (qa_cons (qv 0) (qa_cons (q_bty B.int_ PyProof.Rows.boot_int) qa_nil))) (q_one (q_not (q_callB call_isi (c_isi "bool" (by decide +kernel)) B.isinstance_ PyProof.Rows.boot_isinstance (qa_cons (qv 0) (qa_cons (q_bty B.bool_ PyProof.Rows.boot_bool) qa_nil))))))))⟩) rd_is_int
theorem ok_in_range (T : DefT K mg "in_range" s_in_range ["value", "low", "high"]) (B : Bt mg) (G_is_int : Got P w K mg base "is_int" 1 ["value"] sp_is_int) : Got P w K mg base "in_range" 2 ["value", "low", "high"] sp_in_range :=
  Got.mk T sc_in_range len_in_range t_in_range (fun f cdv A outer s H hr hg => ⟨_,
      (qss_one (qs_ret (q_and (qc G_is_int (hr.mono (by decide)) hg (qa_cons (qv 0) qa_nil)) (q_one (q_chain op_le op_le o_cmp o_cmp (qv 1) (qv 0) (qv 2))))))⟩) rd_in_range
theorem ok_require_cycle (T : DefT K mg "require_cycle" s_require_cycle ["value"]) (B : Bt mg) (c_MOST_CYCLE : ∃ t, mg "MOST_CYCLE" = some (.int 1000000000000000000000000000000 t)) (G_in_range : Got P w K mg base "in_range" 2 ["value", "low", "high"] sp_in_range) : Got P w K mg base "require_cycle" 3 ["value"] sp_require_cycle :=
  Got.mk T sc_require_cycle len_require_cycle t_require_cycle (fun f cdv A outer s H hr hg => ⟨_,
      (qss_one (qs_if (q_notT (q_val (qc G_in_range (hr.mono (by decide)) hg (qa_cons (qv 0) (qa_cons q_int (qa_cons (q_gint c_MOST_CYCLE) qa_nil)))))) (qss_one qs_never) qss_nil))⟩) rd_require_cycle
theorem ok_is_record (T : DefT K mg "is_record" s_is_record ["value"]) (B : Bt mg) (G_is_int : Got P w K mg base "is_int" 1 ["value"] sp_is_int) : Got P w K mg base "is_record" 2 ["value"] sp_is_record :=
  Got.mk T sc_is_record len_is_record t_is_record (fun f cdv A outer s H hr hg => ⟨_,
      (qss_one (qs_ret (q_and (q_callB call_isi (c_isi "tuple" (by decide +kernel)) B.isinstance_ PyProof.Rows.boot_isinstance (qa_cons (qv 0) (qa_cons (q_bty B.tuple_ PyProof.Rows.boot_tuple) qa_nil))) (q_and (q_cmp (op_eqU hr.units) o_eqU (q_callB call_lenU c_len B.len_ PySem.boot_len (qa_cons (qv 0) qa_nil)) q_int (nomark _)) (q_and (qc G_is_int (hr.mono (by decide)) hg (qa_cons (q_ix ix_seq o_ix (qv 0) q_int (fun _ _ => rfl)) qa_nil)) (q_one (qc G_is_int (hr.mono (by decide)) hg (qa_cons (q_ix ix_seq o_ix (qv 0) q_int (fun _ _ => rfl)) qa_nil))))))))⟩) rd_is_record
theorem ok_require_records (T : DefT K mg "require_records" s_require_records ["cycle", "travel", "value"]) (B : Bt mg) (c_MOST_NUMBER : ∃ t, mg "MOST_NUMBER" = some (.int 1000000000000000000000000000000 t)) (c_MOST_RECORDS : ∃ t, mg "MOST_RECORDS" = some (.int 40 t)) (G_in_range : Got P w K mg base "in_range" 2 ["value", "low", "high"] sp_in_range) (G_is_record : Got P w K mg base "is_record" 2 ["value"] sp_is_record) (G_require_cycle : Got P w K mg base "require_cycle" 3 ["value"] sp_require_cycle) : Got P w K mg base "require_records" 4 ["cycle", "travel", "value"] sp_require_records :=
  Got.mk T sc_require_records len_require_records t_require_records (fun f cdv A outer s H hr hg => ⟨_,
      (qss_cons (qs_expr (qc G_require_cycle (hr.mono (by decide)) hg (qa_cons (qv 0) qa_nil)))
      (qss_cons (qs_if (q_notT (q_val (qc G_in_range (hr.mono (by decide)) hg (qa_cons (qv 1) (qa_cons q_int (qa_cons (q_gint c_MOST_NUMBER) qa_nil)))))) (qss_one qs_never) qss_nil)
      (qss_cons (qs_if (QW.t (q_orT (q_notT (q_val (q_callB call_isi (c_isi "list" (by decide +kernel)) B.isinstance_ PyProof.Rows.boot_isinstance (qa_cons (qv 2) (qa_cons (q_bty B.list_ PyProof.Rows.boot_list) qa_nil))))) (q_or1 (q_notT (q_chainT op_le op_le o_cmp o_cmp q_int (q_callB call_lenU c_len B.len_ PySem.boot_len (qa_cons (qv 2) qa_nil)) (q_gint c_MOST_RECORDS)))))) (qss_one qs_never) qss_nil)
      (qss_one (qs_for PassesOwn.never (qi_enum B.enumerate_ (qv 2)) (qg_tup (qgs_cons (qg_name 3 sc_require_records.nd) (qgs_cons (qg_name 4 sc_require_records.nd) qgs_nil))) (qss_one (qs_if (q_notT (q_val (qc G_is_record (hr.mono (by decide)) hg (qa_cons (qv 4) qa_nil)))) (qss_one qs_never) qss_nil)))))))⟩) rd_require_records
theorem ok_overtakes (T : DefT K mg "overtakes" s_overtakes ["cycle", "one", "other"]) (B : Bt mg)  : Got P w K mg base "overtakes" 1 ["cycle", "one", "other"] sp_overtakes :=
  Got.mk T sc_overtakes len_overtakes t_overtakes (fun f cdv A outer s H hr hg => ⟨_,
      (qss_cons (qs_set 3 sc_overtakes.nd (q_op op_fdivW o_fdiv (q_op op_sub o_sub (q_ix ix_seq o_ix (qv 2) q_int (fun _ _ => rfl)) (q_ix ix_seq o_ix (qv 1) q_int (fun _ _ => rfl))) (qv 0)))
      (qss_one (qs_ret (q_cmp op_gt o_cmp (q_op op_addU o_add (q_ix ix_seq o_ix (qv 1) q_int (fun _ _ => rfl)) (q_op op_mulU o_mul (qv 3) (qv 0))) (q_ix ix_seq o_ix (qv 2) q_int (fun _ _ => rfl)) (nomark _)))))⟩) rd_overtakes
theorem ok_first_contradiction (T : DefT K mg "first_contradiction" s_first_contradiction ["cycle", "travel", "records"]) (B : Bt mg) (G_overtakes : Got P w K mg base "overtakes" 1 ["cycle", "one", "other"] sp_overtakes) : Got P w K mg base "first_contradiction" 2 ["cycle", "travel", "records"] sp_first_contradiction :=
  Got.mk T sc_first_contradiction len_first_contradiction t_first_contradiction (fun f cdv A outer s H hr hg => ⟨_,
      (qss_cons (qs_for PassesOwn.never (qi_enum B.enumerate_ (qv 2)) (qg_tup (qgs_cons (qg_name 3 sc_first_contradiction.nd) (qgs_cons (qg_name 4 sc_first_contradiction.nd) qgs_nil))) (qss_cons (qs_if (q_cmpT op_lt o_cmp (q_op op_sub o_sub (q_ix ix_seq o_ix (qv 4) q_int (fun _ _ => rfl)) (q_ix ix_seq o_ix (qv 4) q_int (fun _ _ => rfl))) (qv 1) (nomark _)) (qss_one (qs_ret (q_tup (qa_cons (qv 3) (qa_cons (qv 3) qa_nil))))) qss_nil)
      (qss_one (qs_for PassesOwn.never (qi_range2 B.range_ (q_op op_addU o_add (qv 3) q_int) (q_callB call_lenU c_len B.len_ PySem.boot_len (qa_cons (qv 2) qa_nil))) (qg_name 5 sc_first_contradiction.nd) (qss_one (qs_if (QW.t (q_orT (q_val (qc G_overtakes (hr.mono (by decide)) hg (qa_cons (qv 0) (qa_cons (qv 4) (qa_cons (q_ix ix_seq o_ix (qv 2) (qv 5) (fun _ _ => rfl)) qa_nil))))) (q_or1 (q_val (qc G_overtakes (hr.mono (by decide)) hg (qa_cons (qv 0) (qa_cons (q_ix ix_seq o_ix (qv 2) (qv 5) (fun _ _ => rfl)) (qa_cons (qv 4) qa_nil)))))))) (qss_one (qs_ret (q_tup (qa_cons (qv 3) (qa_cons (qv 5) qa_nil))))) qss_nil))))))
      (qss_one (qs_ret q_non)))⟩) rd_first_contradiction
theorem ok_fits (T : DefT K mg "fits" s_fits ["cycle", "travel", "records"]) (B : Bt mg) (G_first_contradiction : Got P w K mg base "first_contradiction" 2 ["cycle", "travel", "records"] sp_first_contradiction) (G_require_records : Got P w K mg base "require_records" 4 ["cycle", "travel", "value"] sp_require_records) : Got P w K mg base "fits" 5 ["cycle", "travel", "records"] sp_fits :=
  Got.mk T sc_fits len_fits t_fits (fun f cdv A outer s H hr hg => ⟨_,
      (qss_cons (qs_expr (qc G_require_records (hr.mono (by decide)) hg (qa_cons (qv 0) (qa_cons (qv 1) (qa_cons (qv 2) qa_nil)))))
      (qss_one (qs_ret (q_cmp op_isU o_is (qc G_first_contradiction (hr.mono (by decide)) hg (qa_cons (qv 0) (qa_cons (qv 1) (qa_cons (qv 2) qa_nil)))) q_non (nomark _)))))⟩) rd_fits
theorem ok_l_pond (T : DefT K mg "_law_pond" s_l_pond ["_law_script", "_law_k"]) (B : Bt mg)  : Got P w K mg base "_law_pond" 1 ["_law_script", "_law_k"] sp_l_pond :=
  Got.mk T sc_l_pond len_l_pond t_l_pond (fun f cdv A outer s H hr hg => ⟨_,
      (qss_cons (qs_set 2 sc_l_pond.nd q_int)
      (qss_cons (qs_if (q_cmpT op_lt o_cmp (qv 1) (q_callB call_lenU c_len B.len_ PySem.boot_len (qa_cons (qv 0) qa_nil)) (nomark _)) (qss_one (qs_set 2 sc_l_pond.nd (q_ix ix_seq o_ix (qv 0) (qv 1) (fun _ _ => rfl)))) qss_nil)
      (qss_one (qs_ret (q_lstC (qa_cons (q_callB call_maxU c_max B.max_ (by decide +kernel) (qa_cons q_int (qa_cons (q_op op_sub o_sub (qv 2) (q_op op_powW o_pow q_int q_int)) qa_nil))) (qa_cons (q_op op_addU o_add (q_op op_mod o_mod (qv 2) (q_op op_addU o_add (q_op op_powW o_pow q_int q_int) q_int)) (q_op op_mulU o_mul q_int (qv 1))) (qa_cons q_int qa_nil))))))))⟩) rd_l_pond
theorem ok_l_fish_1 (T : DefT K mg "_law_fish" s_l_fish ["_law_pond_here", "_law_bound"]) (B : Bt mg)  : Got P w K mg base "_law_fish" 1 ["_law_pond_here", "_law_bound"] sp_l_fish_1 :=
  Got.mk T sc_l_fish len_l_fish_1 t_l_fish_1 (fun f cdv A outer s H hr hg => ⟨_,
      (qss_cons (qs_if (q_cmpT op_gt o_cmp (qv 1) (q_op op_powW o_pow q_int q_int) (nomark _)) qss_never qss_nil)
      (qss_cons (qs_if (q_cmpT op_gt o_cmp (q_ix ix_seq o_ix (qv 0) q_int (fun _ _ => rfl)) q_int (nomark _)) (qss_cons (qs_set 2 sc_l_fish.nd (q_op op_mod o_mod (q_ix ix_seq o_ix (qv 0) q_int (fun _ _ => rfl)) (qv 1)))
      (qss_cons (qs_asg (q_op op_fdivW o_fdiv (q_ix ix_seq o_ix (qv 0) q_int (fun _ _ => rfl)) (qv 1)) (qg_set (qv 0) q_int))
      (qss_one (qs_ret (qv 2))))) qss_nil)
      (qss_cons (qs_asg (q_op op_addU o_add (q_ix ix_seq o_ix (qv 0) q_int (fun _ _ => rfl)) q_int) (qg_set (qv 0) q_int))
      (qss_cons (qs_set 4 sc_l_fish.nd (q_op op_mod o_mod (q_op op_powW o_pow (q_op op_addU o_add (q_ix ix_seq o_ix (qv 0) q_int (fun _ _ => rfl)) (q_op op_mulU o_mul q_int (q_ix ix_seq o_ix (qv 0) q_int (fun _ _ => rfl)))) q_int) (q_op op_addU o_add (q_op op_powW o_pow q_int q_int) q_int)))
      (qss_cons (qs_set 4 sc_l_fish.nd (q_op op_mod o_mod (q_op op_powW o_pow (q_op op_addU o_add (qv 4) (q_op op_mulU o_mul q_int (q_ix ix_seq o_ix (qv 0) q_int (fun _ _ => rfl)))) q_int) (q_op op_addU o_add (q_op op_powW o_pow q_int q_int) q_int)))
      (qss_one (qs_ret (q_op op_mod o_mod (q_op op_fdivW o_fdiv (qv 4) q_int) (qv 1)))))))))⟩) rd_l_fish_1
theorem ok_l_fish (T : DefT K mg "_law_fish" s_l_fish ["_law_pond_here", "_law_bound"]) (B : Bt mg) (G_l_fish_1 : Got P w K mg base "_law_fish" 1 ["_law_pond_here", "_law_bound"] sp_l_fish_1) : Got P w K mg base "_law_fish" 2 ["_law_pond_here", "_law_bound"] sp_l_fish :=
  Got.mk T sc_l_fish len_l_fish t_l_fish (fun f cdv A outer s H hr hg => ⟨_,
      (qss_cons (qs_if (q_cmpT op_gt o_cmp (qv 1) (q_op op_powW o_pow q_int q_int) (nomark _)) (qss_cons (qs_set 2 sc_l_fish.nd q_int)
      (qss_cons (qs_for PassesOwn.never (qi_range1 B.range_ (q_op op_addU o_add q_int (q_op op_fdivW o_fdiv (q_bits (qv 1)) q_int))) (qg_name 3 sc_l_fish.nd) (qss_one (qs_set 2 sc_l_fish.nd (q_op op_addU o_add (q_op op_mulU o_mul (qv 2) (q_op op_powW o_pow q_int q_int)) (qc G_l_fish_1 (hr.mono (by decide)) hg (qa_cons (qv 0) (qa_cons (q_op op_powW o_pow q_int q_int) qa_nil)))))))
      (qss_one (qs_ret (q_op op_mod o_mod (qv 2) (qv 1)))))) qss_nil)
      (qss_cons (qs_if (q_cmpT op_gt o_cmp (q_ix ix_seq o_ix (qv 0) q_int (fun _ _ => rfl)) q_int (nomark _)) (qss_cons (qs_set 2 sc_l_fish.nd (q_op op_mod o_mod (q_ix ix_seq o_ix (qv 0) q_int (fun _ _ => rfl)) (qv 1)))
      (qss_cons (qs_asg (q_op op_fdivW o_fdiv (q_ix ix_seq o_ix (qv 0) q_int (fun _ _ => rfl)) (qv 1)) (qg_set (qv 0) q_int))
      (qss_one (qs_ret (qv 2))))) qss_nil)
      (qss_cons (qs_asg (q_op op_addU o_add (q_ix ix_seq o_ix (qv 0) q_int (fun _ _ => rfl)) q_int) (qg_set (qv 0) q_int))
      (qss_cons (qs_set 4 sc_l_fish.nd (q_op op_mod o_mod (q_op op_powW o_pow (q_op op_addU o_add (q_ix ix_seq o_ix (qv 0) q_int (fun _ _ => rfl)) (q_op op_mulU o_mul q_int (q_ix ix_seq o_ix (qv 0) q_int (fun _ _ => rfl)))) q_int) (q_op op_addU o_add (q_op op_powW o_pow q_int q_int) q_int)))
      (qss_cons (qs_set 4 sc_l_fish.nd (q_op op_mod o_mod (q_op op_powW o_pow (q_op op_addU o_add (qv 4) (q_op op_mulU o_mul q_int (q_ix ix_seq o_ix (qv 0) q_int (fun _ _ => rfl)))) q_int) (q_op op_addU o_add (q_op op_powW o_pow q_int q_int) q_int)))
      (qss_one (qs_ret (q_op op_mod o_mod (q_op op_fdivW o_fdiv (qv 4) q_int) (qv 1)))))))))⟩) rd_l_fish
theorem ok_l_shape (T : DefT K mg "_law_shape" s_l_shape ["_law_pond_here", "_law_span", "_law_wide"]) (B : Bt mg) (G_l_fish : Got P w K mg base "_law_fish" 2 ["_law_pond_here", "_law_bound"] sp_l_fish) : Got P w K mg base "_law_shape" 3 ["_law_pond_here", "_law_span", "_law_wide"] sp_l_shape :=
  Got.mk T sc_l_shape len_l_shape t_l_shape (fun f cdv A outer s H hr hg => ⟨_,
      (qss_cons (qs_set 3 sc_l_shape.nd (q_opC op_mulU oc_mul (q_lst (qa_cons q_int qa_nil)) (qv 1)))
      (qss_cons (qs_for PassesOwn.never (qi_range1 B.range_ (qc G_l_fish (hr.mono (by decide)) hg (qa_cons (qv 0) (qa_cons (q_op op_addU o_add (q_op op_mulU o_mul q_int (qv 1)) q_int) qa_nil)))) (qg_name 4 sc_l_shape.nd) (qss_cons (qs_par 5 6 sc_l_shape.nd (qa_cons (qc G_l_fish (hr.mono (by decide)) hg (qa_cons (qv 0) (qa_cons (qv 1) qa_nil))) (qa_cons (qc G_l_fish (hr.mono (by decide)) hg (qa_cons (qv 0) (qa_cons (qv 1) qa_nil))) qa_nil)))
      (qss_cons (qs_set 7 sc_l_shape.nd (q_ix ix_seq o_ix (q_lst (qa_cons (q_callB call_minU c_min B.min_ (by decide +kernel) (qa_cons q_int (qa_cons (q_ix ix_seq o_ix (qv 3) (qv 5) (fun _ _ => rfl)) qa_nil))) (qa_cons (q_ix ix_seq o_ix (qv 3) (qv 5) (fun _ _ => rfl)) qa_nil))) (qc G_l_fish (hr.mono (by decide)) hg (qa_cons (qv 0) (qa_cons q_int qa_nil))) (fun _ _ => rfl)))
      (qss_cons (qs_asg (q_op op_sub o_sub (q_ix ix_seq o_ix (qv 3) (qv 5) (fun _ _ => rfl)) (qv 7)) (qg_set (qv 3) (qv 5)))
      (qss_one (qs_asg (q_op op_addU o_add (q_ix ix_seq o_ix (qv 3) (qv 6) (fun _ _ => rfl)) (qv 7)) (qg_set (qv 3) (qv 6))))))))
      (qss_cons (qs_par 8 9 sc_l_shape.nd (qa_cons (q_op op_sub o_sub (qc G_l_fish (hr.mono (by decide)) hg (qa_cons (qv 0) (qa_cons (qv 2) qa_nil))) (q_op op_fdivW o_fdiv (qv 2) q_int)) (qa_cons (q_lstC qa_nil) qa_nil)))
      (qss_cons (qs_for PassesOwn.never (qi_seq (qv 3)) (qg_name 10 sc_l_shape.nd) (qss_cons (qs_expr (q_append (qv 9) (q_tup (qa_cons (qv 8) (qa_cons (q_and (q_cmp op_gt o_cmp (qv 10) q_int (nomark _)) (q_one (q_cmp op_gt o_cmp (qc G_l_fish (hr.mono (by decide)) hg (qa_cons (qv 0) (qa_cons q_int qa_nil))) q_int (nomark _)))) qa_nil)))))
      (qss_one (qs_set 8 sc_l_shape.nd (q_op op_addU o_add (qv 8) (qv 10))))))
      (qss_one (qs_ret (qv 9)))))))⟩) rd_l_shape
theorem ok_l_end (T : DefT K mg "_law_end" s_l_end ["_law_span", "_law_blocks", "_law_t"]) (B : Bt mg)  : Got P w K mg base "_law_end" 1 ["_law_span", "_law_blocks", "_law_t"] sp_l_end :=
  Got.mk T sc_l_end len_l_end t_l_end (fun f cdv A outer s H hr hg => ⟨_,
      (qss_one (qs_ret (q_op op_addU o_add (q_ix ix_seq o_ix (q_ix ix_seq o_ix (qv 1) (q_op op_mod o_mod (qv 2) (qv 0)) (fun _ _ => rfl)) q_int (fun _ _ => rfl)) (q_op op_mulU o_mul (q_op op_fdivW o_fdiv (qv 2) (qv 0)) (qv 0)))))⟩) rd_l_end
theorem ok_l_against (T : DefT K mg "_law_against" s_l_against ["_law_span", "_law_one", "_law_other"]) (B : Bt mg)  : Got P w K mg base "_law_against" 1 ["_law_span", "_law_one", "_law_other"] sp_l_against :=
  Got.mk T sc_l_against len_l_against t_l_against (fun f cdv A outer s H hr hg => ⟨_,
      (qss_cons (qs_set 3 sc_l_against.nd (qv 1))
      (qss_cons (qs_while PassesOwn.never (q_cmpT op_gt o_cmp (q_ix ix_seq o_ix (qv 3) q_int (fun _ _ => rfl)) (q_ix ix_seq o_ix (qv 2) q_int (fun _ _ => rfl)) (nomark _)) (qss_one (qs_set 3 sc_l_against.nd (q_tup (qa_cons (q_op op_sub o_sub (q_ix ix_seq o_ix (qv 3) q_int (fun _ _ => rfl)) (qv 0)) (qa_cons (q_op op_sub o_sub (q_ix ix_seq o_ix (qv 3) q_int (fun _ _ => rfl)) (qv 0)) qa_nil))))))
      (qss_cons (qs_while PassesOwn.never (q_cmpT op_le o_cmp (q_op op_addU o_add (q_ix ix_seq o_ix (qv 3) q_int (fun _ _ => rfl)) (qv 0)) (q_ix ix_seq o_ix (qv 2) q_int (fun _ _ => rfl)) (nomark _)) (qss_one (qs_set 3 sc_l_against.nd (q_tup (qa_cons (q_op op_addU o_add (q_ix ix_seq o_ix (qv 3) q_int (fun _ _ => rfl)) (qv 0)) (qa_cons (q_op op_addU o_add (q_ix ix_seq o_ix (qv 3) q_int (fun _ _ => rfl)) (qv 0)) qa_nil))))))
      (qss_one (qs_ret (q_cmp op_gt o_cmp (q_ix ix_seq o_ix (qv 3) q_int (fun _ _ => rfl)) (q_ix ix_seq o_ix (qv 2) q_int (fun _ _ => rfl)) (nomark _)))))))⟩) rd_l_against
theorem ok_l_fit (T : DefT K mg "_law_fit" s_l_fit ["_law_span", "_law_ticks", "_law_pairs_here"]) (B : Bt mg) (G_l_against : Got P w K mg base "_law_against" 1 ["_law_span", "_law_one", "_law_other"] sp_l_against) : Got P w K mg base "_law_fit" 2 ["_law_span", "_law_ticks", "_law_pairs_here"] sp_l_fit :=
  Got.mk T sc_l_fit len_l_fit t_l_fit (fun f cdv A outer s H hr hg => ⟨_,
      (qss_cons (qs_for PassesOwn.never (qi_seq (qv 2)) (qg_name 3 sc_l_fit.nd) (qss_one (qs_if (QW.t (q_orT (q_cmpT op_lt o_cmp (q_op op_sub o_sub (q_ix ix_seq o_ix (qv 3) q_int (fun _ _ => rfl)) (q_ix ix_seq o_ix (qv 3) q_int (fun _ _ => rfl))) (qv 1) (nomark _)) (q_or1 (q_cmpT (op_neU hr.units) o_neU (q_lcH (own := [("_law_other", 4)]) fin_d sc_l_fit.nd (qi_seq (qv 2)) (blkOk_by (own := [("_law_other", 4)]) (N := N_l_fit) (sc := defScope s_l_fit) (by decide +kernel)) s (qg_name 4 sc_l_fit.nd) (qts_one (q_val (qc G_l_against (hr.mono (by decide)) hg (qa_cons (qv 0) (qa_cons (qv 3) (qa_cons (qv 4) qa_nil)))))) q_int (fun _ _ _ _ _ => (qg_name 4 sc_l_fit.nd)) (fun _ _ _ _ _ => (qts_one (q_val (qc G_l_against (hr.mono (by decide)) hg (qa_cons (qv 0) (qa_cons (qv 3) (qa_cons (qv 4) qa_nil))))))) (fun _ _ _ _ _ => q_int) (by decide)) (q_lst qa_nil) (nomark _))))) (qss_one (qs_ret q_bl)) qss_nil)))
      (qss_one (qs_ret q_bl)))⟩) rd_l_fit
theorem ok_l_pairs (T : DefT K mg "_law_pairs" s_l_pairs ["_law_pond_here", "_law_span", "_law_blocks", "_law_many"]) (B : Bt mg) (G_l_end : Got P w K mg base "_law_end" 1 ["_law_span", "_law_blocks", "_law_t"] sp_l_end) (G_l_fish : Got P w K mg base "_law_fish" 2 ["_law_pond_here", "_law_bound"] sp_l_fish) : Got P w K mg base "_law_pairs" 3 ["_law_pond_here", "_law_span", "_law_blocks", "_law_many"] sp_l_pairs :=
  Got.mk T sc_l_pairs len_l_pairs t_l_pairs (fun f cdv A outer s H hr hg => ⟨_,
      (qss_cons (qs_set 4 sc_l_pairs.nd (q_lstC qa_nil))
      (qss_cons (qs_for PassesOwn.never (qi_range1 B.range_ (qv 3)) (qg_name 5 sc_l_pairs.nd) (qss_cons (qs_set 6 sc_l_pairs.nd (q_op op_sub o_sub (qc G_l_fish (hr.mono (by decide)) hg (qa_cons (qv 0) (qa_cons (q_op op_mulU o_mul q_int (qv 1)) qa_nil))) (q_op op_mulU o_mul q_int (qv 1))))
      (qss_one (qs_expr (q_append (qv 4) (q_tup (qa_cons (qv 6) (qa_cons (qc G_l_end (hr.mono (by decide)) hg (qa_cons (qv 1) (qa_cons (qv 2) (qa_cons (qv 6) qa_nil)))) qa_nil))))))))
      (qss_one (qs_ret (qv 4)))))⟩) rd_l_pairs
theorem ok_l_right (T : DefT K mg "_law_right" s_l_right ["_law_pond_here", "_law_span", "_law_ticks", "_law_pairs_here"]) (B : Bt mg) (G_l_fish : Got P w K mg base "_law_fish" 2 ["_law_pond_here", "_law_bound"] sp_l_fish) (G_l_fit : Got P w K mg base "_law_fit" 2 ["_law_span", "_law_ticks", "_law_pairs_here"] sp_l_fit) (G_fits : Got P w K mg base "fits" 5 ["cycle", "travel", "records"] sp_fits) : Got P w K mg base "_law_right" 6 ["_law_pond_here", "_law_span", "_law_ticks", "_law_pairs_here"] sp_l_right :=
  Got.mk T sc_l_right len_l_right t_l_right (fun f cdv A outer s H hr hg => ⟨_,
      (qss_cons (qs_set 4 sc_l_right.nd (qc G_l_fit (hr.mono (by decide)) hg (qa_cons (qv 1) (qa_cons (qv 2) (qa_cons (qv 3) qa_nil)))))
      (qss_cons (qs_asg (q_tup (qa_cons (q_op op_addU o_add q_int (qc G_l_fish (hr.mono (by decide)) hg (qa_cons (qv 0) (qa_cons (q_op op_fdivW o_fdiv (q_op op_powW o_pow q_int q_int) (q_op op_addU o_add (qv 1) (qv 2))) qa_nil)))) (qa_cons (qc G_l_fish (hr.mono (by decide)) hg (qa_cons (qv 0) (qa_cons (q_op op_powW o_pow q_int q_int) qa_nil))) qa_nil))) (qg_tup (qgs_cons (qg_name 5 sc_l_right.nd) (qgs_cons (qg_name 6 sc_l_right.nd) qgs_nil))))
      (qss_cons (qs_setLcH (own := [("_law_start", 10), ("_law_end_here", 11)]) 7 fin_d sc_l_right.nd (sw_true rfl rfl rfl (by decide +kernel)) (qi_seq (qv 3)) (blkOk_by (own := [("_law_start", 10), ("_law_end_here", 11)]) (N := N_l_right) (sc := defScope s_l_right) (by decide +kernel)) s (qg_tup (qgs_cons (qg_name 10 sc_l_right.nd) (qgs_cons (qg_name 11 sc_l_right.nd) qgs_nil))) qts_nil (q_tup (qa_cons (q_op op_mulU o_mul (qv 10) (qv 5)) (qa_cons (q_op op_mulU o_mul (qv 11) (qv 5)) qa_nil))) (fun _ _ _ _ _ => (qg_tup (qgs_cons (qg_name 10 sc_l_right.nd) (qgs_cons (qg_name 11 sc_l_right.nd) qgs_nil)))) (fun _ _ _ _ _ => qts_nil) (fun _ _ _ _ _ => (q_tup (qa_cons (q_op op_mulU o_mul (qv 10) (qv 5)) (qa_cons (q_op op_mulU o_mul (qv 11) (qv 5)) qa_nil)))) (by decide))
      (qss_cons (qs_setLcH (own := [("_law_start", 10), ("_law_end_here", 11)]) 8 fin_d sc_l_right.nd (sw_true rfl rfl rfl (by decide +kernel)) (qi_seq (q_rev (qv 3))) (blkOk_by (own := [("_law_start", 10), ("_law_end_here", 11)]) (N := N_l_right) (sc := defScope s_l_right) (by decide +kernel)) s (qg_tup (qgs_cons (qg_name 10 sc_l_right.nd) (qgs_cons (qg_name 11 sc_l_right.nd) qgs_nil))) qts_nil (q_tup (qa_cons (q_op op_addU o_add (qv 10) (q_op op_mulU o_mul (qv 6) (qv 1))) (qa_cons (q_op op_addU o_add (qv 11) (q_op op_mulU o_mul (qv 6) (qv 1))) qa_nil))) (fun _ _ _ _ _ => (qg_tup (qgs_cons (qg_name 10 sc_l_right.nd) (qgs_cons (qg_name 11 sc_l_right.nd) qgs_nil)))) (fun _ _ _ _ _ => qts_nil) (fun _ _ _ _ _ => (q_tup (qa_cons (q_op op_addU o_add (qv 10) (q_op op_mulU o_mul (qv 6) (qv 1))) (qa_cons (q_op op_addU o_add (qv 11) (q_op op_mulU o_mul (qv 6) (qv 1))) qa_nil)))) (by decide))
      (qss_cons (qs_set 9 sc_l_right.nd (q_lst (qa_cons (qc G_fits (hr.mono (by decide)) hg (qa_cons (qv 1) (qa_cons (qv 2) (qa_cons (qv 3) qa_nil)))) (qa_cons (qc G_fits (hr.mono (by decide)) hg (qa_cons (qv 1) (qa_cons (qv 2) (qa_cons (qv 8) qa_nil)))) (qa_cons (qc G_fits (hr.mono (by decide)) hg (qa_cons (q_op op_mulU o_mul (qv 1) (qv 5)) (qa_cons (q_op op_mulU o_mul (qv 2) (qv 5)) (qa_cons (qv 7) qa_nil)))) qa_nil)))))
      (qss_cons (qs_set 9 sc_l_right.nd (q_op op_addU o_add (qv 9) (q_lst (qa_cons (qc G_fits (hr.mono (by decide)) hg (qa_cons (qv 1) (qa_cons (qv 2) (qa_cons (q_slice (q_op op_addU o_add (qv 3) (qv 3)) qo_none (qo_some q_int)) qa_nil)))) (qa_cons (qc G_fits (hr.mono (by decide)) hg (qa_cons (qv 1) (qa_cons (qv 2) (qa_cons (q_op op_addU o_add (q_slice (qv 8) qo_none (qo_some q_int)) (q_slice (qv 3) qo_none (qo_some (q_un un_neg o_neg q_int)))) qa_nil)))) qa_nil)))))
      (qss_one (qs_ret (q_cmp (op_eqU hr.units) o_eqU (q_callB (call_reprD hg hr.units) c_repr B.repr_ (by decide +kernel) (qa_cons (qv 9) qa_nil)) (q_callB (call_reprD hg hr.units) c_repr B.repr_ (by decide +kernel) (qa_cons (q_op op_mulU o_mul (q_lst (qa_cons (qv 4) qa_nil)) q_int) qa_nil)) (nomark _))))))))))⟩) rd_l_right
theorem ok_law (T : DefT K mg "law" s_law ["_law_script"]) (B : Bt mg) (G_l_fish : Got P w K mg base "_law_fish" 2 ["_law_pond_here", "_law_bound"] sp_l_fish) (G_l_pairs : Got P w K mg base "_law_pairs" 3 ["_law_pond_here", "_law_span", "_law_blocks", "_law_many"] sp_l_pairs) (G_l_pond : Got P w K mg base "_law_pond" 1 ["_law_script", "_law_k"] sp_l_pond) (G_l_right : Got P w K mg base "_law_right" 6 ["_law_pond_here", "_law_span", "_law_ticks", "_law_pairs_here"] sp_l_right) (G_l_shape : Got P w K mg base "_law_shape" 3 ["_law_pond_here", "_law_span", "_law_wide"] sp_l_shape) (G_fits : Got P w K mg base "fits" 5 ["cycle", "travel", "records"] sp_fits) : Got P w K mg base "law" 7 ["_law_script"] sp_law :=
  Got.mk T sc_law len_law t_law (fun f cdv A outer s H hr hg => ⟨_,
      (qss_cons (qs_for PassesOwn.never (qi_range1 B.range_ (q_callB call_maxU c_max B.max_ (by decide +kernel) (qa_cons q_int (qa_cons (q_callB call_minU c_min B.min_ (by decide +kernel) (qa_cons q_int (qa_cons (q_callB call_lenU c_len B.len_ PySem.boot_len (qa_cons (qv 0) qa_nil)) qa_nil))) qa_nil)))) (qg_name 1 sc_law.nd) (qss_cons (qs_set 2 sc_law.nd (qc G_l_pond (hr.mono (by decide)) hg (qa_cons (qv 0) (qa_cons (qv 1) qa_nil))))
      (qss_one (qs_for PassesOwn.never (qi_range1 B.range_ q_int) (qg_name 3 sc_law.nd) (qss_cons (qs_set 4 sc_law.nd (q_ix ix_seq o_ix (q_lst (qa_cons (q_op op_addU o_add q_int (qc G_l_fish (hr.mono (by decide)) hg (qa_cons (qv 2) (qa_cons q_int qa_nil)))) (qa_cons q_int (qa_cons q_int (qa_cons q_int qa_nil))))) (qc G_l_fish (hr.mono (by decide)) hg (qa_cons (qv 2) (qa_cons q_int qa_nil))) (fun _ _ => rfl)))
      (qss_cons (qs_set 5 sc_law.nd (qc G_l_shape (hr.mono (by decide)) hg (qa_cons (qv 2) (qa_cons (qv 4) (qa_cons (q_op op_addU o_add (q_op op_mulU o_mul q_int (qv 4)) q_int) qa_nil)))))
      (qss_cons (qs_setLcH (own := [("_law_end_here", 12), ("_law_rises", 13)]) 5 fin_d sc_law.nd (sw_true rfl rfl rfl (by decide +kernel)) (qi_seq (qv 5)) (blkOk_by (own := [("_law_end_here", 12), ("_law_rises", 13)]) (N := N_law) (sc := defScope s_law) (by decide +kernel)) s (qg_tup (qgs_cons (qg_name 12 sc_law.nd) (qgs_cons (qg_name 13 sc_law.nd) qgs_nil))) qts_nil (q_tup (qa_cons (q_op op_addU o_add (q_op op_addU o_add (qv 12) (qv 4)) q_int) (qa_cons (qv 13) qa_nil))) (fun _ _ _ _ _ => (qg_tup (qgs_cons (qg_name 12 sc_law.nd) (qgs_cons (qg_name 13 sc_law.nd) qgs_nil)))) (fun _ _ _ _ _ => qts_nil) (fun _ _ _ _ _ => (q_tup (qa_cons (q_op op_addU o_add (q_op op_addU o_add (qv 12) (qv 4)) q_int) (qa_cons (qv 13) qa_nil)))) (by decide))
      (qss_cons (qs_set 6 sc_law.nd (q_callB call_minU c_min B.min_ (by decide +kernel) (qa_cons (q_lcH (own := [("_law_t", 14), ("_law_end_here", 12), ("_law_rises", 13)]) fin_d sc_law.nd (qi_enum B.enumerate_ (qv 5)) (blkOk_by (own := [("_law_t", 14), ("_law_end_here", 12), ("_law_rises", 13)]) (N := N_law) (sc := defScope s_law) (by decide +kernel)) s (qg_tup (qgs_cons (qg_name 14 sc_law.nd) (qgs_cons (qg_tup (qgs_cons (qg_name 12 sc_law.nd) (qgs_cons (qg_name 13 sc_law.nd) qgs_nil))) qgs_nil))) qts_nil (q_op op_sub o_sub (qv 12) (qv 14)) (fun _ _ _ _ _ => (qg_tup (qgs_cons (qg_name 14 sc_law.nd) (qgs_cons (qg_tup (qgs_cons (qg_name 12 sc_law.nd) (qgs_cons (qg_name 13 sc_law.nd) qgs_nil))) qgs_nil)))) (fun _ _ _ _ _ => qts_nil) (fun _ _ _ _ _ => (q_op op_sub o_sub (qv 12) (qv 14))) (by decide)) qa_nil)))
      (qss_cons (qs_set 7 sc_law.nd (q_op op_addU o_add q_int (qc G_l_fish (hr.mono (by decide)) hg (qa_cons (qv 2) (qa_cons (q_ix ix_seq o_ix (q_lst (qa_cons q_int (qa_cons (q_ifExp (q_cmpT (op_eqU hr.units) o_eqU (qv 1) q_int (nomark _)) q_int q_int) qa_nil))) (qc G_l_fish (hr.mono (by decide)) hg (qa_cons (qv 2) (qa_cons q_int qa_nil))) (fun _ _ => rfl)) qa_nil)))))
      (qss_cons (qs_set 8 sc_law.nd (qc G_l_pairs (hr.mono (by decide)) hg (qa_cons (qv 2) (qa_cons (qv 4) (qa_cons (qv 5) (qa_cons (qv 7) qa_nil))))))
      (qss_cons (qs_set 9 sc_law.nd (q_callB call_maxU c_max B.max_ (by decide +kernel) (qa_cons q_int (qa_cons (q_op op_addU o_add (qv 6) (q_ix ix_seq o_ix (q_lst (qa_cons q_int (qa_cons q_int (qa_cons q_int (qa_cons (q_un un_neg o_neg q_int) (qa_cons (q_op op_sub o_sub q_int (qc G_l_fish (hr.mono (by decide)) hg (qa_cons (qv 2) (qa_cons q_int qa_nil)))) qa_nil)))))) (qc G_l_fish (hr.mono (by decide)) hg (qa_cons (qv 2) (qa_cons q_int qa_nil))) (fun _ _ => rfl))) qa_nil))))
      (qss_cons (qs_if (QW.t (q_orT (q_notT (q_val (qc G_l_right (hr.mono (by decide)) hg (qa_cons (qv 2) (qa_cons (qv 4) (qa_cons (qv 9) (qa_cons (qv 8) qa_nil))))))) (q_or1 (QW.t (q_andT (q_cmpT op_ge o_cmp (qv 6) (qv 9) (nomark _)) (q_and1 (q_notT (q_val (qc G_fits (hr.mono (by decide)) hg (qa_cons (qv 4) (qa_cons (qv 9) (qa_cons (qv 8) qa_nil)))))))))))) (qss_one (qs_ret q_bl)) qss_nil)
      (qss_cons (qs_set 10 sc_law.nd (qc G_l_fish (hr.mono (by decide)) hg (qa_cons (qv 2) (qa_cons (q_callB call_lenU c_len B.len_ PySem.boot_len (qa_cons (qv 8) qa_nil)) qa_nil))))
      (qss_cons (qs_set 11 sc_law.nd (q_tup (qa_cons (q_ix ix_seq o_ix (q_ix ix_seq o_ix (qv 8) (qv 10) (fun _ _ => rfl)) q_int (fun _ _ => rfl)) (qa_cons (q_op op_addU o_add (q_ix ix_seq o_ix (q_ix ix_seq o_ix (qv 8) (qv 10) (fun _ _ => rfl)) q_int (fun _ _ => rfl)) (q_ix ix_seq o_ix (q_lst (qa_cons q_int (qa_cons (q_un un_neg o_neg q_int) (qa_cons q_int (qa_cons (qv 4) (qa_cons (q_op op_sub o_sub q_int (qv 4)) qa_nil)))))) (qc G_l_fish (hr.mono (by decide)) hg (qa_cons (qv 2) (qa_cons q_int qa_nil))) (fun _ _ => rfl))) qa_nil))))
      (qss_one (qs_if (q_notT (q_val (qc G_l_right (hr.mono (by decide)) hg (qa_cons (qv 2) (qa_cons (qv 4) (qa_cons (qv 9) (qa_cons (q_op op_addU o_add (q_op op_addU o_add (q_slice (qv 8) qo_none (qo_some (qv 10))) (q_lst (qa_cons (qv 11) qa_nil))) (q_slice (qv 8) (qo_some (q_op op_addU o_add (qv 10) q_int)) qo_none)) qa_nil))))))) (qss_one (qs_ret q_bl)) qss_nil))))))))))))))))
      (qss_one (qs_ret (q_and (qc G_fits (hr.mono (by decide)) hg (qa_cons q_int (qa_cons q_int (qa_cons (q_lst (qa_cons (q_tup (qa_cons q_int (qa_cons q_int qa_nil))) (qa_cons (q_tup (qa_cons q_int (qa_cons q_int qa_nil))) qa_nil))) qa_nil)))) (q_and (q_not (qc G_fits (hr.mono (by decide)) hg (qa_cons q_int (qa_cons q_int (qa_cons (q_lst (qa_cons (q_tup (qa_cons q_int (qa_cons q_int qa_nil))) (qa_cons (q_tup (qa_cons q_int (qa_cons q_int qa_nil))) qa_nil))) qa_nil))))) (q_one (q_not (qc G_fits (hr.mono (by decide)) hg (qa_cons q_int (qa_cons q_int (qa_cons (q_lst (qa_cons (q_tup (qa_cons q_int (qa_cons q_int qa_nil))) qa_nil)) qa_nil)))))))))))⟩) rd_law
theorem all_G {P : Program} {w : World} {K : PySem.W.Frag} {mg : Str → Option Value} {base : Heap}
    (c_MOST_CYCLE : ∃ t, mg "MOST_CYCLE" = some (.int 1000000000000000000000000000000 t)) (c_MOST_NUMBER : ∃ t, mg "MOST_NUMBER" = some (.int 1000000000000000000000000000000 t)) (c_MOST_RECORDS : ∃ t, mg "MOST_RECORDS" = some (.int 40 t)) (B : Bt mg)
    (T_is_int : DefT K mg "is_int" s_is_int ["value"])
    (T_in_range : DefT K mg "in_range" s_in_range ["value", "low", "high"])
    (T_require_cycle : DefT K mg "require_cycle" s_require_cycle ["value"])
    (T_is_record : DefT K mg "is_record" s_is_record ["value"])
    (T_require_records : DefT K mg "require_records" s_require_records ["cycle", "travel", "value"])
    (T_overtakes : DefT K mg "overtakes" s_overtakes ["cycle", "one", "other"])
    (T_first_contradiction : DefT K mg "first_contradiction" s_first_contradiction ["cycle", "travel", "records"])
    (T_fits : DefT K mg "fits" s_fits ["cycle", "travel", "records"])
    (T_l_pond : DefT K mg "_law_pond" s_l_pond ["_law_script", "_law_k"])
    (T_l_fish : DefT K mg "_law_fish" s_l_fish ["_law_pond_here", "_law_bound"])
    (T_l_shape : DefT K mg "_law_shape" s_l_shape ["_law_pond_here", "_law_span", "_law_wide"])
    (T_l_end : DefT K mg "_law_end" s_l_end ["_law_span", "_law_blocks", "_law_t"])
    (T_l_against : DefT K mg "_law_against" s_l_against ["_law_span", "_law_one", "_law_other"])
    (T_l_fit : DefT K mg "_law_fit" s_l_fit ["_law_span", "_law_ticks", "_law_pairs_here"])
    (T_l_pairs : DefT K mg "_law_pairs" s_l_pairs ["_law_pond_here", "_law_span", "_law_blocks", "_law_many"])
    (T_l_right : DefT K mg "_law_right" s_l_right ["_law_pond_here", "_law_span", "_law_ticks", "_law_pairs_here"])
    (T_law : DefT K mg "law" s_law ["_law_script"])
    : Got P w K mg base "law" 7 ["_law_script"] sp_law := by
  have G_is_int := ok_is_int (P := P) (w := w) (base := base) T_is_int B 
  have G_in_range := ok_in_range (P := P) (w := w) (base := base) T_in_range B G_is_int
  have G_require_cycle := ok_require_cycle (P := P) (w := w) (base := base) T_require_cycle B c_MOST_CYCLE G_in_range
  have G_is_record := ok_is_record (P := P) (w := w) (base := base) T_is_record B G_is_int
  have G_require_records := ok_require_records (P := P) (w := w) (base := base) T_require_records B c_MOST_NUMBER c_MOST_RECORDS G_in_range G_is_record G_require_cycle
  have G_overtakes := ok_overtakes (P := P) (w := w) (base := base) T_overtakes B 
  have G_first_contradiction := ok_first_contradiction (P := P) (w := w) (base := base) T_first_contradiction B G_overtakes
  have G_fits := ok_fits (P := P) (w := w) (base := base) T_fits B G_first_contradiction G_require_records
  have G_l_pond := ok_l_pond (P := P) (w := w) (base := base) T_l_pond B 
  have G_l_fish_1 := ok_l_fish_1 (P := P) (w := w) (base := base) T_l_fish B 
  have G_l_fish := ok_l_fish (P := P) (w := w) (base := base) T_l_fish B G_l_fish_1
  have G_l_shape := ok_l_shape (P := P) (w := w) (base := base) T_l_shape B G_l_fish
  have G_l_end := ok_l_end (P := P) (w := w) (base := base) T_l_end B 
  have G_l_against := ok_l_against (P := P) (w := w) (base := base) T_l_against B 
  have G_l_fit := ok_l_fit (P := P) (w := w) (base := base) T_l_fit B G_l_against
  have G_l_pairs := ok_l_pairs (P := P) (w := w) (base := base) T_l_pairs B G_l_end G_l_fish
  have G_l_right := ok_l_right (P := P) (w := w) (base := base) T_l_right B G_l_fish G_l_fit G_fits
  have G_law := ok_law (P := P) (w := w) (base := base) T_law B G_l_fish G_l_pairs G_l_pond G_l_right G_l_shape G_fits
  exact G_law
end K51
open PySem PySem.W PyProof.Rows
set_option maxHeartbeats 0 in
theorem PySem.Challenge.cw_greenroads_k51_records_that_fit_holds : PySem.Challenge.rw_greenroads_k51_records_that_fit.Holds := by
  w_on; o_law; k_head; (case hw => w_witness2)
  k_fill
  refine DL.walk_G (l := PySem.Challenge.rw_greenroads_k51_records_that_fit) (n := 63) (k := 7) (x := "_law_script") (sp := K51.sp_law) rfl (by decide) rfl ⟨rfl, by decide, by decide⟩ (fun w h Y => PySem.W.kIn_of Y) ?F K51.law_true
  case F =>
    intro w mg h KX G base _ _
    refine' K51.all_G (DL.mg_int KX G ?c0) (DL.mg_int KX G ?c1) (DL.mg_int KX G ?c2) ⟨PySem.W.mg_none_of KX G ?b0, PySem.W.mg_none_of KX G ?b1, PySem.W.mg_none_of KX G ?b2, PySem.W.mg_none_of KX G ?b3, PySem.W.mg_none_of KX G ?b4, PySem.W.mg_none_of KX G ?b5, PySem.W.mg_none_of KX G ?b6, PySem.W.mg_none_of KX G ?b7, PySem.W.mg_none_of KX G ?b8, PySem.W.mg_none_of KX G ?b9, PySem.W.mg_none_of KX G ?b10⟩ (DL.defT_mk (st := K51.s_is_int) KX G ?a0 ?l0 ?d0 ?k0 (fun _ _ _ _ _ _ us hl => match us, hl with | [_], _ => rfl))
      (DL.defT_mk (st := K51.s_in_range) KX G ?a1 ?l1 ?d1 ?k1 (fun _ _ _ _ _ _ us hl => match us, hl with | [_, _, _], _ => rfl))
      (DL.defT_mk (st := K51.s_require_cycle) KX G ?a2 ?l2 ?d2 ?k2 (fun _ _ _ _ _ _ us hl => match us, hl with | [_], _ => rfl))
      (DL.defT_mk (st := K51.s_is_record) KX G ?a3 ?l3 ?d3 ?k3 (fun _ _ _ _ _ _ us hl => match us, hl with | [_], _ => rfl))
      (DL.defT_mk (st := K51.s_require_records) KX G ?a4 ?l4 ?d4 ?k4 (fun _ _ _ _ _ _ us hl => match us, hl with | [_, _, _], _ => rfl))
      (DL.defT_mk (st := K51.s_overtakes) KX G ?a5 ?l5 ?d5 ?k5 (fun _ _ _ _ _ _ us hl => match us, hl with | [_, _, _], _ => rfl))
      (DL.defT_mk (st := K51.s_first_contradiction) KX G ?a6 ?l6 ?d6 ?k6 (fun _ _ _ _ _ _ us hl => match us, hl with | [_, _, _], _ => rfl))
      (DL.defT_mk (st := K51.s_fits) KX G ?a7 ?l7 ?d7 ?k7 (fun _ _ _ _ _ _ us hl => match us, hl with | [_, _, _], _ => rfl))
      (DL.defT_mk (st := K51.s_l_pond) KX G ?a8 ?l8 ?d8 ?k8 (fun _ _ _ _ _ _ us hl => match us, hl with | [_, _], _ => rfl))
      (DL.defT_mk (st := K51.s_l_fish) KX G ?a9 ?l9 ?d9 ?k9 (fun _ _ _ _ _ _ us hl => match us, hl with | [_, _], _ => rfl))
      (DL.defT_mk (st := K51.s_l_shape) KX G ?a10 ?l10 ?d10 ?k10 (fun _ _ _ _ _ _ us hl => match us, hl with | [_, _, _], _ => rfl))
      (DL.defT_mk (st := K51.s_l_end) KX G ?a11 ?l11 ?d11 ?k11 (fun _ _ _ _ _ _ us hl => match us, hl with | [_, _, _], _ => rfl))
      (DL.defT_mk (st := K51.s_l_against) KX G ?a12 ?l12 ?d12 ?k12 (fun _ _ _ _ _ _ us hl => match us, hl with | [_, _, _], _ => rfl))
      (DL.defT_mk (st := K51.s_l_fit) KX G ?a13 ?l13 ?d13 ?k13 (fun _ _ _ _ _ _ us hl => match us, hl with | [_, _, _], _ => rfl))
      (DL.defT_mk (st := K51.s_l_pairs) KX G ?a14 ?l14 ?d14 ?k14 (fun _ _ _ _ _ _ us hl => match us, hl with | [_, _, _, _], _ => rfl))
      (DL.defT_mk (st := K51.s_l_right) KX G ?a15 ?l15 ?d15 ?k15 (fun _ _ _ _ _ _ us hl => match us, hl with | [_, _, _, _], _ => rfl))
      (DL.defT_mk (st := K51.s_law) KX G ?a16 ?l16 ?d16 ?k16 (fun _ _ _ _ _ _ us hl => match us, hl with | [_], _ => rfl))
    (case c0 => k_is)
    (case c1 => k_is)
    (case c2 => k_is)
    (case b0 => k_is)
    (case b1 => k_is)
    (case b2 => k_is)
    (case b3 => k_is)
    (case b4 => k_is)
    (case b5 => k_is)
    (case b6 => k_is)
    (case b7 => k_is)
    (case b8 => k_is)
    (case b9 => k_is)
    (case b10 => k_is)
    (case a0 => k_is); (case l0 => k_is); (case d0 => k_is); (case k0 => k_is)
    (case a1 => k_is); (case l1 => k_is); (case d1 => k_is); (case k1 => k_is)
    (case a2 => k_is); (case l2 => k_is); (case d2 => k_is); (case k2 => k_is)
    (case a3 => k_is); (case l3 => k_is); (case d3 => k_is); (case k3 => k_is)
    (case a4 => k_is); (case l4 => k_is); (case d4 => k_is); (case k4 => k_is)
    (case a5 => k_is); (case l5 => k_is); (case d5 => k_is); (case k5 => k_is)
    (case a6 => k_is); (case l6 => k_is); (case d6 => k_is); (case k6 => k_is)
    (case a7 => k_is); (case l7 => k_is); (case d7 => k_is); (case k7 => k_is)
    (case a8 => k_is); (case l8 => k_is); (case d8 => k_is); (case k8 => k_is)
    (case a9 => k_is); (case l9 => k_is); (case d9 => k_is); (case k9 => k_is)
    (case a10 => k_is); (case l10 => k_is); (case d10 => k_is); (case k10 => k_is)
    (case a11 => k_is); (case l11 => k_is); (case d11 => k_is); (case k11 => k_is)
    (case a12 => k_is); (case l12 => k_is); (case d12 => k_is); (case k12 => k_is)
    (case a13 => k_is); (case l13 => k_is); (case d13 => k_is); (case k13 => k_is)
    (case a14 => k_is); (case l14 => k_is); (case d14 => k_is); (case k14 => k_is)
    (case a15 => k_is); (case l15 => k_is); (case d15 => k_is); (case k15 => k_is)
    (case a16 => k_is); (case l16 => k_is); (case d16 => k_is); (case k16 => k_is)
