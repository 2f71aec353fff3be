import PyProof.Rows.All
import Wide.All
import OpenK.AllK
import Wide.FinOn
import HandS.ForMost
import HandS.Wide
import HandS.WideBits
import HandS.TupAny
import HandS.TupMul
import HandS.IsInst
import HandS.Style
import HandS.Flow
import HandS.SortRule
import HandS.SortInts
import PySem.Challenge.RW_greenroads_k03_shortest_greens
set_option Elab.async false
set_option linter.all false
set_option maxRecDepth 100000
set_option maxHeartbeats 2000000
/-! DL: readings over plain data. D: data; Z: data or a numbered cell (a list or dict of the def's own that changes). -/
namespace DL
open PySem L2

inductive D where
  | non | bl (b : Bool) | int (i : Int) | str (x : Str)
  | tup (ds : List D) | lst (ds : List D) | dic (kvs : List (Key × D)) | scr (ns : List Int) | ty (n : String) | obj (a : Addr)
inductive Z where
  | d (x : D) | c (n : Nat)
abbrev Cs := List D
abbrev En := List (Option Z)
abbrev DE := En → Cs → (Z → Cs → Prop) → Prop
abbrev DT := En → Cs → (Bool → Cs → Prop) → Prop
abbrev DA := En → Cs → (List Z → Cs → Prop) → Prop
structure DEnds where
  nx : En → Cs → Prop
  rt : Z → Cs → Prop
  bk : En → Cs → Prop := fun _ _ => False
  ct : En → Cs → Prop := fun _ _ => False
abbrev DS := DEnds → En → Cs → Prop
abbrev DG := Z → En → Cs → (En → Cs → Prop) → Prop
abbrev DGs := List D → En → Cs → (En → Cs → Prop) → Prop
abbrev DI := En → Cs → (List D → (Cs → Prop) → Cs → Prop) → Prop
abbrev DSpec := List Z → Cs → (Z → Cs → Prop) → Prop

mutual
/-- the value v stands for the data, by the objects of S, which never change -/
def Is (K : PySem.W.Frag) (S : Hp) : D → V → Prop
  | .non, v => v = .non
  | .bl b, v => v = .bl b
  | .int i, v => v = .int i
  | .str x, v => v = .str x
  | .tup ds, v => ∃ a vs, v = .ref a ∧ SqT K S a vs ∧ IsL K S ds vs
  | .lst ds, v => ∃ a vs, v = .ref a ∧ S a = some (.lst vs) ∧ IsL K S ds vs
  | .dic kvs, v => ∃ a kv, v = .ref a ∧ S a = some (.dK kv) ∧ IsK K S kvs kv
  | .scr ns, v => ∃ a, v = .ref a ∧ SqL K S a (ns.map V.int)
  | .ty n, v => v = .ty n
  | .obj a, v => v = .ref a
def IsL (K : PySem.W.Frag) (S : Hp) : List D → List V → Prop
  | [], vs => vs = []
  | d :: ds, vs => ∃ v r, vs = v :: r ∧ Is K S d v ∧ IsL K S ds r
def IsK (K : PySem.W.Frag) (S : Hp) : List (Key × D) → List (Key × V) → Prop
  | [], l => l = []
  | kd :: r, l => ∃ v l', l = (kd.1, v) :: l' ∧ Is K S kd.2 v ∧ IsK K S r l'
end

/-- all of S stands in H -/
def Sub (S H : Hp) : Prop := ∀ a o, S a = some o → H a = some o
theorem Sub.refl (S : Hp) : Sub S S := fun _ _ h => h
theorem Sub.trans {S T U : Hp} (a : Sub S T) (b : Sub T U) : Sub S U := fun x o h => b x o (a x o h)
theorem Sub.new {S : Hp} {p : Addr} {o : HO} (h : S p = none) : Sub S (upd S p o) := fun a u e => by
  rw [upd_ne (ne_of_none e h)]
  exact e
theorem Sub.both {S H : Hp} {p : Addr} {o : HO} (h : Sub S H) : Sub (upd S p o) (upd H p o) := fun a u e => by
  by_cases ha : a = p
  · subst ha
    rw [upd_same] at e ⊢
    exact e
  · rw [upd_ne ha] at e ⊢
    exact h a u e
theorem Sub.free {S H : Hp} {p : Addr} (h : Sub S H) (n : H p = none) : S p = none := by
  cases q : S p with
  | none => rfl
  | some o => rw [h p o q] at n; cases n
theorem Sub.other {S H : Hp} {p : Addr} {o : HO} (h : Sub S H) (n : S p = none) : Sub S (upd H p o) := fun a u e => by
  rw [upd_ne (ne_of_none e n)]
  exact h a u e
theorem Sub.rd {S H : Hp} {a : Addr} {u : HO} (e : Sub S H) (h : Rd S a u) : Rd H a u := by
  rcases h with h | ⟨o, h⟩
  · exact Or.inl (e a _ h)
  · exact Or.inr ⟨o, e a _ h⟩
theorem Sub.l {K : PySem.W.Frag} {S H : Hp} {a : Addr} {xs : List V} (e : Sub S H) (h : SqL K S a xs) : SqL K H a xs := by
  rcases h with h | h
  · exact Or.inl (e.rd h)
  · exact Or.inr h
theorem Sub.t {K : PySem.W.Frag} {S H : Hp} {a : Addr} {xs : List V} (e : Sub S H) (h : SqT K S a xs) : SqT K H a xs := by
  rcases h with h | h
  · exact Or.inl (e.rd h)
  · exact Or.inr h

mutual
theorem Is.mono {K : PySem.W.Frag} {S T : Hp} (e : Sub S T) : ∀ (d : D) (v : V), Is K S d v → Is K T d v
  | .non, _, h => h
  | .bl _, _, h => h
  | .int _, _, h => h
  | .str _, _, h => h
  | .tup ds, v, h => by
    obtain ⟨a, vs, h1, h2, h3⟩ := h
    exact ⟨a, vs, h1, e.t h2, IsL.mono e ds vs h3⟩
  | .lst ds, v, h => by
    obtain ⟨a, vs, h1, h2, h3⟩ := h
    exact ⟨a, vs, h1, e _ _ h2, IsL.mono e ds vs h3⟩
  | .dic kvs, v, h => by
    obtain ⟨a, kv, h1, h2, h3⟩ := h
    exact ⟨a, kv, h1, e _ _ h2, IsK.mono e kvs kv h3⟩
  | .scr ns, v, h => by
    obtain ⟨a, h1, h2⟩ := h
    exact ⟨a, h1, e.l h2⟩
  | .ty _, _, h => h
  | .obj _, _, h => h
theorem IsL.mono {K : PySem.W.Frag} {S T : Hp} (e : Sub S T) : ∀ (ds : List D) (vs : List V), IsL K S ds vs → IsL K T ds vs
  | [], _, h => h
  | d :: ds, vs, h => by
    obtain ⟨v, r, h1, h2, h3⟩ := h
    exact ⟨v, r, h1, Is.mono e d v h2, IsL.mono e ds r h3⟩
theorem IsK.mono {K : PySem.W.Frag} {S T : Hp} (e : Sub S T) : ∀ (kvs : List (Key × D)) (l : List (Key × V)), IsK K S kvs l → IsK K T kvs l
  | [], _, h => h
  | kd :: r, l, h => by
    obtain ⟨v, l', h1, h2, h3⟩ := h
    exact ⟨v, l', h1, Is.mono e kd.2 v h2, IsK.mono e r l' h3⟩
end

/-- the object itself read in H, what lies within by S -/
def Sh (K : PySem.W.Frag) (S H : Hp) : D → V → Prop
  | .lst ds, v => ∃ a vs, v = .ref a ∧ H a = some (.lst vs) ∧ IsL K S ds vs
  | .dic kvs, v => ∃ a kv, v = .ref a ∧ H a = some (.dK kv) ∧ IsK K S kvs kv
  | d, v => Is K S d v
theorem Is.sh {K : PySem.W.Frag} {S H : Hp} (e : Sub S H) : ∀ {d : D} {v : V}, Is K S d v → Sh K S H d v
  | .non, _, h => h
  | .bl _, _, h => h
  | .int _, _, h => h
  | .str _, _, h => h
  | .tup _, _, h => h
  | .scr _, _, h => h
  | .ty _, _, h => h
  | .obj _, _, h => h
  | .lst ds, v, h => by
    obtain ⟨a, vs, h1, h2, h3⟩ := h
    exact ⟨a, vs, h1, e _ _ h2, h3⟩
  | .dic kvs, v, h => by
    obtain ⟨a, kv, h1, h2, h3⟩ := h
    exact ⟨a, kv, h1, e _ _ h2, h3⟩

/-- a cell at a: a list or dict that this def (or a caller) may change -/
def CelAt (K : PySem.W.Frag) (S H : Hp) (a : Addr) : D → Prop
  | .lst ds => S a = none ∧ ∃ vs, H a = some (.lst vs) ∧ IsL K S ds vs
  | .dic kvs => S a = none ∧ ∃ kv, H a = some (.dK kv) ∧ IsK K S kvs kv
  | _ => False
structure Rep (K : PySem.W.Frag) (S H : Hp) (as : List Addr) (cs : Cs) : Prop where
  sub : Sub S H
  len : as.length = cs.length
  nod : as.Nodup
  cel : ∀ (n : Nat) (a : Addr) (c : D), as[n]? = some a → cs[n]? = some c → CelAt K S H a c
  liv : ∀ a ∈ as, H a ≠ none
structure Ext (S : Hp) (as : List Addr) (S' : Hp) (as' : List Addr) : Prop where
  sub : Sub S S'
  pre : ∃ more, as' = as ++ more
theorem Ext.refl {S : Hp} {as : List Addr} : Ext S as S as := ⟨Sub.refl S, [], (List.append_nil as).symm⟩
theorem Ext.trans {S T U : Hp} {as bs cs : List Addr} (a : Ext S as T bs) (b : Ext T bs U cs) : Ext S as U cs := by
  obtain ⟨m1, e1⟩ := a.pre
  obtain ⟨m2, e2⟩ := b.pre
  exact ⟨a.sub.trans b.sub, m1 ++ m2, by rw [e2, e1, List.append_assoc]⟩
theorem Ext.of {S S' : Hp} {as : List Addr} (h : Sub S S') : Ext S as S' as := ⟨h, [], (List.append_nil as).symm⟩
theorem Ext.get {S S' : Hp} {as as' : List Addr} (h : Ext S as S' as') {n : Nat} {a : Addr} (e : as[n]? = some a) : as'[n]? = some a := by
  obtain ⟨m, rfl⟩ := h.pre
  rw [List.getElem?_append_left (List.getElem?_eq_some_iff.mp e).1]
  exact e

def VZ (K : PySem.W.Frag) (S : Hp) (as : List Addr) : Z → V → Prop
  | .d x, v => Is K S x v
  | .c n, v => ∃ a, as[n]? = some a ∧ v = .ref a
theorem VZ.mono {K : PySem.W.Frag} {S S' : Hp} {as as' : List Addr} (e : Ext S as S' as') : ∀ {z : Z} {v : V}, VZ K S as z v → VZ K S' as' z v
  | .d _, _, h => Is.mono e.sub _ _ h
  | .c _, _, ⟨a, h1, h2⟩ => ⟨a, e.get h1, h2⟩
def VZL (K : PySem.W.Frag) (S : Hp) (as : List Addr) : List Z → List V → Prop
  | [], vs => vs = []
  | z :: zs, vs => ∃ v r, vs = v :: r ∧ VZ K S as z v ∧ VZL K S as zs r
theorem VZL.mono {K : PySem.W.Frag} {S S' : Hp} {as as' : List Addr} (e : Ext S as S' as') : ∀ {zs : List Z} {vs : List V}, VZL K S as zs vs → VZL K S' as' zs vs
  | [], _, h => h
  | _ :: _, _, ⟨v, r, h1, h2, h3⟩ => ⟨v, r, h1, h2.mono e, VZL.mono e h3⟩
theorem VZL.len {K : PySem.W.Frag} {S : Hp} {as : List Addr} : ∀ {zs : List Z} {vs : List V}, VZL K S as zs vs → vs.length = zs.length
  | [], _, h => by rw [h]; rfl
  | _ :: zs, _, ⟨v, r, h1, h2, h3⟩ => by rw [h1, List.length_cons, List.length_cons, VZL.len h3]

/-- what a Z holds -/
def look (cs : Cs) : Z → Option D
  | .d x => some x
  | .c n => cs[n]?
theorem look_sh {K : PySem.W.Frag} {S H : Hp} {as : List Addr} {cs : Cs} (r : Rep K S H as cs) : ∀ {z : Z} {v : V} {d : D}, VZ K S as z v → look cs z = some d → Sh K S H d v
  | .d x, v, d, h, e => by
    have e' : x = d := Option.some.inj e
    subst e'
    exact h.sh r.sub
  | .c n, v, d, ⟨a, h1, h2⟩, e => by
    have q := r.cel n a d h1 e
    subst h2
    cases d with
    | lst ds =>
      obtain ⟨_, vs, h3, h4⟩ := q
      exact ⟨a, vs, rfl, h3, h4⟩
    | dic kvs =>
      obtain ⟨_, kv, h3, h4⟩ := q
      exact ⟨a, kv, rfl, h3, h4⟩
    | scr _ => exact q.elim
    | ty _ => exact q.elim
    | obj _ => exact q.elim
    | non => exact q.elim
    | bl _ => exact q.elim
    | int _ => exact q.elim
    | str _ => exact q.elim
    | tup _ => exact q.elim

/-- the slots -/
structure EnvOk (K : PySem.W.Frag) (S : Hp) (as : List Addr) (en : En) (σ : L2.St) : Prop where
  len : σ.length = en.length
  at_ : ∀ (i : Nat) (z : Z), en[i]? = some (some z) → ∃ v, σ[i]? = some (some v) ∧ VZ K S as z v
theorem EnvOk.mono {K : PySem.W.Frag} {S S' : Hp} {as as' : List Addr} {en : En} {σ : L2.St} (h : EnvOk K S as en σ) (e : Ext S as S' as') : EnvOk K S' as' en σ :=
  ⟨h.len, fun i z q => let ⟨v, h1, h2⟩ := h.at_ i z q; ⟨v, h1, h2.mono e⟩⟩
theorem EnvOk.set {K : PySem.W.Frag} {S : Hp} {as : List Addr} {en : En} {σ : L2.St} (h : EnvOk K S as en σ) {z : Z} {v : V} (q : VZ K S as z v) (i : Nat) : EnvOk K S as (en.set i (some z)) (σ.set i (some v)) := by
  refine ⟨by rw [List.length_set, List.length_set]; exact h.len, fun j y e => ?_⟩
  by_cases hj : i = j
  · subst hj
    by_cases hi : i < en.length
    · rw [List.getElem?_set_self hi] at e
      cases e
      exact ⟨v, List.getElem?_set_self (by rw [h.len]; exact hi), q⟩
    · rw [List.getElem?_eq_none (by rw [List.length_set]; omega)] at e
      cases e
  · rw [List.getElem?_set_ne hj] at e ⊢
    exact h.at_ j y e
theorem EnvOk.forget {K : PySem.W.Frag} {S : Hp} {as : List Addr} {en : En} {σ : L2.St} (h : EnvOk K S as en σ) (i : Nat) : EnvOk K S as (en.set i none) (σ.set i none) := by
  refine ⟨by rw [List.length_set, List.length_set]; exact h.len, fun j y e => ?_⟩
  by_cases hj : i = j
  · subst hj
    by_cases hi : i < en.length
    · rw [List.getElem?_set_self hi] at e
      cases e
    · rw [List.getElem?_eq_none (by rw [List.length_set]; omega)] at e
      cases e
  · rw [List.getElem?_set_ne hj] at e ⊢
    exact h.at_ j y e
/-- slots forgotten -/
def wipeD (en : En) : List Nat → En
  | [] => en
  | i :: is => (wipeD en is).set i none
theorem EnvOk.wipe {K : PySem.W.Frag} {S : Hp} {as : List Addr} {en : En} {σ : L2.St} (h : EnvOk K S as en σ) : ∀ is : List Nat, EnvOk K S as (wipeD en is) (L2.wipe σ is)
  | [] => h
  | i :: is => (EnvOk.wipe h is).forget i

/-! ### the heap's steps -/
section
variable {K : PySem.W.Frag} {S H : Hp} {as : List Addr} {cs : Cs}
theorem CelAt.mono {S' H' : Hp} {a : Addr} (e : Sub S S') (n : S a = none → S' a = none) (k : H' a = H a) : ∀ {c : D}, CelAt K S H a c → CelAt K S' H' a c
  | .lst ds, ⟨h1, vs, h2, h3⟩ => ⟨n h1, vs, k.trans h2, IsL.mono e _ _ h3⟩
  | .dic kvs, ⟨h1, kv, h2, h3⟩ => ⟨n h1, kv, k.trans h2, IsK.mono e _ _ h3⟩
  | .scr _, h => h.elim
  | .ty _, h => h.elim
  | .obj _, h => h.elim
  | .non, h => h.elim
  | .bl _, h => h.elim
  | .int _, h => h.elim
  | .str _, h => h.elim
  | .tup _, h => h.elim
/-- a new object that never changes -/
theorem Rep.lay (r : Rep K S H as cs) {p : Addr} (hp : H p = none) (o : HO) : Rep K (upd S p o) (upd H p o) as cs := by
  refine ⟨r.sub.both, r.len, r.nod, fun n a c e1 e2 => ?_, fun a ha => ?_⟩
  · have ne : a ≠ p := fun z => by
      subst z
      exact r.liv a (List.mem_of_getElem? e1) hp
    exact CelAt.mono (Sub.new (r.sub.free hp)) (fun q => by rw [upd_ne ne]; exact q) (upd_ne ne) (r.cel n a c e1 e2)
  · by_cases e : a = p
    · subst e; rw [upd_same]; exact fun z => nomatch z
    · rw [upd_ne e]; exact r.liv a ha
theorem Rep.ext (r : Rep K S H as cs) {p : Addr} (hp : H p = none) (o : HO) : Ext S as (upd S p o) as := Ext.of (Sub.new (r.sub.free hp))
/-- a new cell -/
theorem Rep.cell (r : Rep K S H as cs) {p : Addr} (hp : H p = none) {o : HO} {c : D} (h : CelAt K S (upd H p o) p c) : Rep K S (upd H p o) (as ++ [p]) (cs ++ [c]) := by
  have hS := r.sub.free hp
  have np : p ∉ as := fun z => r.liv p z hp
  refine ⟨r.sub.other hS, by rw [List.length_append, List.length_append, r.len]; rfl, ?_, fun n a d e1 e2 => ?_, fun a ha => ?_⟩
  · exact List.nodup_append.mpr ⟨r.nod, by simp, fun x hx y hy => by
      have hy' : y = p := by simpa using hy
      subst hy'
      exact fun z => np (z ▸ hx)⟩
  · by_cases hn : n < as.length
    · rw [List.getElem?_append_left hn] at e1
      rw [List.getElem?_append_left (by rw [← r.len]; exact hn)] at e2
      have ne : a ≠ p := fun z => np (z ▸ List.mem_of_getElem? e1)
      exact CelAt.mono (Sub.refl S) (fun q => q) (upd_ne ne) (r.cel n a d e1 e2)
    · rw [List.getElem?_append_right (by omega)] at e1
      rw [List.getElem?_append_right (by rw [← r.len]; omega)] at e2
      rw [← r.len] at e2
      have hz : n - as.length = 0 := by
        have := (List.getElem?_eq_some_iff.mp e1).1
        simp at this
        omega
      rw [hz] at e1 e2
      cases e1
      cases e2
      exact h
  · rcases List.mem_append.mp ha with ha | ha
    · by_cases e : a = p
      · subst e; rw [upd_same]; exact fun z => nomatch z
      · rw [upd_ne e]; exact r.liv a ha
    · have : a = p := by simpa using ha
      subst this
      rw [upd_same]
      exact fun z => nomatch z
/-- a cell is written -/
theorem Rep.put (r : Rep K S H as cs) {n : Nat} {a : Addr} (hn : as[n]? = some a) {o : HO} {c : D} (h : CelAt K S (upd H a o) a c) (hS : S a = none) : Rep K S (upd H a o) as (cs.set n c) := by
  refine ⟨r.sub.other hS, by rw [List.length_set]; exact r.len, r.nod, fun m b d e1 e2 => ?_, fun b hb => ?_⟩
  · by_cases hm : n = m
    · subst hm
      rw [hn] at e1; cases e1
      have hl : n < cs.length := by rw [← r.len]; exact (List.getElem?_eq_some_iff.mp hn).1
      rw [List.getElem?_set_self hl] at e2; cases e2
      exact h
    · rw [List.getElem?_set_ne hm] at e2
      have ne : b ≠ a := fun z => by
        subst z
        exact hm (nd_ix r.nod hn e1)
      exact CelAt.mono (Sub.refl S) (fun q => q) (upd_ne ne) (r.cel m b d e1 e2)
  · by_cases e : b = a
    · subst e; rw [upd_same]; exact fun z => nomatch z
    · rw [upd_ne e]; exact r.liv b hb
/-- the last cells forgotten -/
theorem Rep.take (r : Rep K S H as cs) (n : Nat) : Rep K S H (as.take n) (cs.take n) := by
  refine ⟨r.sub, by rw [List.length_take, List.length_take, r.len], r.nod.sublist (List.take_sublist _ _), fun m b d e1 e2 => ?_, fun b hb => r.liv b (List.mem_of_mem_take hb)⟩
  rw [List.getElem?_take] at e1 e2
  split at e1
  · rename_i hm
    rw [if_pos hm] at e2
    exact r.cel m b d e1 e2
  · cases e1
theorem Ext.take {S S' : Hp} {as as' : List Addr} (e : Ext S as S' as') : Ext S as S' (as'.take as.length) := by
  obtain ⟨m, rfl⟩ := e.pre
  exact ⟨e.sub, [], by rw [List.take_left, List.append_nil]⟩
end

/-! ### lists of data -/
section
variable {K : PySem.W.Frag} {S : Hp}
theorem IsL.len : ∀ {ds : List D} {vs : List V}, IsL K S ds vs → vs.length = ds.length
  | [], _, h => by rw [IsL] at h; rw [h]; rfl
  | _ :: _, _, h => by
    obtain ⟨v, r, h1, h2, h3⟩ := h
    rw [h1, List.length_cons, List.length_cons, IsL.len h3]
theorem IsL.get : ∀ {ds : List D} {vs : List V} {i : Nat} {d : D}, IsL K S ds vs → ds[i]? = some d → ∃ v, vs[i]? = some v ∧ Is K S d v
  | [], _, _, _, _, e => by simp at e
  | _ :: _, _, 0, _, h, e => by
    obtain ⟨v, r, h1, h2, h3⟩ := h
    have e' := Option.some.inj e
    subst e' h1
    exact ⟨v, rfl, h2⟩
  | _ :: _, _, i + 1, _, h, e => by
    obtain ⟨v, r, h1, h2, h3⟩ := h
    subst h1
    exact IsL.get (i := i) h3 e
theorem IsL.back : ∀ {ds : List D} {vs : List V} {i : Nat} {v : V}, IsL K S ds vs → vs[i]? = some v → ∃ d, ds[i]? = some d ∧ Is K S d v
  | [], _, _, _, h, e => by rw [IsL] at h; rw [h] at e; simp at e
  | d :: _, _, 0, _, h, e => by
    obtain ⟨v, r, h1, h2, h3⟩ := h
    subst h1
    have e' := Option.some.inj e
    subst e'
    exact ⟨d, rfl, h2⟩
  | _ :: _, _, i + 1, _, h, e => by
    obtain ⟨v, r, h1, h2, h3⟩ := h
    subst h1
    exact IsL.back (i := i) h3 e
theorem IsL.append : ∀ {ds es : List D} {vs us : List V}, IsL K S ds vs → IsL K S es us → IsL K S (ds ++ es) (vs ++ us)
  | [], _, _, _, h, g => by rw [IsL] at h; rw [h]; exact g
  | _ :: _, _, _, _, h, g => by
    obtain ⟨v, r, h1, h2, h3⟩ := h
    subst h1
    exact ⟨v, _, rfl, h2, IsL.append h3 g⟩
theorem IsL.set : ∀ {ds : List D} {vs : List V} {i : Nat} {d : D} {v : V}, IsL K S ds vs → Is K S d v → IsL K S (ds.set i d) (vs.set i v)
  | [], _, _, _, _, h, _ => by rw [IsL] at h; rw [h]; exact rfl
  | _ :: _, _, 0, _, _, h, g => by
    obtain ⟨v, r, h1, h2, h3⟩ := h
    subst h1
    exact ⟨_, r, rfl, g, h3⟩
  | _ :: _, _, i + 1, _, _, h, g => by
    obtain ⟨v, r, h1, h2, h3⟩ := h
    subst h1
    exact ⟨v, _, rfl, h2, IsL.set (i := i) h3 g⟩
theorem IsL.take : ∀ {ds : List D} {vs : List V} (n : Nat), IsL K S ds vs → IsL K S (ds.take n) (vs.take n)
  | _, _, 0, _ => rfl
  | [], _, n + 1, h => by rw [IsL] at h; rw [h]; exact rfl
  | _ :: _, _, n + 1, h => by
    obtain ⟨v, r, h1, h2, h3⟩ := h
    subst h1
    exact ⟨v, _, rfl, h2, IsL.take n h3⟩
theorem IsL.drop : ∀ {ds : List D} {vs : List V} (n : Nat), IsL K S ds vs → IsL K S (ds.drop n) (vs.drop n)
  | _, _, 0, h => h
  | [], _, n + 1, h => by rw [IsL] at h; rw [h]; exact rfl
  | _ :: _, _, n + 1, h => by
    obtain ⟨v, r, h1, h2, h3⟩ := h
    subst h1
    exact IsL.drop n h3
theorem IsL.rev : ∀ {ds : List D} {vs : List V}, IsL K S ds vs → IsL K S ds.reverse vs.reverse
  | [], _, h => by rw [IsL] at h; rw [h]; exact rfl
  | _ :: _, _, h => by
    obtain ⟨v, r, h1, h2, h3⟩ := h
    subst h1
    rw [List.reverse_cons, List.reverse_cons]
    exact (IsL.rev h3).append ⟨v, [], rfl, h2, rfl⟩
theorem IsL.ints : ∀ {ns : List Int} {vs : List V}, IsL K S (ns.map D.int) vs → vs = ns.map V.int
  | [], _, h => h
  | n :: ns, _, h => by
    obtain ⟨v, r, h1, h2, h3⟩ := h
    rw [h1, List.map_cons, IsL.ints h3]
    rw [Is] at h2
    rw [h2]
theorem isL_ints : ∀ (ns : List Int), IsL K S (ns.map D.int) (ns.map V.int)
  | [] => rfl
  | n :: ns => ⟨.int n, _, rfl, rfl, isL_ints ns⟩
theorem IsL.bls : ∀ {ns : List Bool} {vs : List V}, IsL K S (ns.map D.bl) vs → vs = ns.map V.bl
  | [], _, h => h
  | n :: ns, _, h => by
    obtain ⟨v, r, h1, h2, h3⟩ := h
    rw [h1, List.map_cons, IsL.bls h3]
    rw [Is] at h2
    rw [h2]
theorem IsL.rep : ∀ {ds : List D} {vs : List V} (n : Nat), IsL K S ds vs → IsL K S (List.replicate n ds).flatten (List.replicate n vs).flatten
  | _, _, 0, _ => rfl
  | ds, vs, n + 1, h => by
    rw [List.replicate_succ, List.replicate_succ, List.flatten_cons, List.flatten_cons]
    exact h.append (IsL.rep n h)
end
/-! ### dicts -/
def getK (kvs : List (Key × D)) (k : Key) : Option D := (kvs.find? fun kv => decide (kv.1 = k)).map (·.2)
def setK (kvs : List (Key × D)) (k : Key) (d : D) : List (Key × D) := if (kvs.any fun kv => decide (kv.1 = k)) = true then kvs.map fun kv => if kv.1 = k then (kv.1, d) else kv else kvs ++ [(k, d)]
end DL
set_option Elab.async false
set_option linter.all false
set_option maxRecDepth 100000
set_option maxHeartbeats 2000000
namespace DL
open PySem L2

/-! ### what a reading over data says of a reading over values -/
def PQ (K : PySem.W.Frag) (S : Hp) (as : List Addr) (k : Z → Cs → Prop) (Q : VK) : Prop :=
  ∀ (z : Z) (v : V) (S' H' : Hp) (as' : List Addr) (cs' : Cs), Ext S as S' as' → Rep K S' H' as' cs' → VZ K S' as' z v → k z cs' → Q v H'
def PB (K : PySem.W.Frag) (S : Hp) (as : List Addr) (k : Bool → Cs → Prop) (Q : Bool → Hp → Prop) : Prop :=
  ∀ (b : Bool) (S' H' : Hp) (as' : List Addr) (cs' : Cs), Ext S as S' as' → Rep K S' H' as' cs' → k b cs' → Q b H'
def PL (K : PySem.W.Frag) (S : Hp) (as : List Addr) (k : List Z → Cs → Prop) (Q : List V → Hp → Prop) : Prop :=
  ∀ (zs : List Z) (vs : List V) (S' H' : Hp) (as' : List Addr) (cs' : Cs), Ext S as S' as' → Rep K S' H' as' cs' → VZL K S' as' zs vs → k zs cs' → Q vs H'
def SemE (K : PySem.W.Frag) (te : TE) (t : DE) : Prop :=
  ∀ (σ : L2.St) (H S : Hp) (as : List Addr) (en : En) (cs : Cs) (k : Z → Cs → Prop) (Q : VK), Rep K S H as cs → EnvOk K S as en σ → t en cs k → PQ K S as k Q → te σ H Q
def SemT (K : PySem.W.Frag) (tt : TT) (t : DT) : Prop :=
  ∀ (σ : L2.St) (H S : Hp) (as : List Addr) (en : En) (cs : Cs) (k : Bool → Cs → Prop) (Q : Bool → Hp → Prop), Rep K S H as cs → EnvOk K S as en σ → t en cs k → PB K S as k Q → tt σ H Q
def SemA (K : PySem.W.Frag) (ta : TA) (t : DA) : Prop :=
  ∀ (σ : L2.St) (H S : Hp) (as : List Addr) (en : En) (cs : Cs) (k : List Z → Cs → Prop) (Q : List V → Hp → Prop), Rep K S H as cs → EnvOk K S as en σ → t en cs k → PL K S as k Q → ta σ H Q
structure QE (X : Cx) (e : Expr) (te : TE) (t : DE) : Prop where
  pe : PE X e te
  sem : SemE X.K te t
structure QT (X : Cx) (e : Expr) (tt : TT) (t : DT) : Prop where
  pt : PT X e tt
  sem : SemT X.K tt t
structure QA (X : Cx) (es : List Expr) (ta : TA) (t : DA) : Prop where
  pa : PA X es ta
  sem : SemA X.K ta t

section
variable {K : PySem.W.Frag} {S T H : Hp} {as bs : List Addr} {cs : Cs}
theorem PQ.mono {k : Z → Cs → Prop} {Q : VK} (e : Ext S as T bs) (h : PQ K S as k Q) : PQ K T bs k Q := fun z v S' H' as' cs' e' => h z v S' H' as' cs' (e.trans e')
theorem PB.mono {k : Bool → Cs → Prop} {Q : Bool → Hp → Prop} (e : Ext S as T bs) (h : PB K S as k Q) : PB K T bs k Q := fun b S' H' as' cs' e' => h b S' H' as' cs' (e.trans e')
theorem PL.mono {k : List Z → Cs → Prop} {Q : List V → Hp → Prop} (e : Ext S as T bs) (h : PL K S as k Q) : PL K T bs k Q := fun z v S' H' as' cs' e' => h z v S' H' as' cs' (e.trans e')
theorem SemE.use {te : TE} {t : DE} (h : SemE K te t) {σ : L2.St} {en : En} {k : Z → Cs → Prop} {Q : VK} (r : Rep K S H as cs) (e : EnvOk K S as en σ) (q : t en cs k) (p : PQ K S as k Q) : te σ H Q := h σ H S as en cs k Q r e q p
end

/-! ### what a Z holds, for an operation -/
def withD (cs : Cs) (z : Z) (k : D → Prop) : Prop :=
  match z with
  | .d x => k x
  | .c n => match cs[n]? with
    | some x => k x
    | none => False
theorem withD_look {cs : Cs} {z : Z} {k : D → Prop} (h : withD cs z k) : ∃ d, look cs z = some d ∧ k d := by
  cases z with
  | d x => exact ⟨x, rfl, h⟩
  | c n =>
    have h' : (match cs[n]? with
      | some x => k x
      | none => False) := h
    show ∃ d, cs[n]? = some d ∧ k d
    cases e : cs[n]? with
    | none => rw [e] at h'; exact h'.elim
    | some x => rw [e] at h'; exact ⟨x, rfl, h'⟩
def withL (cs : Cs) : List Z → (List D → Prop) → Prop
  | [], k => k []
  | z :: zs, k => withD cs z fun x => withL cs zs fun xs => k (x :: xs)
/-- plain data, no cell -/
def datL : List Z → (List D → Prop) → Prop
  | [], k => k []
  | .d x :: zs, k => datL zs fun xs => k (x :: xs)
  | .c _ :: _, _ => False
def ShL (K : PySem.W.Frag) (S H : Hp) : List D → List V → Prop
  | [], vs => vs = []
  | d :: ds, vs => ∃ v r, vs = v :: r ∧ Sh K S H d v ∧ ShL K S H ds r
section
variable {K : PySem.W.Frag} {S H : Hp} {as : List Addr} {cs : Cs}
theorem withL_sh (r : Rep K S H as cs) : ∀ {zs : List Z} {vs : List V} {k : List D → Prop}, VZL K S as zs vs → withL cs zs k → ∃ ds, ShL K S H ds vs ∧ k ds
  | [], _, _, h, q => by rw [h]; exact ⟨[], rfl, q⟩
  | z :: zs, _, _, ⟨v, vr, h1, h2, h3⟩, q => by
    obtain ⟨d, e, q⟩ := withD_look q
    obtain ⟨ds, s, q⟩ := withL_sh r h3 q
    exact ⟨d :: ds, ⟨v, vr, h1, look_sh r h2 e, s⟩, q⟩
theorem datL_is : ∀ {zs : List Z} {vs : List V} {k : List D → Prop}, VZL K S as zs vs → datL zs k → ∃ ds, IsL K S ds vs ∧ k ds
  | [], _, _, h, q => by rw [h]; exact ⟨[], rfl, q⟩
  | .d x :: zs, _, _, ⟨v, vr, h1, h2, h3⟩, q => by
    obtain ⟨ds, s, q⟩ := datL_is h3 q
    exact ⟨x :: ds, ⟨v, vr, h1, h2, s⟩, q⟩
  | .c _ :: _, _, _, _, q => q.elim
end

/-! ### names, constants -/
def dVar (i : Nat) : DE := fun en cs k =>
  match en[i]? with
  | some (some z) => k z cs
  | _ => False
def dC (x : D) : DE := fun _ cs k => k (.d x) cs
section
variable {X : Cx} {pos : Pos}
theorem sem_var {K : PySem.W.Frag} (i : Nat) : SemE K (tVar i) (dVar i) := by
  intro σ H S as en cs k Q r e h p
  unfold dVar at h
  split at h
  · rename_i z hz
    obtain ⟨v, h1, h2⟩ := e.at_ i z hz
    exact ⟨v, h1, p z v S H as cs Ext.refl r h2 h⟩
  · exact h.elim
theorem sem_c {K : PySem.W.Frag} {x : D} {v : V} (h : ∀ S, Is K S x v) : SemE K (tC v) (dC x) := fun σ H S as en cs k Q r e q p => p (.d x) v S H as cs Ext.refl r (h S) q
theorem qv (i : Nat) {x : Str} (hN : X.N[i]? = some x := by rfl) (hv : Vis X.env.scope x := by first | exact Or.inl rfl | exact Or.inr (Or.inl rfl) | exact Or.inr (Or.inr rfl)) (hd : (x == ("__debug__" : Str)) = false := by decide)
    (hcd : (x == ("__classdict__" : Str)) = false := by decide) : QE X (.Name x pos) (tVar i) (dVar i) := ⟨pe_var hN hv hd hcd, sem_var i⟩
theorem q_int {i : Int} {j} : QE X (.Constant (.int i) j pos) (tC (.int i)) (dC (.int i)) := ⟨pe_int, sem_c fun _ => rfl⟩
theorem q_bl {b : Bool} {j} : QE X (.Constant (.bool b) j pos) (tC (.bl b)) (dC (.bl b)) := ⟨pe_bl, sem_c fun _ => rfl⟩
theorem q_non {j} : QE X (.Constant .none j pos) (tC .non) (dC .non) := ⟨pe_non, sem_c fun _ => rfl⟩
theorem q_str {x : Str} {j} : QE X (.Constant (.str x) j pos) (tC (.str x)) (dC (.str x)) := ⟨pe_str, sem_c fun _ => rfl⟩
/-- a module's int -/
theorem q_gint {x : Str} {n : Int} (hm : ∃ t, X.mg x = some (.int n t)) (hg : Gl X x := by rfl) (hd : (x == ("__debug__" : Str)) = false := by decide) : QE X (.Name x pos) (tC (.int n)) (dC (.int n)) := by
  obtain ⟨t, h⟩ := hm
  exact ⟨pe_glob hg h ⟨t, rfl⟩ hd, sem_c fun _ => rfl⟩

/-! ### two-place operations -/
def Op2 (K : PySem.W.Frag) (r : R2) (f : D → D → (D → Prop) → Prop) : Prop :=
  ∀ (S H : Hp) (as : List Addr) (cs : Cs) (dx dy : D) (x y : V) (k : D → Prop) (Q : VK), Rep K S H as cs → Sh K S H dx x → Sh K S H dy y → f dx dy k →
    (∀ (z : D) (v : V) (S' H' : Hp), Sub S S' → Rep K S' H' as cs → Is K S' z v → k z → Q v H') → r x y H Q
def dOp (f : D → D → (D → Prop) → Prop) (a b : DE) : DE := fun en cs k => a en cs fun x cs1 => b en cs1 fun y cs2 => withD cs2 x fun dx => withD cs2 y fun dy => f dx dy fun z => k (.d z) cs2
theorem sem_op {K : PySem.W.Frag} {r : R2} {f : D → D → (D → Prop) → Prop} {ta tb : TE} {da db : DE} (h : Op2 K r f) (ha : SemE K ta da) (hb : SemE K tb db) : SemE K (tOp r ta tb) (dOp f da db) := by
  intro σ H S as en cs k Q rp e q p
  refine ha.use rp e q fun z v S1 H1 as1 cs1 e1 r1 v1 q1 => ?_
  refine hb.use r1 (e.mono e1) q1 fun z2 v2 S2 H2 as2 cs2 e2 r2 w2 q2 => ?_
  obtain ⟨dx, l1, q2⟩ := withD_look q2
  obtain ⟨dy, l2, q2⟩ := withD_look q2
  refine h S2 H2 as2 cs2 dx dy v v2 _ Q r2 (look_sh r2 (v1.mono e2) l1) (look_sh r2 w2 l2) q2 fun z w S' H' s' r' i' k' => ?_
  exact p (.d z) w S' H' as2 cs2 ((e1.trans e2).trans (Ext.of s')) r' i' k'
theorem q_op {op : Operator} {r : R2} {f : D → D → (D → Prop) → Prop} {a b : Expr} {ta tb : TE} {da db : DE} (ho : OpR X (binaryOp op) r) (h : Op2 X.K r f) (ha : QE X a ta da) (hb : QE X b tb db) : QE X (.BinOp a op b pos) (tOp r ta tb) (dOp f da db) :=
  ⟨pe_op ho ha.pe hb.pe, sem_op h ha.sem hb.sem⟩
theorem q_cmp {op : CmpOp} {r : R2} {f : D → D → (D → Prop) → Prop} {a b : Expr} {ta tb : TE} {da db : DE} (ho : OpR X (compareOp op) r) (h : Op2 X.K r f) (ha : QE X a ta da) (hb : QE X b tb db) (hm : behindInMarks op b = false) : QE X (.Compare a [op] [b] pos) (tOp r ta tb) (dOp f da db) :=
  ⟨pe_cmpR ho ha.pe hb.pe hm, sem_op h ha.sem hb.sem⟩
theorem q_ix {r : R2} {f : D → D → (D → Prop) → Prop} {a b : Expr} {ta tb : TE} {da db : DE} (ho : IxR X r) (h : Op2 X.K r f) (ha : QE X a ta da) (hb : QE X b tb db) (hs : PlainIx b) : QE X (.Subscript a b pos) (tOp r ta tb) (dOp f da db) :=
  ⟨pe_ix ho ha.pe hb.pe hs, sem_op h ha.sem hb.sem⟩
/-- a op b op' c -/
def dChain (f g : D → D → (D → Prop) → Prop) (a b c : DE) : DE := fun en cs k => a en cs fun x cs1 => b en cs1 fun y cs2 => withD cs2 x fun dx => withD cs2 y fun dy => f dx dy fun z => ∃ q, z = .bl q ∧
  if q = true then c en cs2 fun w cs3 => withD cs3 y fun dy => withD cs3 w fun dw => g dy dw fun z => k (.d z) cs3 else k (.d (.bl false)) cs2
theorem q_chain {op op' : CmpOp} {r r' : R2} {f g : D → D → (D → Prop) → Prop} {a b c : Expr} {ta tb tc : TE} {da db dc : DE} (ho : OpR X (compareOp op) r) (ho' : OpR X (compareOp op') r') (h : Op2 X.K r f) (h' : Op2 X.K r' g) (ha : QE X a ta da) (hb : QE X b tb db) (hc : QE X c tc dc) (hm : lastMarks [op, op'] [b, c] = false := by with_unfolding_all rfl) :
    QE X (.Compare a [op, op'] [b, c] pos) (tChain r r' ta tb tc) (dChain f g da db dc) := by
  refine ⟨pe_chain ho ho' ha.pe hb.pe hc.pe (hm := hm), ?_⟩
  intro σ H S as en cs k Q rp e q p
  refine ha.sem.use rp e q fun z v S1 H1 as1 cs1 e1 r1 v1 q1 => ?_
  refine hb.sem.use r1 (e.mono e1) q1 fun z2 v2 S2 H2 as2 cs2 e2 r2 w2 q2 => ?_
  obtain ⟨dx, l1, q2⟩ := withD_look q2
  obtain ⟨dy, l2, q2⟩ := withD_look q2
  refine h S2 H2 as2 cs2 dx dy v v2 _ _ r2 (look_sh r2 (v1.mono e2) l1) (look_sh r2 w2 l2) q2 fun z w S3 H3 s3 r3 i3 k3 => ?_
  obtain ⟨b, eb, k3⟩ := k3
  subst eb
  refine ⟨b, i3, ?_⟩
  cases b with
  | true =>
    rw [if_pos rfl] at k3 ⊢
    have e3 : Ext S2 as2 S3 as2 := Ext.of s3
    refine hc.sem.use r3 ((e.mono (e1.trans e2)).mono e3) k3 fun z4 v4 S4 H4 as4 cs4 e4 r4 w4 q4 => ?_
    obtain ⟨dy', l3, q4⟩ := withD_look q4
    obtain ⟨dw, l4, q4⟩ := withD_look q4
    refine h' S4 H4 as4 cs4 dy' dw v2 v4 _ Q r4 (look_sh r4 (w2.mono (e3.trans e4)) l3) (look_sh r4 w4 l4) q4 fun z w S' H' s' r' i' k' => ?_
    exact p (.d z) w S' H' as4 cs4 ((((e1.trans e2).trans e3).trans e4).trans (Ext.of s')) r' i' k'
  | false =>
    rw [if_neg Bool.false_ne_true] at k3 ⊢
    exact p (.d (.bl false)) (.bl false) S3 H3 as2 cs2 ((e1.trans e2).trans (Ext.of s3)) r3 rfl k3
/-- -a -/
def Op1 (K : PySem.W.Frag) (r : V → Hp → VK → Prop) (f : D → (D → Prop) → Prop) : Prop :=
  ∀ (S H : Hp) (as : List Addr) (cs : Cs) (dx : D) (x : V) (k : D → Prop) (Q : VK), Rep K S H as cs → Sh K S H dx x → f dx k →
    (∀ (z : D) (v : V) (S' H' : Hp), Sub S S' → Rep K S' H' as cs → Is K S' z v → k z → Q v H') → r x H Q
def dUn (f : D → (D → Prop) → Prop) (a : DE) : DE := fun en cs k => a en cs fun x cs1 => withD cs1 x fun dx => f dx fun z => k (.d z) cs1
theorem sem_un {K : PySem.W.Frag} {r : V → Hp → VK → Prop} {f : D → (D → Prop) → Prop} {ta : TE} {da : DE} (h : Op1 K r f) (ha : SemE K ta da) : SemE K (tUn r ta) (dUn f da) := by
  intro σ H S as en cs k Q rp e q p
  refine ha.use rp e q fun z v S1 H1 as1 cs1 e1 r1 v1 q1 => ?_
  obtain ⟨dx, l1, q1⟩ := withD_look q1
  refine h S1 H1 as1 cs1 dx v _ Q r1 (look_sh r1 v1 l1) q1 fun z w S' H' s' r' i' k' => ?_
  exact p (.d z) w S' H' as1 cs1 (e1.trans (Ext.of s')) r' i' k'
theorem q_un {op : UnaryOp} {r : V → Hp → VK → Prop} {f : D → (D → Prop) → Prop} {a : Expr} {ta : TE} {da : DE} (ho : UnR X (unaryOp op) r) (h : Op1 X.K r f) (ha : QE X a ta da) : QE X (.UnaryOp op a pos) (tUn r ta) (dUn f da) := ⟨pe_un ho ha.pe, sem_un h ha.sem⟩

/-! ### tests -/
/-- an expression whose value is a bool, as a test -/
def dB (a : DE) : DT := fun en cs k => a en cs fun x cs1 => ∃ b, x = .d (.bl b) ∧ k b cs1
theorem q_val {a : Expr} {ta : TE} {da : DE} (ha : QE X a ta da) (he : ∀ whole, isTrue a X.env whole = (do let v ← whole; standAt a.pos; holding [v] (truthy v)) := by intro _; rfl) : QT X a (tB ta) (dB da) := by
  refine ⟨pt_val ha.pe he, ?_⟩
  intro σ H S as en cs k Q rp e q p
  refine ha.sem.use rp e q fun z v S1 H1 as1 cs1 e1 r1 v1 q1 => ?_
  obtain ⟨b, rfl, q1⟩ := q1
  exact ⟨b, v1, p b S1 H1 as1 cs1 e1 r1 q1⟩
theorem q_cmpT {op : CmpOp} {r : R2} {f : D → D → (D → Prop) → Prop} {a b : Expr} {ta tb : TE} {da db : DE} (ho : OpR X (compareOp op) r) (h : Op2 X.K r f) (ha : QE X a ta da) (hb : QE X b tb db) (hm : behindInMarks op b = false) : QT X (.Compare a [op] [b] pos) (tTest (tOp r ta tb)) (dB (dOp f da db)) := by
  refine ⟨pt_cmpR ho ha.pe hb.pe hm, ?_⟩
  intro σ H S as en cs k Q rp e q p
  refine (sem_op h ha.sem hb.sem).use rp e q fun z v S1 H1 as1 cs1 e1 r1 v1 q1 => ?_
  obtain ⟨b, rfl, q1⟩ := q1
  exact ⟨b, v1, p b S1 H1 as1 cs1 e1 r1 q1⟩
theorem q_chainT {op op' : CmpOp} {r r' : R2} {f g : D → D → (D → Prop) → Prop} {a b c : Expr} {ta tb tc : TE} {da db dc : DE} (ho : OpR X (compareOp op) r) (ho' : OpR X (compareOp op') r') (h : Op2 X.K r f) (h' : Op2 X.K r' g) (ha : QE X a ta da) (hb : QE X b tb db) (hc : QE X c tc dc) (hm : lastMarks [op, op'] [b, c] = false := by with_unfolding_all rfl) :
    QT X (.Compare a [op, op'] [b, c] pos) (tTest (tChain r r' ta tb tc)) (dB (dChain f g da db dc)) := by
  refine ⟨pt_chain ho ho' ha.pe hb.pe hc.pe (hm := hm), ?_⟩
  intro σ H S as en cs k Q rp e q p
  refine (q_chain (pos := pos) ho ho' h h' ha hb hc hm).sem.use rp e q fun z v S1 H1 as1 cs1 e1 r1 v1 q1 => ?_
  obtain ⟨b, rfl, q1⟩ := q1
  exact ⟨b, v1, p b S1 H1 as1 cs1 e1 r1 q1⟩
def dNot (t : DT) : DT := fun en cs k => t en cs fun b cs1 => k (!b) cs1
theorem q_notT {a : Expr} {ta : TT} {da : DT} (ha : QT X a ta da) : QT X (.UnaryOp .Not a pos) (tNot ta) (dNot da) := by
  refine ⟨pt_not ha.pt, ?_⟩
  intro σ H S as en cs k Q rp e q p
  exact ha.sem σ H S as en cs _ _ rp e q fun b S1 H1 as1 cs1 e1 r1 q1 => p (!b) S1 H1 as1 cs1 e1 r1 q1
/-- and, or within a test -/
structure QW (X : Cx) (e : Expr) (tt : TT) (t : DT) : Prop where
  pw : PW X e tt
  sem : SemT X.K tt t
theorem QW.t {e : Expr} {tt : TT} {t : DT} (h : QW X e tt t) : QT X e tt t := ⟨h.pw.pt, h.sem⟩
def dAnd (t u : DT) : DT := fun en cs k => t en cs fun b cs1 => if b = true then u en cs1 k else k false cs1
def dOr (t u : DT) : DT := fun en cs k => t en cs fun b cs1 => if b = true then k true cs1 else u en cs1 k
theorem q_and1 {a : Expr} {ta : TT} {da : DT} (ha : QT X a ta da) : QW X (.BoolOp .And [a] pos) ta da := ⟨pw_and1 ha.pt, ha.sem⟩
theorem q_or1 {a : Expr} {ta : TT} {da : DT} (ha : QT X a ta da) : QW X (.BoolOp .Or [a] pos) ta da := ⟨pw_or1 ha.pt, ha.sem⟩
theorem q_andT {a b : Expr} {rest : List Expr} {ta tb : TT} {da db : DT} (ha : QT X a ta da) (hb : QW X (.BoolOp .And (b :: rest) pos) tb db) : QW X (.BoolOp .And (a :: b :: rest) pos) (tAnd ta tb) (dAnd da db) := by
  refine ⟨pw_and ha.pt hb.pw, ?_⟩
  intro σ H S as en cs k Q rp e q p
  refine ha.sem σ H S as en cs _ _ rp e q fun b S1 H1 as1 cs1 e1 r1 q1 => ?_
  cases b with
  | true =>
    rw [if_pos rfl] at q1 ⊢
    exact hb.sem σ H1 S1 as1 en cs1 k Q r1 (e.mono e1) q1 (p.mono e1)
  | false =>
    rw [if_neg Bool.false_ne_true] at q1 ⊢
    exact p false S1 H1 as1 cs1 e1 r1 q1
theorem q_orT {a b : Expr} {rest : List Expr} {ta tb : TT} {da db : DT} (ha : QT X a ta da) (hb : QW X (.BoolOp .Or (b :: rest) pos) tb db) : QW X (.BoolOp .Or (a :: b :: rest) pos) (tOr ta tb) (dOr da db) := by
  refine ⟨pw_or ha.pt hb.pw, ?_⟩
  intro σ H S as en cs k Q rp e q p
  refine ha.sem σ H S as en cs _ _ rp e q fun b S1 H1 as1 cs1 e1 r1 q1 => ?_
  cases b with
  | true =>
    rw [if_pos rfl] at q1 ⊢
    exact p true S1 H1 as1 cs1 e1 r1 q1
  | false =>
    rw [if_neg Bool.false_ne_true] at q1 ⊢
    exact hb.sem σ H1 S1 as1 en cs1 k Q r1 (e.mono e1) q1 (p.mono e1)
/-- and, or, not as values: all but the last a bool -/
def dAndV (a b : DE) : DE := fun en cs k => a en cs fun x cs1 => ∃ c, x = .d (.bl c) ∧ if c = true then b en cs1 k else k (.d (.bl false)) cs1
def dOrV (a b : DE) : DE := fun en cs k => a en cs fun x cs1 => ∃ c, x = .d (.bl c) ∧ if c = true then k (.d (.bl true)) cs1 else b en cs1 k
def dNotV (a : DE) : DE := fun en cs k => a en cs fun x cs1 => ∃ c, x = .d (.bl c) ∧ k (.d (.bl (!c))) cs1
theorem q_one {op : BoolOp} {a : Expr} {ta : TE} {da : DE} (ha : QE X a ta da) : QE X (.BoolOp op [a] pos) ta da := ⟨pe_one ha.pe, ha.sem⟩
theorem q_and {a b : Expr} {rest : List Expr} {ta tb : TE} {da db : DE} (ha : QE X a ta da) (hb : QE X (.BoolOp .And (b :: rest) pos) tb db) : QE X (.BoolOp .And (a :: b :: rest) pos) (tAndV ta tb) (dAndV da db) := by
  refine ⟨pe_and ha.pe hb.pe, ?_⟩
  intro σ H S as en cs k Q rp e q p
  refine ha.sem.use rp e q fun z v S1 H1 as1 cs1 e1 r1 v1 q1 => ?_
  obtain ⟨c, rfl, q1⟩ := q1
  refine ⟨c, v1, ?_⟩
  cases c with
  | true =>
    rw [if_pos rfl] at q1 ⊢
    exact hb.sem.use r1 (e.mono e1) q1 (p.mono e1)
  | false =>
    rw [if_neg Bool.false_ne_true] at q1 ⊢
    exact p (.d (.bl false)) (.bl false) S1 H1 as1 cs1 e1 r1 rfl q1
theorem q_or {a b : Expr} {rest : List Expr} {ta tb : TE} {da db : DE} (ha : QE X a ta da) (hb : QE X (.BoolOp .Or (b :: rest) pos) tb db) : QE X (.BoolOp .Or (a :: b :: rest) pos) (tOrV ta tb) (dOrV da db) := by
  refine ⟨pe_or ha.pe hb.pe, ?_⟩
  intro σ H S as en cs k Q rp e q p
  refine ha.sem.use rp e q fun z v S1 H1 as1 cs1 e1 r1 v1 q1 => ?_
  obtain ⟨c, rfl, q1⟩ := q1
  refine ⟨c, v1, ?_⟩
  cases c with
  | true =>
    rw [if_pos rfl] at q1 ⊢
    exact p (.d (.bl true)) (.bl true) S1 H1 as1 cs1 e1 r1 rfl q1
  | false =>
    rw [if_neg Bool.false_ne_true] at q1 ⊢
    exact hb.sem.use r1 (e.mono e1) q1 (p.mono e1)
theorem q_not {a : Expr} {ta : TE} {da : DE} (ha : QE X a ta da) : QE X (.UnaryOp .Not a pos) (tNotV ta) (dNotV da) := by
  refine ⟨pe_not ha.pe, ?_⟩
  intro σ H S as en cs k Q rp e q p
  refine ha.sem.use rp e q fun z v S1 H1 as1 cs1 e1 r1 v1 q1 => ?_
  obtain ⟨c, rfl, q1⟩ := q1
  exact ⟨c, v1, p (.d (.bl (!c))) (.bl (!c)) S1 H1 as1 cs1 e1 r1 rfl q1⟩
/-- a if t else b -/
def dIf (t : DT) (a b : DE) : DE := fun en cs k => t en cs fun c cs1 => if c = true then a en cs1 k else b en cs1 k
theorem q_ifExp {c a b : Expr} {tc : TT} {ta tb : TE} {dc : DT} {da db : DE} (hc : QT X c tc dc) (ha : QE X a ta da) (hb : QE X b tb db) : QE X (.IfExp c a b pos) (tIf tc ta tb) (dIf dc da db) := by
  refine ⟨pe_ifExp hc.pt ha.pe hb.pe, ?_⟩
  intro σ H S as en cs k Q rp e q p
  refine hc.sem σ H S as en cs _ _ rp e q fun b S1 H1 as1 cs1 e1 r1 q1 => ?_
  cases b with
  | true =>
    rw [if_pos rfl] at q1 ⊢
    exact ha.sem.use r1 (e.mono e1) q1 (p.mono e1)
  | false =>
    rw [if_neg Bool.false_ne_true] at q1 ⊢
    exact hb.sem.use r1 (e.mono e1) q1 (p.mono e1)

/-! ### arguments, displays -/
def dNil : DA := fun _ cs k => k [] cs
def dCons (a : DE) (r : DA) : DA := fun en cs k => a en cs fun x cs1 => r en cs1 fun xs cs2 => k (x :: xs) cs2
theorem qa_nil : QA X [] tNil dNil := ⟨pa_nil, fun σ H S as en cs k Q r e q p => p [] [] S H as cs Ext.refl r rfl q⟩
theorem qa_cons {a : Expr} {es : List Expr} {ta : TE} {tr : TA} {da : DE} {dr : DA} (ha : QE X a ta da) (hr : QA X es tr dr) (hs : starEach (a :: es) X.env = (false, eval a X.env) :: starEach es X.env := by rfl) : QA X (a :: es) (tCons ta tr) (dCons da dr) := by
  refine ⟨pa_cons ha.pe hr.pa hs, ?_⟩
  intro σ H S as en cs k Q rp e q p
  refine ha.sem.use rp e q fun z v S1 H1 as1 cs1 e1 r1 v1 q1 => ?_
  refine hr.sem σ H1 S1 as1 en cs1 _ _ r1 (e.mono e1) q1 fun zs vs S2 H2 as2 cs2 e2 r2 w2 q2 => ?_
  exact p (z :: zs) (v :: vs) S2 H2 as2 cs2 (e1.trans e2) r2 ⟨v, vs, rfl, v1.mono e2, w2⟩ q2
def dTup (a : DA) : DE := fun en cs k => a en cs fun zs cs1 => datL zs fun ds => ds.length ≤ 100000 ∧ k (.d (.tup ds)) cs1
/-- a list display that will not change; one that will -/
def dLst (a : DA) : DE := fun en cs k => a en cs fun zs cs1 => datL zs fun ds => ds.length ≤ 100000 ∧ k (.d (.lst ds)) cs1
def dLstC (a : DA) : DE := fun en cs k => a en cs fun zs cs1 => datL zs fun ds => ds.length ≤ 100000 ∧ k (.c cs1.length) (cs1 ++ [.lst ds])
theorem size_of {n : Nat} (h : n ≤ 100000) : n ≤ sizeLine := Nat.le_trans h (by decide)
theorem size_lt {n : Nat} (h : n < 100000) : n < sizeLine := Nat.lt_of_lt_of_le h (by decide)
theorem Rep.get_new {K : PySem.W.Frag} {S H : Hp} {as : List Addr} {cs : Cs} (r : Rep K S H as cs) (p : Addr) : (as ++ [p])[cs.length]? = some p := by
  rw [← r.len, List.getElem?_append_right (Nat.le_refl _), Nat.sub_self]
  rfl
theorem q_tup {es : List Expr} {x1} {ta : TA} {da : DA} (ha : QA X es ta da) : QE X (.Tuple es x1 pos) (tTup ta) (dTup da) := by
  refine ⟨pe_tup ha.pa, ?_⟩
  intro σ H S as en cs k Q rp e q p
  refine ha.sem σ H S as en cs _ _ rp e q fun zs vs S1 H1 as1 cs1 e1 r1 v1 q1 => ?_
  obtain ⟨ds, i, hz, q1⟩ := datL_is v1 q1
  refine ⟨by rw [i.len]; exact size_of hz, fun a na => ?_⟩
  refine p (.d (.tup ds)) (.ref a) _ _ as1 cs1 (e1.trans (r1.ext na (.tup vs))) (r1.lay na _) ⟨a, vs, rfl, SqT.of upd_same, IsL.mono (Sub.new (r1.sub.free na)) _ _ i⟩ q1
theorem q_lst {es : List Expr} {ta : TA} {da : DA} (ha : QA X es ta da) : QE X (.List es pos) (tLst ta) (dLst da) := by
  refine ⟨pe_lst ha.pa, ?_⟩
  intro σ H S as en cs k Q rp e q p
  refine ha.sem σ H S as en cs _ _ rp e q fun zs vs S1 H1 as1 cs1 e1 r1 v1 q1 => ?_
  obtain ⟨ds, i, hz, q1⟩ := datL_is v1 q1
  refine ⟨by rw [i.len]; exact size_of hz, fun a na => ?_⟩
  refine p (.d (.lst ds)) (.ref a) _ _ as1 cs1 (e1.trans (r1.ext na (.lst vs))) (r1.lay na _) ⟨a, vs, rfl, upd_same, IsL.mono (Sub.new (r1.sub.free na)) _ _ i⟩ q1
theorem q_lstC {es : List Expr} {ta : TA} {da : DA} (ha : QA X es ta da) : QE X (.List es pos) (tLst ta) (dLstC da) := by
  refine ⟨pe_lst ha.pa, ?_⟩
  intro σ H S as en cs k Q rp e q p
  refine ha.sem σ H S as en cs _ _ rp e q fun zs vs S1 H1 as1 cs1 e1 r1 v1 q1 => ?_
  obtain ⟨ds, i, hz, q1⟩ := datL_is v1 q1
  refine ⟨by rw [i.len]; exact size_of hz, fun a na => ?_⟩
  refine p (.c cs1.length) (.ref a) S1 _ (as1 ++ [a]) _ (e1.trans ⟨Sub.refl _, [a], rfl⟩) (r1.cell na (c := .lst ds) ⟨r1.sub.free na, vs, upd_same, i⟩) ⟨a, r1.get_new a, rfl⟩ q1

/-! ### calls of built-ins by values -/
def Cl (K : PySem.W.Frag) (r : List V → Hp → VK → Prop) (f : List D → (D → Prop) → Prop) : Prop :=
  ∀ (S H : Hp) (as : List Addr) (cs : Cs) (ds : List D) (vs : List V) (k : D → Prop) (Q : VK), Rep K S H as cs → ShL K S H ds vs → f ds k →
    (∀ (z : D) (v : V) (S' H' : Hp), Sub S S' → Rep K S' H' as cs → Is K S' z v → k z → Q v H') → r vs H Q
def dCB (f : List D → (D → Prop) → Prop) (a : DA) : DE := fun en cs k => a en cs fun zs cs1 => withL cs1 zs fun ds => f ds fun z => k (.d z) cs1
theorem sem_cb {K : PySem.W.Frag} {r : List V → Hp → VK → Prop} {f : List D → (D → Prop) → Prop} {ta : TA} {da : DA} (h : Cl K r f) (ha : SemA K ta da) : SemE K (tCB r ta) (dCB f da) := by
  intro σ H S as en cs k Q rp e q p
  refine ha σ H S as en cs _ _ rp e q fun zs vs S1 H1 as1 cs1 e1 r1 v1 q1 => ?_
  obtain ⟨ds, s, q1⟩ := withL_sh r1 v1 q1
  exact h S1 H1 as1 cs1 ds vs _ Q r1 s q1 fun z v S' H' s' r' i' k' => p (.d z) v S' H' as1 cs1 (e1.trans (Ext.of s')) r' i' k'
theorem q_callB {id : String} {x : Str} {p : Pos} {a : Expr} {es : List Expr} {r : List V → Hp → VK → Prop} {f : List D → (D → Prop) → Prop} {ta : TA} {da : DA} (hc : CallR X (.builtin id) r) (h : Cl X.K r f) (hm : X.mg x = none) (hv : bootBuiltins x = some (.builtin id)) (ha : QA X (a :: es) ta da) (hg : Gl X x := by rfl) (hn : x ≠ "__name__" := by decide) (hdb : (x == ("__debug__" : Str)) = false := by decide)
    (he : starEach (a :: es) X.env = (false, eval a X.env) :: starEach es X.env := by rfl) (hpl : (backTo pos (starEach es X.env)).any (·.1) = false := by rfl) : QE X (.Call (.Name x p) (a :: es) [] pos) (tCB r ta) (dCB f da) :=
  ⟨pe_callB hc hg hm hv ha.pa hn hdb he hpl, sem_cb h ha.sem⟩
theorem q_callTy {id : String} {x : Str} {p : Pos} {a : Expr} {es : List Expr} {r : List V → Hp → VK → Prop} {f : List D → (D → Prop) → Prop} {ta : TA} {da : DA} (hc : CallR X (.type id) r) (h : Cl X.K r f) (hm : X.mg x = none) (hv : bootBuiltins x = some (.type id)) (ha : QA X (a :: es) ta da) (hg : Gl X x := by rfl) (hn : x ≠ "__name__" := by decide) (hdb : (x == ("__debug__" : Str)) = false := by decide)
    (he : starEach (a :: es) X.env = (false, eval a X.env) :: starEach es X.env := by rfl) (hpl : (backTo pos (starEach es X.env)).any (·.1) = false := by rfl) : QE X (.Call (.Name x p) (a :: es) [] pos) (tCB r ta) (dCB f da) :=
  ⟨pe_callTy hc hg hm hv ha.pa hn hdb he hpl, sem_cb h ha.sem⟩
end
end DL
set_option Elab.async false
set_option linter.all false
set_option maxRecDepth 100000
set_option maxHeartbeats 2000000
namespace DL
open PySem L2

/-! ### data as the library's data -/
mutual
def py : D → PyData
  | .non => .none
  | .bl b => .bool b
  | .int i => .int i
  | .str x => .str x
  | .tup ds => .tuple (pyL ds)
  | .lst ds => .list (pyL ds)
  | .scr ns => .list (ns.map .int)
  | .dic _ => .none
  | .ty _ => .none
  | .obj _ => .none
def pyL : List D → List PyData
  | [] => []
  | d :: ds => py d :: pyL ds
end
mutual
/-- no dict, no class within -/
def pyOk : D → Bool
  | .non => true
  | .bl _ => true
  | .int _ => true
  | .str _ => true
  | .tup ds => pyOkL ds
  | .lst ds => pyOkL ds
  | .scr _ => true
  | .dic _ => false
  | .ty _ => false
  | .obj _ => false
def pyOkL : List D → Bool
  | [] => true
  | d :: ds => pyOk d && pyOkL ds
end
theorem dp_ints (K : PySem.W.Frag) (H : Hp) : ∀ ns : List Int, DpAll K H (ns.map V.int) (ns.map PyData.int)
  | [] => .nil
  | n :: ns => .cons (.int n) (dp_ints K H ns)
mutual
theorem Is.dp {K : PySem.W.Frag} {S H : Hp} (e : Sub S H) : ∀ (d : D) (v : V), Is K S d v → pyOk d = true → Dp K H v (py d)
  | .non, v, h, _ => by rw [Is] at h; subst h; exact .non
  | .bl b, v, h, _ => by rw [Is] at h; subst h; exact .bl b
  | .int i, v, h, _ => by rw [Is] at h; subst h; exact .int i
  | .str x, v, h, _ => by rw [Is] at h; subst h; exact .str x
  | .tup ds, v, h, o => by
    obtain ⟨a, vs, rfl, h2, h3⟩ := h
    exact .tup (e.t h2) (IsL.dp e ds vs h3 o)
  | .lst ds, v, h, o => by
    obtain ⟨a, vs, rfl, h2, h3⟩ := h
    exact .lst (SqL.of (e _ _ h2)) (IsL.dp e ds vs h3 o)
  | .scr ns, v, h, _ => by
    obtain ⟨a, rfl, h2⟩ := h
    exact .lst (e.l h2) (dp_ints K H ns)
  | .dic _, _, _, o => Bool.noConfusion o
  | .ty _, _, _, o => Bool.noConfusion o
  | .obj _, _, _, o => Bool.noConfusion o
theorem IsL.dp {K : PySem.W.Frag} {S H : Hp} (e : Sub S H) : ∀ (ds : List D) (vs : List V), IsL K S ds vs → pyOkL ds = true → DpAll K H vs (pyL ds)
  | [], _, h, _ => by rw [IsL] at h; subst h; exact .nil
  | d :: ds, _, h, o => by
    obtain ⟨v, r, rfl, h2, h3⟩ := h
    have o' : (pyOk d && pyOkL ds) = true := o
    rw [Bool.and_eq_true] at o'
    exact .cons (Is.dp e d v h2 o'.1) (IsL.dp e ds r h3 o'.2)
end
theorem Sh.dp {K : PySem.W.Frag} {S H : Hp} (e : Sub S H) : ∀ (d : D) (v : V), Sh K S H d v → pyOk d = true → Dp K H v (py d)
  | .lst ds, v, h, o => by
    obtain ⟨a, vs, rfl, h2, h3⟩ := h
    exact .lst (SqL.of h2) (IsL.dp e ds vs h3 o)
  | .tup ds, v, h, o => Is.dp e (.tup ds) v h o
  | .scr ns, v, h, o => Is.dp e (.scr ns) v h o
  | .non, v, h, o => Is.dp e .non v h o
  | .bl b, v, h, o => Is.dp e (.bl b) v h o
  | .int i, v, h, o => Is.dp e (.int i) v h o
  | .str x, v, h, o => Is.dp e (.str x) v h o
  | .dic _, _, _, o => Bool.noConfusion o
  | .ty _, _, _, o => Bool.noConfusion o
  | .obj _, _, _, o => Bool.noConfusion o

/-! ### sizes -/
/-- an int of few bits -/
def Sm (i : Int) : Prop := i.natAbs < 2 ^ 100000
def Dv (j : Int) : Prop := 0 < j ∧ j.natAbs < 2 ^ 8000
/-- an int of at most n bits, either way -/
def Sz (n : Nat) (i : Int) : Prop := i.natAbs < 2 ^ n
theorem Sz.sm {n : Nat} {i : Int} (h : Sz n i) (l : n ≤ 100000) : Sm i := Nat.lt_of_lt_of_le h (Nat.pow_le_pow_right (by decide) l)
theorem Sz.dv {n : Nat} {i : Int} (h : Sz n i) (l : n ≤ 8000) (p : 0 < i) : Dv i := ⟨p, Nat.lt_of_lt_of_le h (Nat.pow_le_pow_right (by decide) l)⟩
theorem Sz.mul {m n : Nat} {i j : Int} (h : Sz m i) (g : Sz n j) : Sz (m + n) (i * j) := wide_lt h g
theorem Sz.le {m n : Nat} {i : Int} (h : Sz m i) (l : m ≤ n) : Sz n i := Nat.lt_of_lt_of_le h (Nat.pow_le_pow_right (by decide) l)
theorem Sz.add {m n : Nat} {i j : Int} (h : Sz m i) (g : Sz n j) : Sz (m + n + 1) (i + j) := by
  have h' := h.le (Nat.le_add_right m n)
  have g' := g.le (Nat.le_add_left n m)
  unfold Sz at *
  rw [Nat.pow_succ]
  omega
theorem Sz.sub {m n : Nat} {i j : Int} (h : Sz m i) (g : Sz n j) : Sz (m + n + 1) (i - j) := by
  have h' := h.le (Nat.le_add_right m n)
  have g' := g.le (Nat.le_add_left n m)
  unfold Sz at *
  rw [Nat.pow_succ]
  omega
theorem Sz.of {n : Nat} {i : Int} (h1 : -((2 ^ n : Nat) : Int) < i) (h2 : i < ((2 ^ n : Nat) : Int)) : Sz n i := by
  unfold Sz
  omega
/-- within 10 ^ 200 -/
theorem Sm.of {i : Int} (h1 : -(10 ^ 200) < i) (h2 : i < 10 ^ 200) : Sm i := by
  have e : (10 : Int) ^ 200 ≤ ((2 ^ 700 : Nat) : Int) := by decide +kernel
  exact (Sz.of (n := 700) (by omega) (by omega)).sm (by decide)
theorem Dv.of {i : Int} (h1 : 0 < i) (h2 : i < 10 ^ 200) : Dv i := by
  have e : (10 : Int) ^ 200 ≤ ((2 ^ 700 : Nat) : Int) := by decide +kernel
  exact (Sz.of (n := 700) (by omega) (by omega)).dv (by decide) h1
theorem Sm.mulW {i j : Int} (h : Sm i) (g : Sm j) : CMulW i j := wide_mul h g (by decide) (by decide) (by decide)
theorem Dv.divW {i j : Int} (h : Dv j) : CDivW i j := wide_div h.1 h.2 (by decide) (by decide)

/-! ### operators over data -/
abbrev rOr (r r' : R2) : R2 := fun x y H Q => r x y H Q ∨ r' x y H Q
def rAddS : R2 := fun x y H Q => ∃ i j, x = .str i ∧ y = .str j ∧ i.length + j.length ≤ sizeLine ∧ Q (.str (i ++ j)) H
def rAddU (K : PySem.W.Frag) : R2 := rOr (rI0 fun i j => .int (i + j)) (rOr rAddS (rOr (rCatA K) rCat))
def rMulU (K : PySem.W.Frag) : R2 := rOr (rI CMulW fun i j => .int (i * j)) (rOr (rRepT K) rRep)
def CPowW (i j : Int) : Prop := 0 ≤ j ∧ (Builtin.Int.intBits i : Int) * j ≤ 2 ^ 27
section
variable {X : Cx}
theorem op_addU : OpR X (binaryOp .Add) (rAddU X.K) := OpR.or op_add (OpR.or op_add_str (OpR.or op_catA op_cat))
theorem op_mulU : OpR X (binaryOp .Mult) (rMulU X.K) := OpR.or op_mulW (OpR.or op_repT op_rep)
theorem op_powW : OpR X (binaryOp .Pow) (rI CPowW fun i j => .int (i ^ j.toNat)) := opI fun _ _ _ _ _ _ _ hc q => PyProof.Rows.pow_int hc.1 hc.2 q
end
def addD : D → D → (D → Prop) → Prop
  | .int i, .int j, k => k (.int (i + j))
  | .str a, .str b, k => a.length + b.length ≤ sizeLine ∧ k (.str (a ++ b))
  | .tup a, .tup b, k => a.length + b.length ≤ 100000 ∧ k (.tup (a ++ b))
  | .lst a, .lst b, k => a.length + b.length ≤ 100000 ∧ k (.lst (a ++ b))
  | _, _, _ => False
def subD : D → D → (D → Prop) → Prop
  | .int i, .int j, k => k (.int (i - j))
  | _, _, _ => False
def mulD : D → D → (D → Prop) → Prop
  | .int i, .int j, k => (Sm i ∧ Sm j) ∧ k (.int (i * j))
  | .tup a, .int n, k => (a ≠ [] ∧ 2 ≤ n ∧ n ≤ 1000 ∧ a.length ≤ 1000) ∧ k (.tup (List.replicate n.toNat a).flatten)
  | .lst a, .int n, k => (0 ≤ n ∧ n ≤ 100000 ∧ a.length ≤ 1000 ∧ a.length * n.toNat ≤ 100000) ∧ k (.lst (List.replicate n.toNat a).flatten)
  | _, _, _ => False
def fdivD : D → D → (D → Prop) → Prop
  | .int i, .int j, k => Dv j ∧ k (.int (i / j))
  | _, _, _ => False
def modD : D → D → (D → Prop) → Prop
  | .int i, .int j, k => 0 < j ∧ k (.int (i % j))
  | _, _, _ => False
def powD : D → D → (D → Prop) → Prop
  | .int i, .int j, k => (0 ≤ j ∧ j ≤ 1000 ∧ Sm i) ∧ k (.int (i ^ j.toNat))
  | _, _, _ => False
def negD : D → (D → Prop) → Prop
  | .int i, k => k (.int (-i))
  | _, _ => False
def cmpI (p : Int → Int → Bool) : D → D → (D → Prop) → Prop
  | .int i, .int j, k => k (.bl (p i j))
  | _, _, _ => False
abbrev ltD := cmpI fun i j => decide (i < j)
abbrev leD := cmpI fun i j => decide (i ≤ j)
abbrev gtD := cmpI fun i j => decide (j < i)
abbrev geD := cmpI fun i j => decide (j ≤ i)
def EqOk (d : D) : Prop := pyOk d = true ∧ SeqAt.shaped (py d) = true
def eqvD (x y : D) : Bool := PyData.eqv (py x) (py y)
def eqD : D → D → (D → Prop) → Prop := fun x y k => (EqOk x ∧ EqOk y) ∧ k (.bl (eqvD x y))
def neD : D → D → (D → Prop) → Prop := fun x y k => (EqOk x ∧ EqOk y) ∧ k (.bl (!eqvD x y))
def isNonD : D → Bool
  | .non => true
  | _ => false
def isD : D → D → (D → Prop) → Prop
  | x, .non, k => k (.bl (isNonD x))
  | .bl a, .bl b, k => k (.bl (decide (a = b)))
  | _, _, _ => False
def isNotD : D → D → (D → Prop) → Prop
  | x, .non, k => k (.bl (!isNonD x))
  | .bl a, .bl b, k => k (.bl (!decide (a = b)))
  | _, _, _ => False
def atD (ds : List D) (i : Int) (k : D → Prop) : Prop :=
  match atI ds i with
  | some d => k d
  | none => False
def ixD : D → D → (D → Prop) → Prop
  | .tup ds, .int i, k => atD ds i k
  | .lst ds, .int i, k => atD ds i k
  | .scr ns, .int i, k => ∃ n, atI ns i = some n ∧ k (.int n)
  | _, _, _ => False

section
variable {K : PySem.W.Frag}
theorem sh_int {S H : Hp} {i : Int} {v : V} (h : Sh K S H (.int i) v) : v = .int i := h
theorem sh_str {S H : Hp} {i : Str} {v : V} (h : Sh K S H (.str i) v) : v = .str i := h
theorem sh_bl {S H : Hp} {i : Bool} {v : V} (h : Sh K S H (.bl i) v) : v = .bl i := h
theorem sh_non {S H : Hp} {v : V} (h : Sh K S H .non v) : v = .non := h
/-- ints to an int -/
theorem o_int {C : Int → Int → Prop} {g : Int → Int → Int} {f : D → D → (D → Prop) → Prop} (hf : ∀ x y k, f x y k → ∃ i j, x = .int i ∧ y = .int j ∧ C i j ∧ k (.int (g i j))) : Op2 K (rI C fun i j => .int (g i j)) f := by
  intro S H as cs dx dy x y k Q r hx hy h q
  obtain ⟨i, j, rfl, rfl, hc, hk⟩ := hf _ _ _ h
  exact ⟨i, j, hx, hy, hc, q (.int (g i j)) _ S H (Sub.refl S) r rfl hk⟩
theorem o_sub : Op2 K (rI0 fun i j => .int (i - j)) subD := by
  intro S H as cs dx dy x y k Q r hx hy h q
  unfold subD at h
  split at h
  · exact ⟨_, _, hx, hy, q (.int _) _ S H (Sub.refl S) r rfl h⟩
  · exact h.elim
theorem o_cmp {p : Int → Int → Bool} : Op2 K (rI0 fun i j => .bl (p i j)) (cmpI p) := by
  intro S H as cs dx dy x y k Q r hx hy h q
  unfold cmpI at h
  split at h
  · exact ⟨_, _, hx, hy, q (.bl _) _ S H (Sub.refl S) r rfl h⟩
  · exact h.elim
theorem o_mod : Op2 K (rI (fun _ j => 0 < j) fun i j => .int (i % j)) modD := o_int fun x y k h => by
  unfold modD at h
  split at h
  · exact ⟨_, _, rfl, rfl, h.1, h.2⟩
  · exact h.elim
theorem o_fdiv : Op2 K (rI CDivW fun i j => .int (i / j)) fdivD := o_int fun x y k h => by
  unfold fdivD at h
  split at h
  · exact ⟨_, _, rfl, rfl, h.1.divW, h.2⟩
  · exact h.elim
theorem o_pow : Op2 K (rI CPowW fun i j => .int (i ^ j.toNat)) powD := o_int fun x y k h => by
  unfold powD at h
  split at h
  · rename_i i j
    obtain ⟨⟨h0, h1, h2⟩, h3⟩ := h
    refine ⟨_, _, rfl, rfl, ⟨h0, ?_⟩, h3⟩
    have b : Builtin.Int.intBits i ≤ i.natAbs.log2 + 1 := by
      unfold Builtin.Int.intBits
      split <;> omega
    have l : i.natAbs.log2 < 100000 := PySem.Flt.log2_lt_of (by decide) h2
    have hb : (Builtin.Int.intBits i : Int) ≤ 100000 := by omega
    have h4 : (Builtin.Int.intBits i : Int) * j ≤ 100000 * j := Int.mul_le_mul_of_nonneg_right hb h0
    have h5 : 100000 * j ≤ 100000 * 1000 := Int.mul_le_mul_of_nonneg_left h1 (by decide)
    have h6 : (100000 * 1000 : Int) ≤ 2 ^ 27 := by decide
    exact Int.le_trans h4 (Int.le_trans h5 h6)
  · exact h.elim
theorem o_neg : Op1 K (rU fun i => .int (-i)) negD := by
  intro S H as cs dx x k Q r hx h q
  unfold negD at h
  split at h
  · exact ⟨_, hx, q (.int _) _ S H (Sub.refl S) r rfl h⟩
  · exact h.elim
theorem o_add : Op2 K (rAddU K) addD := by
  intro S H as cs dx dy x y k Q r hx hy h q
  unfold addD at h
  split at h
  · exact .inl ⟨_, _, hx, hy, q (.int _) _ S H (Sub.refl S) r rfl h⟩
  · exact .inr (.inl ⟨_, _, hx, hy, h.1, q (.str _) _ S H (Sub.refl S) r rfl h.2⟩)
  · obtain ⟨a, vs, rfl, hs, is⟩ := hx
    obtain ⟨b, us, rfl, ht, it⟩ := hy
    obtain ⟨hz, hk⟩ := h
    refine .inr (.inr (.inl ⟨a, b, vs, us, rfl, rfl, r.sub.t hs, r.sub.t ht, by rw [is.len, it.len]; exact size_of hz, fun e => ?_, fun _ e => ?_, fun _ _ p hp => ?_⟩))
    · have i2 := is.append it
      rw [e, List.nil_append] at i2
      exact q (.tup _) _ S H (Sub.refl S) r ⟨b, us, rfl, ht, i2⟩ hk
    · have i2 := is.append it
      rw [e, List.append_nil] at i2
      exact q (.tup _) _ S H (Sub.refl S) r ⟨a, vs, rfl, hs, i2⟩ hk
    · have hn := Sub.new (o := .tup (vs ++ us)) (r.sub.free hp)
      exact q (.tup _) _ _ _ hn (r.lay hp _) ⟨p, vs ++ us, rfl, SqT.of upd_same, IsL.mono hn _ _ (is.append it)⟩ hk
  · obtain ⟨a, vs, rfl, hs, is⟩ := hx
    obtain ⟨b, us, rfl, ht, it⟩ := hy
    obtain ⟨hz, hk⟩ := h
    refine .inr (.inr (.inr ⟨a, b, vs, us, rfl, rfl, hs, ht, by rw [is.len, it.len]; exact size_of hz, fun p hp => ?_⟩))
    have hn := Sub.new (o := .lst (vs ++ us)) (r.sub.free hp)
    exact q (.lst _) _ _ _ hn (r.lay hp _) ⟨p, vs ++ us, rfl, upd_same, IsL.mono hn _ _ (is.append it)⟩ hk
  · exact h.elim
theorem o_mul : Op2 K (rMulU K) mulD := by
  intro S H as cs dx dy x y k Q r hx hy h q
  unfold mulD at h
  split at h
  · exact .inl ⟨_, _, hx, hy, h.1.1.mulW h.1.2, q (.int _) _ S H (Sub.refl S) r rfl h.2⟩
  · rename_i l n
    obtain ⟨a, vs, rfl, hs, is⟩ := hx
    obtain ⟨⟨h1, h2, h3, h4⟩, hk⟩ := h
    refine .inr (.inl ⟨a, _, vs, rfl, hy, r.sub.t hs, fun e => ?_, h2, h3, by rw [is.len]; exact h4, fun p hp => ?_⟩)
    · have := is.len
      rw [e] at this
      exact h1 (List.eq_nil_of_length_eq_zero this.symm)
    · have hn := Sub.new (o := .tup (List.replicate n.toNat vs).flatten) (r.sub.free hp)
      exact q (.tup _) _ _ _ hn (r.lay hp _) ⟨p, _, rfl, SqT.of upd_same, IsL.mono hn _ _ (is.rep _)⟩ hk
  · rename_i l n
    obtain ⟨a, vs, rfl, hs, is⟩ := hx
    obtain ⟨⟨h1, h2, h3, h4⟩, hk⟩ := h
    refine .inr (.inr ⟨a, _, vs, rfl, hy, hs, by omega, by omega, by rw [is.len]; exact size_of h4, fun p hp => ?_⟩)
    have hn := Sub.new (o := .lst (List.replicate n.toNat vs).flatten) (r.sub.free hp)
    exact q (.lst _) _ _ _ hn (r.lay hp _) ⟨p, _, rfl, upd_same, IsL.mono hn _ _ (is.rep _)⟩ hk
  · exact h.elim
theorem o_eq : Op2 K (rEqD K) eqD := by
  intro S H as cs dx dy x y k Q r hx hy h q
  obtain ⟨⟨⟨a1, a2⟩, b1, b2⟩, hk⟩ := h
  exact ⟨py dx, py dy, hx.dp r.sub _ _ a1, hy.dp r.sub _ _ b1, a2, b2, q (.bl _) _ S H (Sub.refl S) r rfl hk⟩
theorem o_ne : Op2 K (rNeD K) neD := by
  intro S H as cs dx dy x y k Q r hx hy h q
  obtain ⟨⟨⟨a1, a2⟩, b1, b2⟩, hk⟩ := h
  exact ⟨py dx, py dy, hx.dp r.sub _ _ a1, hy.dp r.sub _ _ b1, a2, b2, q (.bl _) _ S H (Sub.refl S) r rfl hk⟩
theorem sh_isNon {S H : Hp} {d : D} {v : V} (h : Sh K S H d v) : decide (v = .non) = isNonD d := by
  cases d with
  | non => rw [sh_non h]; rfl
  | bl b => rw [sh_bl h]; rfl
  | int i => rw [sh_int h]; rfl
  | str x => rw [sh_str h]; rfl
  | tup ds => obtain ⟨a, vs, rfl, _⟩ := h; rfl
  | lst ds => obtain ⟨a, vs, rfl, _⟩ := h; rfl
  | dic ds => obtain ⟨a, vs, rfl, _⟩ := h; rfl
  | scr ds => obtain ⟨a, rfl, _⟩ := h; rfl
  | ty n => rw [show v = .ty n from h]; rfl
  | obj a => rw [show v = .ref a from h]; rfl
def rIsU : R2 := rOr (fun x y H Q => y = .non ∧ Q (.bl (decide (x = .non))) H) rIsB
def rIsNotU : R2 := rOr (fun x y H Q => y = .non ∧ Q (.bl (!decide (x = .non))) H) rNotB
theorem op_isU {X : Cx} : OpR X (compareOp .Is) rIsU := OpR.or op_isN op_isBl
theorem op_isNotU {X : Cx} : OpR X (compareOp .IsNot) rIsNotU := OpR.or op_notN op_notBl
theorem o_is : Op2 K rIsU isD := by
  intro S H as cs dx dy x y k Q r hx hy h q
  unfold isD at h
  split at h
  · exact .inl ⟨hy, q (.bl _) _ S H (Sub.refl S) r (by rw [sh_isNon hx]; rfl) h⟩
  · exact .inr ⟨_, _, hx, hy, q (.bl _) _ S H (Sub.refl S) r rfl h⟩
  · exact h.elim
theorem o_isNot : Op2 K rIsNotU isNotD := by
  intro S H as cs dx dy x y k Q r hx hy h q
  unfold isNotD at h
  split at h
  · exact .inl ⟨hy, q (.bl _) _ S H (Sub.refl S) r (by rw [sh_isNon hx]; rfl) h⟩
  · exact .inr ⟨_, _, hx, hy, q (.bl _) _ S H (Sub.refl S) r rfl h⟩
  · exact h.elim
theorem IsL.atI {S : Hp} {ds : List D} {vs : List V} {i : Int} {d : D} (h : IsL K S ds vs) (e : L2.atI ds i = some d) : ∃ v, L2.atI vs i = some v ∧ Is K S d v := by
  unfold L2.atI at e ⊢
  rw [h.len]
  cases q : ixN ds.length i with
  | none => rw [q] at e; exact nomatch e
  | some j =>
    rw [q] at e
    exact h.get e
theorem atI_map {α β : Type} (f : α → β) (xs : List α) (i : Int) : atI (xs.map f) i = (atI xs i).map f := by
  unfold atI
  rw [List.length_map]
  cases ixN xs.length i with
  | none => rfl
  | some j => show (xs.map f)[j]? = (xs[j]?).map f; rw [List.getElem?_map]
theorem o_ix : Op2 K (rIx K) ixD := by
  intro S H as cs dx dy x y k Q r hx hy h q
  unfold ixD at h
  split at h
  · obtain ⟨a, vs, rfl, hs, is⟩ := hx
    unfold atD at h
    split at h
    · rename_i d e
      obtain ⟨v, e2, iv⟩ := is.atI e
      exact .inr (.inl ⟨a, vs, _, v, rfl, hy, r.sub.t hs, e2, q d v S H (Sub.refl S) r iv h⟩)
    · exact h.elim
  · obtain ⟨a, vs, rfl, hs, is⟩ := hx
    unfold atD at h
    split at h
    · rename_i d e
      obtain ⟨v, e2, iv⟩ := is.atI e
      exact .inl ⟨a, vs, _, v, rfl, hy, SqL.of hs, e2, q d v S H (Sub.refl S) r iv h⟩
    · exact h.elim
  · obtain ⟨a, rfl, hs⟩ := hx
    obtain ⟨n, e, hk⟩ := h
    refine .inl ⟨a, _, _, .int n, rfl, hy, r.sub.l hs, by rw [atI_map, e]; rfl, q (.int n) _ S H (Sub.refl S) r rfl hk⟩
  · exact h.elim
end
end DL
set_option Elab.async false
set_option linter.all false
set_option maxRecDepth 100000
set_option maxHeartbeats 2000000
namespace DL
open PySem L2

/-! ### == of texts too -/
def rEqU (K : PySem.W.Frag) : R2 := rOr rEq (rEqD K)
def rNeU (K : PySem.W.Frag) : R2 := rOr rNe (rNeD K)
theorem op_eqU {X : Cx} (hu : X.A.units + 64 < cLine) : OpR X (compareOp .Eq) (rEqU X.K) := OpR.or op_eq (op_eqD hu)
theorem op_neU {X : Cx} (hu : X.A.units + 64 < cLine) : OpR X (compareOp .NotEq) (rNeU X.K) := OpR.or op_ne (op_neD hu)
def eqUD : D → D → (D → Prop) → Prop
  | .str a, .str b, k => k (.bl (decide (a = b)))
  | .int a, .int b, k => k (.bl (decide (a = b)))
  | x, y, k => eqD x y k
def neUD : D → D → (D → Prop) → Prop
  | .str a, .str b, k => k (.bl (!decide (a = b)))
  | .int a, .int b, k => k (.bl (!decide (a = b)))
  | x, y, k => neD x y k
section
variable {K : PySem.W.Frag}
theorem dec_str (a b : Str) : decide (V.str a = V.str b) = decide (a = b) := by
  by_cases e : a = b
  · rw [e, decide_eq_true rfl, decide_eq_true rfl]
  · rw [decide_eq_false e, decide_eq_false fun q => e (V.str.inj q)]
theorem dec_int (a b : Int) : decide (V.int a = V.int b) = decide (a = b) := by
  by_cases e : a = b
  · rw [e, decide_eq_true rfl, decide_eq_true rfl]
  · rw [decide_eq_false e, decide_eq_false fun q => e (V.int.inj q)]
theorem o_eqU : Op2 K (rEqU K) eqUD := by
  intro S H as cs dx dy x y k Q r hx hy h q
  unfold eqUD at h
  split at h
  · rw [sh_str hx, sh_str hy]
    exact .inl ⟨rfl, q (.bl _) _ S H (Sub.refl S) r (by rw [dec_str]; rfl) h⟩
  · rw [sh_int hx, sh_int hy]
    exact .inl ⟨rfl, q (.bl _) _ S H (Sub.refl S) r (by rw [dec_int]; rfl) h⟩
  · exact .inr (o_eq S H as cs _ _ x y k Q r hx hy h q)
theorem o_neU : Op2 K (rNeU K) neUD := by
  intro S H as cs dx dy x y k Q r hx hy h q
  unfold neUD at h
  split at h
  · rw [sh_str hx, sh_str hy]
    exact .inl ⟨rfl, q (.bl _) _ S H (Sub.refl S) r (by rw [dec_str]; rfl) h⟩
  · rw [sh_int hx, sh_int hy]
    exact .inl ⟨rfl, q (.bl _) _ S H (Sub.refl S) r (by rw [dec_int]; rfl) h⟩
  · exact .inr (o_ne S H as cs _ _ x y k Q r hx hy h q)
end

/-! ### built-ins -/
abbrev RC := List V → Hp → VK → Prop
def rLenU (K : PySem.W.Frag) : RC := fun xs H Q => (∃ x n, xs = [x] ∧ LenV K x H n ∧ Q (.int n) H) ∨ ∃ a kvs, xs = [V.ref a] ∧ H a = some (.dK kvs) ∧ Q (.int kvs.length) H
theorem call_lenU {X : Cx} : CallR X (.builtin "len") (rLenU X.K) := CallR.or call_len call_lenD
def lenD : List D → (D → Prop) → Prop
  | [.lst ds], k => k (.int ds.length)
  | [.tup ds], k => k (.int ds.length)
  | [.scr ns], k => k (.int ns.length)
  | [.dic kvs], k => k (.int kvs.length)
  | _, _ => False
section
variable {K : PySem.W.Frag} {S H : Hp}
theorem shL_nil {vs : List V} (h : ShL K S H [] vs) : vs = [] := h
theorem shL_one {d : D} {vs : List V} (h : ShL K S H [d] vs) : ∃ v, vs = [v] ∧ Sh K S H d v := by
  obtain ⟨v, r, h1, h2, h3⟩ := h
  rw [shL_nil h3] at h1
  exact ⟨v, h1, h2⟩
theorem shL_two {d e : D} {vs : List V} (h : ShL K S H [d, e] vs) : ∃ v u, vs = [v, u] ∧ Sh K S H d v ∧ Sh K S H e u := by
  obtain ⟨v, r, h1, h2, h3⟩ := h
  obtain ⟨u, h4, h5⟩ := shL_one h3
  rw [h4] at h1
  exact ⟨v, u, h1, h2, h5⟩
theorem IsK.len : ∀ {kvs : List (Key × D)} {l : List (Key × V)}, IsK K S kvs l → l.length = kvs.length
  | [], _, h => by rw [IsK] at h; rw [h]; rfl
  | _ :: _, _, h => by
    obtain ⟨v, r, h1, h2, h3⟩ := h
    rw [h1, List.length_cons, List.length_cons, IsK.len h3]
theorem c_len : Cl K (rLenU K) lenD := by
  intro S H as cs ds vs k Q r hv h q
  unfold lenD at h
  split at h
  · obtain ⟨v, rfl, a, us, rfl, hs, is⟩ := shL_one hv
    exact .inl ⟨_, _, rfl, .inl ⟨us, SqL.of hs, is.len.symm⟩, q (.int _) _ S H (Sub.refl S) r rfl h⟩
  · obtain ⟨v, rfl, a, us, rfl, hs, is⟩ := shL_one hv
    exact .inl ⟨_, _, rfl, .inr ⟨us, r.sub.t hs, is.len.symm⟩, q (.int _) _ S H (Sub.refl S) r rfl h⟩
  · obtain ⟨v, rfl, a, rfl, hs⟩ := shL_one hv
    exact .inl ⟨_, _, rfl, .inl ⟨_, r.sub.l hs, by rw [List.length_map]⟩, q (.int _) _ S H (Sub.refl S) r rfl h⟩
  · obtain ⟨v, rfl, a, us, rfl, hs, is⟩ := shL_one hv
    exact .inr ⟨a, us, rfl, hs, q (.int _) _ S H (Sub.refl S) r (by rw [is.len]; rfl) h⟩
  · exact h.elim
/-! isinstance(x, T), T a built-in type -/
def tyD : D → String
  | .non => "NoneType"
  | .bl _ => "bool"
  | .int _ => "int"
  | .str _ => "str"
  | .tup _ => "tuple"
  | .lst _ => "list"
  | .scr _ => "list"
  | .dic _ => "dict"
  | _ => ""
def isiD : List D → (D → Prop) → Prop
  | [x, .ty n], k => ∃ b, kitB (tyD x) n = some b ∧ k (.bl b)
  | _, _ => False
theorem sh_ty {d : D} {v : V} (e : Sub S H) (h : Sh K S H d v) {n : String} {b : Bool} (hk : kitB (tyD d) n = some b) (hb : kitB "" n = none) : TyX K H v (.type (tyD d)) := by
  cases d with
  | non => rw [sh_non h]; exact .base .non
  | bl b => rw [sh_bl h]; exact .base (.bl b)
  | int i => rw [sh_int h]; exact .base (.int i)
  | str x => rw [sh_str h]; exact .base (.str x)
  | tup ds =>
    obtain ⟨a, vs, rfl, hs, _⟩ := h
    rcases e.t hs with (h1 | ⟨o, h1⟩) | ⟨o, its, n, h1, h2, _⟩
    · exact .base (.tup h1)
    · exact .fTuple h1
    · exact .kTuple h1 h2
  | lst ds =>
    obtain ⟨a, vs, rfl, hs, _⟩ := h
    exact .base (.lst hs)
  | scr ns =>
    obtain ⟨a, rfl, hs⟩ := h
    rcases e.l hs with (h1 | ⟨o, h1⟩) | ⟨o, its, n, h1, h2, _⟩
    · exact .base (.lst h1)
    · exact .base (.frz h1)
    · exact .kList h1 h2
  | dic ds =>
    obtain ⟨a, vs, rfl, hs, _⟩ := h
    exact .base (.dK hs)
  | ty m => rw [show tyD (.ty m) = "" from rfl, hb] at hk; cases hk
  | obj a => rw [show tyD (.obj a) = "" from rfl, hb] at hk; cases hk
def isiN (n : String) : List D → (D → Prop) → Prop
  | [x, .ty m], k => m = n ∧ ∃ b, kitB (tyD x) n = some b ∧ k (.bl b)
  | _, _ => False
theorem c_isi (n : String) (hb : kitB "" n = none) : Cl K (rIsi K) (isiN n) := by
  intro S H as cs ds vs k Q r hv h q
  unfold isiN at h
  split at h
  · obtain ⟨v, u, rfl, h1, h2⟩ := shL_two hv
    obtain ⟨rfl, b, e, h⟩ := h
    rw [show u = .ty _ from h2]
    exact ⟨v, _, _, _, b, rfl, .ty _, sh_ty r.sub h1 e hb, kit_ty e, q (.bl b) _ S H (Sub.refl S) r rfl h⟩
  · exact h.elim

/-! repr -/
def RpOk (d : D) : Prop := pyOk d = true ∧ (py d).showable = true ∧ (py d).hasDict = false ∧ (py d).depth ≤ 60 ∧ (py d).shown.length ≤ sizeLine
def rReprD (K : PySem.W.Frag) : RC := fun xs H Q => ∃ v d, xs = [v] ∧ Dp K H v d ∧ d.showable = true ∧ d.hasDict = false ∧ d.depth ≤ 60 ∧ d.shown.length ≤ sizeLine ∧ Q (.str d.shown) H
theorem call_reprD {X : Cx} (hg : X.A.guards = some []) (hu : X.A.units + 64 < cLine) : CallR X (.builtin "repr") (rReprD X.K) := by
  intro pins s σ H xs us Q I r h
  obtain ⟨v, d, rfl, hd, hs, hn, hdp, hz, q⟩ := h
  obtain ⟨u, rfl, rv⟩ := vals1 r
  obtain ⟨as, rd⟩ := Dp.reads I d v u hd rv
  have ans : ∀ tk t, EP X pins σ Q (.str d.shown t) { s with toks := tk } := fun tk t => ⟨.str _, H, I.tok tk, ⟨t, rfl⟩, q⟩
  cases hd with
  | non => rw [show u = Value.none from rv]; exact PySem.P.repr_of_none (ans _ _)
  | bl b => rw [show u = Value.bool b from rv]; exact PySem.P.repr_of_bool (by have := ans (s.toks + 1) s.toks; simpa only [PyData.shown] using this)
  | int i =>
    obtain ⟨t, rfl⟩ := rv
    exact PySem.P.repr_of_int (by simpa [PyData.showable] using hs) (ans _ _)
  | str x =>
    obtain ⟨t, rfl⟩ := rv
    exact PySem.P.repr_of_str (ans _ _) hz
  | lst h1 h2 =>
    rw [show u = Value.ref _ from rv] at rd ⊢
    exact repr_of_reads' rd hs (PyData.noDict_hsm hn) hg (by omega) (fun _ _ e => e) (fun h' t tk hk => ⟨.str _, H, I.kept hk, ⟨t, rfl⟩, q⟩) hz
  | tup h1 h2 =>
    rw [show u = Value.ref _ from rv] at rd ⊢
    exact repr_of_reads' rd hs (PyData.noDict_hsm hn) hg (by omega) (fun _ _ e => e) (fun h' t tk hk => ⟨.str _, H, I.kept hk, ⟨t, rfl⟩, q⟩) hz
def reprD : List D → (D → Prop) → Prop
  | [x], k => RpOk x ∧ k (.str (py x).shown)
  | _, _ => False
theorem c_repr : Cl K (rReprD K) reprD := by
  intro S H as cs ds vs k Q r hv h q
  unfold reprD at h
  split at h
  · obtain ⟨v, rfl, h1⟩ := shL_one hv
    obtain ⟨⟨a1, a2, a3, a4, a5⟩, hk⟩ := h
    exact ⟨v, _, rfl, h1.dp r.sub _ _ a1, a2, a3, a4, a5, q (.str _) _ S H (Sub.refl S) r rfl hk⟩
  · exact h.elim

/-! max, min, abs, sum, all, any, int, tuple, list -/
def rMaxU (K : PySem.W.Frag) : RC := fun xs H Q => (∃ i j, xs = [.int i, .int j] ∧ Q (.int (if j > i then j else i)) H) ∨ rMax K xs H Q
def rMinU (K : PySem.W.Frag) : RC := fun xs H Q => (∃ i j, xs = [.int i, .int j] ∧ Q (.int (if j < i then j else i)) H) ∨ rMin K xs H Q
theorem call_maxU {X : Cx} (hc : X.calm = true := by rfl) : CallR X (.builtin "max") (rMaxU X.K) := CallR.or (call_max2 hc) (cr_max hc)
theorem call_minU {X : Cx} (hc : X.calm = true := by rfl) : CallR X (.builtin "min") (rMinU X.K) := CallR.or (call_min2 hc) (cr_min hc)
def maxD : List D → (D → Prop) → Prop
  | [.int i, .int j], k => k (.int (max i j))
  | [.lst ds], k => ∃ ns : List Int, ds = ns.map D.int ∧ 0 < ns.length ∧ ∀ m, m ∈ ns → (∀ y, y ∈ ns → y ≤ m) → k (.int m)
  | _, _ => False
def minD : List D → (D → Prop) → Prop
  | [.int i, .int j], k => k (.int (min i j))
  | [.lst ds], k => ∃ ns : List Int, ds = ns.map D.int ∧ 0 < ns.length ∧ ∀ m, m ∈ ns → (∀ y, y ∈ ns → m ≤ y) → k (.int m)
  | _, _ => False
theorem c_max : Cl K (rMaxU K) maxD := by
  intro S H as cs ds vs k Q r hv h q
  unfold maxD at h
  split at h
  · rename_i i j
    obtain ⟨v, u, rfl, h1, h2⟩ := shL_two hv
    rw [sh_int h1, sh_int h2]
    refine .inl ⟨_, _, rfl, q (.int (max i j)) _ S H (Sub.refl S) r ?_ h⟩
    show V.int _ = V.int _
    congr 1
    split <;> omega
  · obtain ⟨v, rfl, a, us, rfl, hs, is⟩ := shL_one hv
    obtain ⟨ns, rfl, hl, hk⟩ := h
    have e := is.ints
    subst e
    exact .inr ⟨a, ns, rfl, SqL.of hs, hl, fun m h1 h2 => q (.int m) _ S H (Sub.refl S) r rfl (hk m h1 h2)⟩
  · exact h.elim
theorem c_min : Cl K (rMinU K) minD := by
  intro S H as cs ds vs k Q r hv h q
  unfold minD at h
  split at h
  · rename_i i j
    obtain ⟨v, u, rfl, h1, h2⟩ := shL_two hv
    rw [sh_int h1, sh_int h2]
    refine .inl ⟨_, _, rfl, q (.int (min i j)) _ S H (Sub.refl S) r ?_ h⟩
    show V.int _ = V.int _
    congr 1
    split <;> omega
  · obtain ⟨v, rfl, a, us, rfl, hs, is⟩ := shL_one hv
    obtain ⟨ns, rfl, hl, hk⟩ := h
    have e := is.ints
    subst e
    exact .inr ⟨a, ns, rfl, SqL.of hs, hl, fun m h1 h2 => q (.int m) _ S H (Sub.refl S) r rfl (hk m h1 h2)⟩
  · exact h.elim
def sumD : List D → (D → Prop) → Prop
  | [.lst ds], k => ∃ ns : List Int, ds = ns.map D.int ∧ k (.int ns.sum)
  | _, _ => False
theorem c_sum : Cl K (rSum K) sumD := by
  intro S H as cs ds vs k Q r hv h q
  unfold sumD at h
  split at h
  · obtain ⟨v, rfl, a, us, rfl, hs, is⟩ := shL_one hv
    obtain ⟨ns, rfl, hk⟩ := h
    have e := is.ints
    subst e
    exact ⟨a, ns, rfl, SqL.of hs, q (.int _) _ S H (Sub.refl S) r rfl hk⟩
  · exact h.elim
def allD : List D → (D → Prop) → Prop
  | [.lst ds], k => ∃ bs : List Bool, ds = bs.map D.bl ∧ k (.bl (bs.all id))
  | _, _ => False
def anyD : List D → (D → Prop) → Prop
  | [.lst ds], k => ∃ bs : List Bool, ds = bs.map D.bl ∧ k (.bl (bs.any id))
  | _, _ => False
theorem c_all : Cl K (rAll K) allD := by
  intro S H as cs ds vs k Q r hv h q
  unfold allD at h
  split at h
  · obtain ⟨v, rfl, a, us, rfl, hs, is⟩ := shL_one hv
    obtain ⟨bs, rfl, hk⟩ := h
    have e := is.bls
    subst e
    exact ⟨a, bs, rfl, SqL.of hs, q (.bl _) _ S H (Sub.refl S) r rfl hk⟩
  · exact h.elim
theorem c_any : Cl K (rAny K) anyD := by
  intro S H as cs ds vs k Q r hv h q
  unfold anyD at h
  split at h
  · obtain ⟨v, rfl, a, us, rfl, hs, is⟩ := shL_one hv
    obtain ⟨bs, rfl, hk⟩ := h
    have e := is.bls
    subst e
    exact ⟨a, bs, rfl, SqL.of hs, q (.bl _) _ S H (Sub.refl S) r rfl hk⟩
  · exact h.elim
def rInt1 : RC := fun xs H Q => (∃ i, xs = [.int i] ∧ Q (.int i) H) ∨ ∃ k, xs = [.bl k] ∧ Q (.int (if k then 1 else 0)) H
def intD : List D → (D → Prop) → Prop
  | [.int i], k => k (.int i)
  | [.bl b], k => k (.int (if b then 1 else 0))
  | _, _ => False
theorem c_int : Cl K rInt1 intD := by
  intro S H as cs ds vs k Q r hv h q
  unfold intD at h
  split at h
  · obtain ⟨v, rfl, h1⟩ := shL_one hv
    rw [sh_int h1]
    exact .inl ⟨_, rfl, q (.int _) _ S H (Sub.refl S) r rfl h⟩
  · obtain ⟨v, rfl, h1⟩ := shL_one hv
    rw [sh_bl h1]
    exact .inr ⟨_, rfl, q (.int _) _ S H (Sub.refl S) r rfl h⟩
  · exact h.elim
def rAbs1 : RC := fun xs H Q => ∃ i, xs = [.int i] ∧ Q (.int (if i < 0 then -i else i)) H
def absD : List D → (D → Prop) → Prop
  | [.int i], k => k (.int (if i < 0 then -i else i))
  | _, _ => False
theorem c_abs : Cl K rAbs1 absD := by
  intro S H as cs ds vs k Q r hv h q
  unfold absD at h
  split at h
  · obtain ⟨v, rfl, h1⟩ := shL_one hv
    rw [sh_int h1]
    exact ⟨_, rfl, q (.int _) _ S H (Sub.refl S) r rfl h⟩
  · exact h.elim
def rTupOf (K : PySem.W.Frag) : RC := fun xs H Q => ∃ p ys, xs = [.ref p] ∧ ((SqL K H p ys ∧ ∀ l, H l = none → Q (.ref l) (upd H l (.tup ys))) ∨ (SqT K H p ys ∧ Q (.ref p) H))
def tupOfD : List D → (D → Prop) → Prop
  | [.lst ds], k => k (.tup ds)
  | [.tup ds], k => k (.tup ds)
  | [.scr ns], k => k (.tup (ns.map D.int))
  | _, _ => False
theorem c_tupOf : Cl K (rTupOf K) tupOfD := by
  intro S H as cs ds vs k Q r hv h q
  unfold tupOfD at h
  split at h
  · obtain ⟨v, rfl, a, us, rfl, hs, is⟩ := shL_one hv
    refine ⟨a, us, rfl, .inl ⟨SqL.of hs, fun p hp => ?_⟩⟩
    have hn := Sub.new (o := .tup us) (r.sub.free hp)
    exact q (.tup _) _ _ _ hn (r.lay hp _) ⟨p, us, rfl, SqT.of upd_same, IsL.mono hn _ _ is⟩ h
  · obtain ⟨v, rfl, h1⟩ := shL_one hv
    obtain ⟨a, us, rfl, hs, is⟩ := h1
    exact ⟨a, us, rfl, .inr ⟨r.sub.t hs, q (.tup _) _ S H (Sub.refl S) r ⟨a, us, rfl, hs, is⟩ h⟩⟩
  · rename_i ns
    obtain ⟨v, rfl, a, rfl, hs⟩ := shL_one hv
    refine ⟨a, _, rfl, .inl ⟨r.sub.l hs, fun p hp => ?_⟩⟩
    have hn := Sub.new (o := .tup (ns.map V.int)) (r.sub.free hp)
    exact q (.tup _) _ _ _ hn (r.lay hp _) ⟨p, _, rfl, SqT.of upd_same, isL_ints _⟩ h
  · exact h.elim
def rLstOf (K : PySem.W.Frag) : RC := fun xs H Q => ∃ p ys, xs = [.ref p] ∧ (SqL K H p ys ∨ SqT K H p ys) ∧ ∀ l, H l = none → Q (.ref l) (upd H l (.lst ys))
/-- list(x), not changed later -/
def lstOfD : List D → (D → Prop) → Prop
  | [.lst ds], k => k (.lst ds)
  | [.tup ds], k => k (.lst ds)
  | [.scr ns], k => k (.lst (ns.map D.int))
  | _, _ => False
theorem c_lstOf : Cl K (rLstOf K) lstOfD := by
  intro S H as cs ds vs k Q r hv h q
  unfold lstOfD at h
  split at h
  · obtain ⟨v, rfl, a, us, rfl, hs, is⟩ := shL_one hv
    refine ⟨a, us, rfl, .inl (SqL.of hs), fun p hp => ?_⟩
    have hn := Sub.new (o := .lst us) (r.sub.free hp)
    exact q (.lst _) _ _ _ hn (r.lay hp _) ⟨p, us, rfl, upd_same, IsL.mono hn _ _ is⟩ h
  · obtain ⟨v, rfl, a, us, rfl, hs, is⟩ := shL_one hv
    refine ⟨a, us, rfl, .inr (r.sub.t hs), fun p hp => ?_⟩
    have hn := Sub.new (o := .lst us) (r.sub.free hp)
    exact q (.lst _) _ _ _ hn (r.lay hp _) ⟨p, us, rfl, upd_same, IsL.mono hn _ _ is⟩ h
  · rename_i ns
    obtain ⟨v, rfl, a, rfl, hs⟩ := shL_one hv
    refine ⟨a, _, rfl, .inl (r.sub.l hs), fun p hp => ?_⟩
    have hn := Sub.new (o := .lst (ns.map V.int)) (r.sub.free hp)
    exact q (.lst _) _ _ _ hn (r.lay hp _) ⟨p, _, rfl, upd_same, isL_ints _⟩ h
  · exact h.elim
end
end DL
set_option Elab.async false
set_option linter.all false
set_option maxRecDepth 100000
set_option maxHeartbeats 2000000
namespace DL
open PySem L2

/-! ### dicts -/
section
variable {K : PySem.W.Frag} {S : Hp}
theorem getK_nil (k : Key) : getK [] k = none := rfl
theorem getK_cons (p : Key × D) (r : List (Key × D)) (k : Key) : getK (p :: r) k = if p.1 = k then some p.2 else getK r k := by
  unfold getK
  rw [List.find?_cons]
  by_cases e : p.1 = k
  · rw [decide_eq_true e, if_pos e]; rfl
  · rw [decide_eq_false e, if_neg e]
theorem getK_set (k j : Key) (d : D) (kvs : List (Key × D)) : getK (setK kvs k d) j = if j = k then some d else getK kvs j := by
  have h1 : ∀ l : List (Key × D), (l.any fun kv => decide (kv.1 = k)) = false → getK (l ++ [(k, d)]) j = if j = k then some d else getK l j := fun l => by
    induction l with
    | nil =>
      intro _
      rw [List.nil_append, getK_cons, getK_nil]
      by_cases e : k = j
      · rw [if_pos e, if_pos e.symm]
      · rw [if_neg e, if_neg fun z => e z.symm]
    | cons p r ih =>
      intro h
      rw [List.any_cons, Bool.or_eq_false_iff] at h
      have np : ¬ p.1 = k := of_decide_eq_false h.1
      rw [List.cons_append, getK_cons, getK_cons, ih h.2]
      by_cases e : p.1 = j
      · rw [if_pos e, if_pos e, if_neg fun z => np (e.trans z)]
      · rw [if_neg e, if_neg e]
  have h2 : ∀ l : List (Key × D), (l.any fun kv => decide (kv.1 = k)) = true → getK (l.map fun kv => if kv.1 = k then (kv.1, d) else kv) j = if j = k then some d else getK l j := fun l => by
    induction l with
    | nil => intro h; cases h
    | cons p r ih =>
      intro h
      rw [List.map_cons, getK_cons, getK_cons]
      by_cases ep : p.1 = k
      · rw [if_pos ep]
        show (if p.1 = j then some d else _) = _
        by_cases e : p.1 = j
        · rw [if_pos e, if_pos (e.symm.trans ep)]
        · rw [if_neg e, if_neg e]
          by_cases hr : (r.any fun kv => decide (kv.1 = k)) = true
          · exact ih hr
          · have nj : ¬ j = k := fun z => e (ep.trans z.symm)
            rw [if_neg nj]
            have : (r.map fun kv => if kv.1 = k then (kv.1, d) else kv) = r := by
              refine (List.map_congr_left fun x hx => ?_).trans (List.map_id r)
              have hf : ¬ x.1 = k := fun z => hr (List.any_eq_true.mpr ⟨x, hx, decide_eq_true z⟩)
              rw [if_neg hf]; rfl
            rw [this]
      · rw [if_neg ep]
        rw [List.any_cons, decide_eq_false ep, Bool.false_or] at h
        by_cases e : p.1 = j
        · rw [if_pos e, if_pos e, if_neg fun z => ep (e.trans z)]
        · rw [if_neg e, if_neg e]
          exact ih h
  unfold setK
  by_cases h : (kvs.any fun kv => decide (kv.1 = k)) = true
  · rw [if_pos h]; exact h2 kvs h
  · rw [if_neg h]; exact h1 kvs (Bool.eq_false_iff.mpr h)
theorem IsK.get : ∀ {kvs : List (Key × D)} {l : List (Key × V)} (k : Key), IsK K S kvs l → (getK kvs k = none ∧ valV l k = none) ∨ ∃ d v, getK kvs k = some d ∧ valV l k = some v ∧ Is K S d v
  | [], _, k, h => by rw [IsK] at h; rw [h]; exact .inl ⟨rfl, rfl⟩
  | kd :: r, _, k, h => by
    obtain ⟨v, l', rfl, h2, h3⟩ := h
    rw [getK_cons]
    by_cases e : kd.1 = k
    · rw [if_pos e]
      exact .inr ⟨kd.2, v, rfl, valV_pos (p := (kd.1, v)) e, h2⟩
    · rw [if_neg e, valV_neg (p := (kd.1, v)) e]
      exact IsK.get k h3
theorem IsK.snoc {d : D} {v : V} {k : Key} (hd : Is K S d v) : ∀ {kvs : List (Key × D)} {l : List (Key × V)}, IsK K S kvs l → IsK K S (kvs ++ [(k, d)]) (l ++ [(k, v)])
  | [], _, h => by rw [IsK] at h; rw [h]; exact ⟨v, [], rfl, hd, rfl⟩
  | kd :: r, _, h => by
    obtain ⟨v', l', rfl, h2, h3⟩ := h
    exact ⟨v', _, rfl, h2, IsK.snoc hd h3⟩
theorem IsK.mapK {d : D} {v : V} {k : Key} (hd : Is K S d v) : ∀ {kvs : List (Key × D)} {l : List (Key × V)}, IsK K S kvs l → IsK K S (kvs.map fun kv => if kv.1 = k then (kv.1, d) else kv) (l.map fun kv => if kv.1 = k then (kv.1, v) else kv)
  | [], _, h => by rw [IsK] at h; rw [h]; exact rfl
  | kd :: r, _, h => by
    obtain ⟨v', l', rfl, h2, h3⟩ := h
    rw [List.map_cons, List.map_cons]
    by_cases e : kd.1 = k
    · rw [if_pos e, if_pos (show (kd.1, v').1 = k from e)]
      exact ⟨v, _, rfl, hd, IsK.mapK hd h3⟩
    · rw [if_neg e, if_neg (show ¬ (kd.1, v').1 = k from e)]
      exact ⟨v', _, rfl, h2, IsK.mapK hd h3⟩
theorem IsK.any {k : Key} : ∀ {kvs : List (Key × D)} {l : List (Key × V)}, IsK K S kvs l → (l.any fun kv => decide (kv.1 = k)) = (kvs.any fun kv => decide (kv.1 = k))
  | [], _, h => by rw [IsK] at h; rw [h]; rfl
  | kd :: r, _, h => by
    obtain ⟨v', l', rfl, h2, h3⟩ := h
    rw [List.any_cons, List.any_cons, IsK.any h3]
theorem IsK.put {d : D} {v : V} {k : Key} {kvs : List (Key × D)} {l : List (Key × V)} (h : IsK K S kvs l) (hd : Is K S d v) : IsK K S (setK kvs k d) (putK l k v) := by
  unfold setK putK
  rw [h.any]
  split
  · exact h.mapK hd
  · exact h.snoc hd
end
def keyD : D → (Key → Prop) → Prop
  | .int i, k => k (.inl i)
  | .str x, k => k (.inr x)
  | _, _ => False
theorem keyD_sh {K : PySem.W.Frag} {S H : Hp} {d : D} {v : V} {k : Key → Prop} (h : Sh K S H d v) (q : keyD d k) : ∃ key, v = kV key ∧ k key := by
  unfold keyD at q
  split at q
  · exact ⟨.inl _, sh_int h, q⟩
  · exact ⟨.inr _, sh_str h, q⟩
  · exact q.elim
/-- key in dict -/
def dInK (neg : Bool) (a b : DE) : DE := fun en cs k => a en cs fun x cs1 => b en cs1 fun y cs2 => withD cs2 x fun dx => withD cs2 y fun dy =>
  match dy with
  | .dic kvs => keyD dx fun key => k (.d (.bl (if neg = true then !(getK kvs key).isSome else (getK kvs key).isSome))) cs2
  | _ => False
section
variable {X : Cx} {pos : Pos}
theorem dget_of {K : PySem.W.Frag} {S H : Hp} {as : List Addr} {cs : Cs} (r : Rep K S H as cs) {kvs : List (Key × D)} {y : V} (hy : Sh K S H (.dic kvs) y) (key : Key) :
    ∃ a o, y = .ref a ∧ DGet H a (kV key) o ∧ ((getK kvs key = none ∧ o = none) ∨ ∃ d v, getK kvs key = some d ∧ o = some v ∧ Is K S d v) := by
  obtain ⟨a, kv, rfl, hs, is⟩ := hy
  exact ⟨a, _, rfl, DGet.k hs, is.get key⟩
theorem q_inK {a b : Expr} {ta tb : TE} {da db : DE} (hu : X.A.units + 1 < cLine) (ha : QE X a ta da) (hb : QE X b tb db) (hm : behindInMarks .In b = false := by rfl) : QE X (.Compare a [.In] [b] pos) (tDIn ta tb) (dInK false da db) := by
  refine ⟨pe_cmp (pc_din hu ha.pe hb.pe) hm, ?_⟩
  intro σ H S as en cs k Q rp e q p
  refine ha.sem.use rp e q fun z v S1 H1 as1 cs1 e1 r1 v1 q1 => ?_
  refine hb.sem.use r1 (e.mono e1) q1 fun z2 v2 S2 H2 as2 cs2 e2 r2 w2 q2 => ?_
  obtain ⟨dx, l1, q2⟩ := withD_look q2
  obtain ⟨dy, l2, q2⟩ := withD_look q2
  split at q2
  · obtain ⟨key, rfl, q2⟩ := keyD_sh (look_sh r2 (v1.mono e2) l1) q2
    obtain ⟨ad, o, rfl, g, c⟩ := dget_of r2 (look_sh r2 w2 l2) key
    refine ⟨ad, o, rfl, g, p _ _ S2 H2 as2 cs2 (e1.trans e2) r2 ?_ q2⟩
    rw [if_neg (by decide)]
    rcases c with ⟨h1, h2⟩ | ⟨d, u, h1, h2, _⟩ <;> (rw [h1, h2]; exact rfl)
  · exact q2.elim
theorem q_notinK {a b : Expr} {ta tb : TE} {da db : DE} (hu : X.A.units + 1 < cLine) (ha : QE X a ta da) (hb : QE X b tb db) (hm : behindInMarks .NotIn b = false := by rfl) : QE X (.Compare a [.NotIn] [b] pos) (tDNotIn ta tb) (dInK true da db) := by
  refine ⟨pe_cmp (pc_dnotin hu ha.pe hb.pe) hm, ?_⟩
  intro σ H S as en cs k Q rp e q p
  refine ha.sem.use rp e q fun z v S1 H1 as1 cs1 e1 r1 v1 q1 => ?_
  refine hb.sem.use r1 (e.mono e1) q1 fun z2 v2 S2 H2 as2 cs2 e2 r2 w2 q2 => ?_
  obtain ⟨dx, l1, q2⟩ := withD_look q2
  obtain ⟨dy, l2, q2⟩ := withD_look q2
  split at q2
  · obtain ⟨key, rfl, q2⟩ := keyD_sh (look_sh r2 (v1.mono e2) l1) q2
    obtain ⟨ad, o, rfl, g, c⟩ := dget_of r2 (look_sh r2 w2 l2) key
    refine ⟨ad, o, rfl, g, p _ _ S2 H2 as2 cs2 (e1.trans e2) r2 ?_ q2⟩
    rw [if_pos rfl]
    rcases c with ⟨h1, h2⟩ | ⟨d, u, h1, h2, _⟩ <;> (rw [h1, h2]; exact rfl)
  · exact q2.elim
/-- d[k] -/
def dGetK (a b : DE) : DE := fun en cs k => a en cs fun x cs1 => b en cs1 fun y cs2 => withD cs2 x fun dx => withD cs2 y fun dy =>
  match dx with
  | .dic kvs => keyD dy fun key => match getK kvs key with
    | some d => k (.d d) cs2
    | none => False
  | _ => False
theorem q_getK {a b : Expr} {ta tb : TE} {da db : DE} (hu : X.A.units + 1 < cLine) (ha : QE X a ta da) (hb : QE X b tb db) (hs : NoSl b) : QE X (.Subscript a b pos) (tDGet ta tb) (dGetK da db) := by
  refine ⟨pe_dget hu ha.pe hb.pe hs, ?_⟩
  intro σ H S as en cs k Q rp e q p
  refine ha.sem.use rp e q fun z v S1 H1 as1 cs1 e1 r1 v1 q1 => ?_
  refine hb.sem.use r1 (e.mono e1) q1 fun z2 v2 S2 H2 as2 cs2 e2 r2 w2 q2 => ?_
  obtain ⟨dx, l1, q2⟩ := withD_look q2
  obtain ⟨dy, l2, q2⟩ := withD_look q2
  split at q2
  · obtain ⟨key, rfl, q2⟩ := keyD_sh (look_sh r2 w2 l2) q2
    obtain ⟨ad, o, rfl, g, c⟩ := dget_of r2 (look_sh r2 (v1.mono e2) l1) key
    split at q2
    · rename_i d hd
      rcases c with ⟨h1, h2⟩ | ⟨d', u, h1, h2, h3⟩
      · rw [h1] at hd; cases hd
      · rw [h1] at hd; cases hd
        rw [h2] at g
        exact ⟨ad, u, rfl, g, p (.d _) u S2 H2 as2 cs2 (e1.trans e2) r2 h3 q2⟩
    · exact q2.elim
  · exact q2.elim
/-- {} that will be filled -/
def dDicC : DE := fun _ cs k => k (.c cs.length) (cs ++ [.dic []])
theorem q_dicC : QE X (.Dict [] [] pos) tDNewK dDicC := by
  refine ⟨pe_dnewK, ?_⟩
  intro σ H S as en cs k Q r e q p
  intro a na
  exact p (.c cs.length) (.ref a) S _ (as ++ [a]) _ ⟨Sub.refl _, [a], rfl⟩ (r.cell na (c := .dic []) ⟨r.sub.free na, [], upd_same, rfl⟩) ⟨a, r.get_new a, rfl⟩ q

/-! ### slices -/
def DO := En → Cs → (Option Int → Cs → Prop) → Prop
structure QO (X : Cx) (e : Option Expr) (to : TO) (t : DO) : Prop where
  po : PO X e to
  sem : ∀ (σ : L2.St) (H S : Hp) (as : List Addr) (en : En) (cs : Cs) (k : Option Int → Cs → Prop) (Q : Option Int → Hp → Prop), Rep X.K S H as cs → EnvOk X.K S as en σ → t en cs k →
    (∀ (o : Option Int) (S' H' : Hp) (as' : List Addr) (cs' : Cs), Ext S as S' as' → Rep X.K S' H' as' cs' → k o cs' → Q o H') → to σ H Q
def dNoPart : DO := fun _ cs k => k none cs
def dPart (a : DE) : DO := fun en cs k => a en cs fun z cs1 => ∃ i, z = .d (.int i) ∧ k (some i) cs1
theorem qo_none : QO X none tNoPart dNoPart := ⟨po_none, fun σ H S as en cs k Q r e q p => p none S H as cs Ext.refl r q⟩
theorem qo_some {a : Expr} {ta : TE} {da : DE} (ha : QE X a ta da) : QO X (some a) (tPart ta) (dPart da) := by
  refine ⟨po_some ha.pe, fun σ H S as en cs k Q r e q p => ?_⟩
  refine ha.sem.use r e q fun z v S1 H1 as1 cs1 e1 r1 v1 q1 => ?_
  obtain ⟨i, rfl, q1⟩ := q1
  exact ⟨i, v1, p (some i) S1 H1 as1 cs1 e1 r1 q1⟩
def cutG {α : Type} (xs : List α) (lo hi : Option Int) : List α := (xs.drop (HT.sIx xs.length 0 lo)).take (HT.sIx xs.length xs.length hi - HT.sIx xs.length 0 lo)
def sliceD : D → Option Int → Option Int → (D → Prop) → Prop
  | .lst ds, lo, hi, k => k (.lst (cutG ds lo hi))
  | .tup ds, lo, hi, k => k (.tup (cutG ds lo hi))
  | _, _, _, _ => False
def rSlU (K : PySem.W.Frag) : V → Option Int → Option Int → Hp → VK → Prop := fun x lo hi H Q => rSlL K x lo hi H Q ∨ rSlA K x lo hi H Q
theorem sl_U : SlR X (rSlU X.K) := SlR.or sl_list sl_tupA
def dSl (a : DE) (lo hi : DO) : DE := fun en cs k => a en cs fun x cs1 => lo en cs1 fun l cs2 => hi en cs2 fun h cs3 => withD cs3 x fun dx => sliceD dx l h fun z => k (.d z) cs3
theorem IsL.cut {K : PySem.W.Frag} {S : Hp} {ds : List D} {vs : List V} (h : IsL K S ds vs) (lo hi : Option Int) : IsL K S (cutG ds lo hi) (cutV vs lo hi) := by
  unfold cutG cutV
  rw [h.len]
  exact (h.drop _).take _
theorem q_slice {a : Expr} {lo hi : Option Expr} {ta : TE} {da : DE} {tl th : TO} {dl dh : DO} {p2 : Pos} (ha : QE X a ta da) (hl : QO X lo tl dl) (hh : QO X hi th dh) : QE X (.Subscript a (.Slice lo hi none p2) pos) (tSl (rSlU X.K) ta tl th) (dSl da dl dh) := by
  refine ⟨pe_slice sl_U ha.pe hl.po hh.po, ?_⟩
  intro σ H S as en cs k Q rp e q p
  refine ha.sem.use rp e q fun z v S1 H1 as1 cs1 e1 r1 v1 q1 => ?_
  refine hl.sem σ H1 S1 as1 en cs1 _ _ r1 (e.mono e1) q1 fun l S2 H2 as2 cs2 e2 r2 q2 => ?_
  refine hh.sem σ H2 S2 as2 en cs2 _ _ r2 (e.mono (e1.trans e2)) q2 fun h S3 H3 as3 cs3 e3 r3 q3 => ?_
  obtain ⟨dx, l1, q3⟩ := withD_look q3
  have hx := look_sh r3 (v1.mono (e2.trans e3)) l1
  have E := (e1.trans e2).trans e3
  cases dx with
  | lst ds =>
    obtain ⟨ad, vs, rfl, hs, is⟩ := hx
    refine .inl ⟨ad, vs, rfl, SqL.of hs, fun b hb => ?_⟩
    have hn := Sub.new (o := .lst (cutV vs l h)) (r3.sub.free hb)
    exact p (.d (.lst _)) _ _ _ as3 cs3 (E.trans (Ext.of hn)) (r3.lay hb _) ⟨b, _, rfl, upd_same, IsL.mono hn _ _ (is.cut l h)⟩ q3
  | tup ds =>
    obtain ⟨ad, vs, rfl, hs, is⟩ := hx
    refine .inr ⟨ad, vs, rfl, r3.sub.t hs, fun w => ?_, fun _ b hb => ?_⟩
    · refine p (.d (.tup _)) _ S3 H3 as3 cs3 E r3 ⟨ad, vs, rfl, hs, ?_⟩ q3
      unfold cutG
      rw [← is.len, w.1, w.2, List.drop_zero, Nat.sub_zero, is.len, List.take_length]
      exact is
    · have hn := Sub.new (o := .tup (cutV vs l h)) (r3.sub.free hb)
      exact p (.d (.tup _)) _ _ _ as3 cs3 (E.trans (Ext.of hn)) (r3.lay hb _) ⟨b, _, rfl, SqT.of upd_same, IsL.mono hn _ _ (is.cut l h)⟩ q3
  | _ => exact q3.elim
/-- n.bit_length() -/
def dBits (a : DE) : DE := fun en cs k => a en cs fun z cs1 => ∃ i, z = .d (.int i) ∧ k (.d (.int (Builtin.Int.intBits i : Nat))) cs1
theorem q_bits {o : Expr} {to : TE} {d : DE} {apos : Pos} (ho : QE X o to d) (hbase : attributeBase o "bit_length" X.env (eval o X.env) = eval o X.env := by rfl) (hline : (apos.endLine == pos.line) = true := by rfl) : QE X (.Call (.Attribute o "bit_length" apos) [] [] pos) (tBits to) (dBits d) := by
  refine ⟨pe_bits ho.pe hbase hline, ?_⟩
  intro σ H S as en cs k Q rp e q p
  refine ho.sem.use rp e q fun z v S1 H1 as1 cs1 e1 r1 v1 q1 => ?_
  obtain ⟨i, rfl, q1⟩ := q1
  exact ⟨i, v1, p (.d (.int _)) _ S1 H1 as1 cs1 e1 r1 rfl q1⟩
end
end DL
set_option Elab.async false
set_option linter.all false
set_option maxRecDepth 100000
set_option maxHeartbeats 2000000
namespace DL
open PySem L2

/-! ### targets -/
theorem wipe_set {σ : L2.St} {i : Nat} {o : Option V} : ∀ {own : List Nat}, i ∈ own → L2.wipe (σ.set i o) own = L2.wipe σ own
  | [], h => by simp at h
  | j :: js, h => by
    show (L2.wipe (σ.set i o) js).set j none = (L2.wipe σ js).set j none
    by_cases hj : i ∈ js
    · rw [wipe_set hj]
    · have e : i = j := by
        rcases List.mem_cons.mp h with e | e
        · exact e
        · exact absurd e hj
      subst e
      have far : ∀ (τ : L2.St) (ks : List Nat), i ∉ ks → L2.wipe (τ.set i o) ks = (L2.wipe τ ks).set i o := fun τ ks => by
        induction ks with
        | nil => intro _; rfl
        | cons k ks ih =>
          intro hk
          show (L2.wipe (τ.set i o) ks).set k none = ((L2.wipe τ ks).set k none).set i o
          rw [ih fun z => hk (List.mem_cons_of_mem _ z), List.set_comm _ _ (show i ≠ k from fun z => hk (z ▸ List.mem_cons_self))]
      rw [far σ js hj, List.set_set]
theorem wipe_wipe {σ : L2.St} : ∀ (own js : List Nat), (∀ j ∈ js, j ∈ own) → L2.wipe (L2.wipe σ js) own = L2.wipe σ own
  | _, [], _ => rfl
  | own, j :: js, h => by
    show L2.wipe ((L2.wipe σ js).set j none) own = _
    rw [wipe_set (h j List.mem_cons_self)]
    exact wipe_wipe own js fun k hk => h k (List.mem_cons_of_mem _ hk)
def GQ (K : PySem.W.Frag) (S : Hp) (as : List Addr) (σ : L2.St) (is : List Nat) (k : En → Cs → Prop) (Q : L2.St → Hp → Prop) : Prop :=
  ∀ (σ' : L2.St) (S' H' : Hp) (as' : List Addr) (en' : En) (cs' : Cs), Ext S as S' as' → Rep K S' H' as' cs' → EnvOk K S' as' en' σ' → (∀ own : List Nat, (∀ i ∈ is, i ∈ own) → L2.wipe σ' own = L2.wipe σ own) → k en' cs' → Q σ' H'
def SemG (K : PySem.W.Frag) (g : TG) (dg : DG) (is : List Nat) : Prop :=
  ∀ (z : Z) (v : V) (σ : L2.St) (H S : Hp) (as : List Addr) (en : En) (cs : Cs) (k : En → Cs → Prop) (Q : L2.St → Hp → Prop), Rep K S H as cs → EnvOk K S as en σ → VZ K S as z v → dg z en cs k → GQ K S as σ is k Q → g v σ H Q
def SemGs (K : PySem.W.Frag) (g : TGs) (dg : DGs) (is : List Nat) : Prop :=
  ∀ (ds : List D) (vs : List V) (σ : L2.St) (H S : Hp) (as : List Addr) (en : En) (cs : Cs) (k : En → Cs → Prop) (Q : L2.St → Hp → Prop), Rep K S H as cs → EnvOk K S as en σ → IsL K S ds vs → dg ds en cs k → GQ K S as σ is k Q → g vs σ H Q
structure QG (X : Cx) (tg : Expr) (g : TG) (dg : DG) (is : List Nat) : Prop where
  pg : PG X tg g
  sem : SemG X.K g dg is
structure QGs (X : Cx) (ts : List Expr) (g : TGs) (dg : DGs) (is : List Nat) : Prop where
  pgs : PGs X ts g
  sem : SemGs X.K g dg is
section
variable {X : Cx} {pos : Pos}
def dgName (i : Nat) : DG := fun z en cs k => k (en.set i (some z)) cs
theorem sem_gname {K : PySem.W.Frag} (i : Nat) : SemG K (gName i) (dgName i) [i] := by
  intro z v σ H S as en cs k Q r e vz h p
  exact p (σ.set i (some v)) S H as _ cs Ext.refl r (e.set vz i) (fun own ho => wipe_set (ho i List.mem_cons_self)) h
theorem qg_name (i : Nat) {x : Str} (hN : X.N.Nodup) (hi : X.N[i]? = some x := by rfl) (hx : Loc X.env.scope x := by first | exact Or.inl rfl | exact Or.inr rfl) (hf : X.fn x = true ∨ X.env.scope.names.lookup x = some .local := by first | exact .inl rfl | exact .inr rfl | assumption) : QG X (.Name x pos) (gName i) (dgName i) [i] := ⟨pg_name hN hi hx hf, sem_gname i⟩
def dgsNil : DGs := fun ds en cs k => ds = [] ∧ k en cs
def dgsCons (g : DG) (r : DGs) : DGs := fun ds en cs k => match ds with
  | d :: ds => g (.d d) en cs fun en1 cs1 => r ds en1 cs1 k
  | [] => False
theorem qgs_nil : QGs X [] gNil dgsNil [] := by
  refine ⟨pgs_nil, ?_⟩
  intro ds vs σ H S as en cs k Q r e hv h p
  obtain ⟨rfl, h⟩ := h
  rw [IsL] at hv
  exact ⟨hv, p σ S H as en cs Ext.refl r e (fun _ _ => rfl) h⟩
theorem qgs_cons {e : Expr} {es : List Expr} {g : TG} {gs : TGs} {dg : DG} {dgs : DGs} {is js : List Nat} (h1 : QG X e g dg is) (h2 : QGs X es gs dgs js) (hs : (assignEach (e :: es) X.env).map (·.2) = assign e X.env :: (assignEach es X.env).map (·.2) := by rfl) : QGs X (e :: es) (gCons g gs) (dgsCons dg dgs) (is ++ js) := by
  refine ⟨pgs_cons h1.pg h2.pgs hs, ?_⟩
  intro ds vs σ H S as en cs k Q r e hv h p
  cases ds with
  | nil => exact h.elim
  | cons d ds =>
    obtain ⟨v, vr, rfl, i1, i2⟩ := hv
    refine ⟨v, vr, rfl, h1.sem (.d d) v σ H S as en cs _ _ r e i1 h fun σ1 S1 H1 as1 en1 cs1 e1 r1 ev1 w1 q1 => ?_⟩
    refine h2.sem ds vr σ1 H1 S1 as1 en1 cs1 k Q r1 ev1 (IsL.mono e1.sub _ _ i2) q1 fun σ2 S2 H2 as2 en2 cs2 e2 r2 ev2 w2 q2 => ?_
    exact p σ2 S2 H2 as2 en2 cs2 (e1.trans e2) r2 ev2 (fun own ho => (w2 own fun i hi => ho i (List.mem_append_right _ hi)).trans (w1 own fun i hi => ho i (List.mem_append_left _ hi))) q2
def dgTup (n : Nat) (g : DGs) : DG := fun z en cs k => match z with
  | .d (.tup ds) => ds.length = n ∧ g ds en cs k
  | _ => False
theorem qg_tup {es : List Expr} {kk n : Nat} {g : TGs} {dg : DGs} {is : List Nat} (h : QGs X es g dg is) (hc : X.calm = true := by rfl) (hn : (assignEach es X.env).length = n := by rfl) (hst : (assignEach es X.env).findIdx? (·.1) = none := by rfl) :
    QG X (.Tuple es kk pos) (gTup X.K n g) (dgTup n dg) is := by
  refine ⟨pg_tup hc h.pgs hn hst, ?_⟩
  intro z v σ H S as en cs k Q r e vz hh p
  unfold dgTup at hh
  split at hh
  · obtain ⟨a, vs, rfl, hs, i⟩ := vz
    exact ⟨a, vs, rfl, r.sub.t hs, by rw [i.len]; exact hh.1, h.sem _ vs σ H S as en cs k Q r e i hh.2 p⟩
  · exact hh.elim
/-- xs[i] = v, xs a cell -/
def dgSet (o i : DE) : DG := fun z en cs k => o en cs fun x cs1 => i en cs1 fun y cs2 => match x, y, z with
  | .c n, .d (.int j), .d d => match cs2[n]? with
    | some (.lst ds) => ∃ m, ixN ds.length j = some m ∧ k en (cs2.set n (.lst (ds.set m d)))
    | _ => False
  | _, _, _ => False
theorem Rep.cell_lst {K : PySem.W.Frag} {S H : Hp} {as : List Addr} {cs : Cs} (r : Rep K S H as cs) {n : Nat} {a : Addr} {ds : List D} (h1 : as[n]? = some a) (h2 : cs[n]? = some (.lst ds)) : S a = none ∧ ∃ vs, H a = some (.lst vs) ∧ IsL K S ds vs := r.cel n a _ h1 h2
theorem qg_set {o i : Expr} {to ti : TE} {od id : DE} (ho : QE X o to od) (hi : QE X i ti id)
    (ha : ∀ v, assign (.Subscript o i pos) X.env v = (do
      let ov ← holding [v] (eval o X.env)
      let iv ← holding [v, ov] (eval i X.env)
      standAt pos
      holding [v, ov, iv] (setItem ov iv v)
      release [v, ov, iv] []) := by intro _; rfl) : QG X (.Subscript o i pos) (gSub to ti rSetL) (dgSet od id) [] := by
  refine ⟨pg_sub ho.pe hi.pe set_list ha, ?_⟩
  intro z v σ H S as en cs k Q r e vz hh p
  refine ho.sem.use r e hh fun z1 v1 S1 H1 as1 cs1 e1 r1 w1 q1 => ?_
  refine hi.sem.use r1 (e.mono e1) q1 fun z2 v2 S2 H2 as2 cs2 e2 r2 w2 q2 => ?_
  split at q2
  · rename_i n j d
    split at q2
    · rename_i ds hc
      obtain ⟨m, hm, q2⟩ := q2
      obtain ⟨a, ha1, rfl⟩ := w1.mono e2
      obtain ⟨hS, vs, hl, is⟩ := r2.cell_lst ha1 hc
      have vd : Is X.K S2 d v := Is.mono (e1.trans e2).sub _ _ vz
      refine ⟨a, vs, j, m, rfl, w2, hl, by rw [is.len]; exact hm, ?_⟩
      exact p σ S2 _ as2 en _ (e1.trans e2) (r2.put ha1 (c := .lst (ds.set m d)) ⟨hS, _, upd_same, is.set vd⟩ hS) (e.mono (e1.trans e2)) (fun _ _ => rfl) q2
    · exact q2.elim
  · exact q2.elim

/-! ### what is walked -/
structure Wk (K : PySem.W.Frag) (J : It) (S : Hp) (as : List Addr) (ds : List D) (keep : Cs → Prop) : Prop where
  stop : ∀ (S' H : Hp) (as' : List Addr) (cs : Cs) (i : Nat), Ext S as S' as' → Rep K S' H as' cs → keep cs → ds.length ≤ i → J.stop i H
  go : ∀ (S' H : Hp) (as' : List Addr) (cs : Cs) (i : Nat) (d : D), Ext S as S' as' → Rep K S' H as' cs → keep cs → ds[i]? = some d →
    J.go i H ∧ ∀ x H', J.yld i H x H' → ∃ S'', Sub S' S'' ∧ Rep K S'' H' as' cs ∧ Is K S'' d x
structure QI (X : Cx) (tg iter : Expr) (wi : TI) (it : DI) : Prop where
  pi : PI X tg iter wi
  sem : ∀ (σ : L2.St) (H S : Hp) (as : List Addr) (en : En) (cs : Cs) (k : List D → (Cs → Prop) → Cs → Prop) (R : It → Hp → Prop), Rep X.K S H as cs → EnvOk X.K S as en σ → it en cs k →
    (∀ (J : It) (S' H' : Hp) (as' : List Addr) (ds : List D) (keep : Cs → Prop) (cs' : Cs), Ext S as S' as' → Rep X.K S' H' as' cs' → Wk X.K J S' as' ds keep → k ds keep cs' → R J H') → wi σ H R
def yes : Cs → Prop := fun _ => True
/-- a list or tuple, and which cells must stay -/
def seqD (cs : Cs) (z : Z) (k : List D → (Cs → Prop) → Prop) : Prop :=
  match z with
  | .d (.lst ds) => k ds yes
  | .d (.tup ds) => k ds yes
  | .d (.scr ns) => k (ns.map D.int) yes
  | .c n => match cs[n]? with
    | some (.lst ds) => k ds fun c => c[n]? = some (.lst ds)
    | _ => False
  | _ => False
def diSeq (a : DE) : DI := fun en cs k => a en cs fun z cs1 => seqD cs1 z fun ds keep => k ds keep cs1
def iSeq (K : PySem.W.Frag) (tl : TE) : TI := fun σ H R => tl σ H fun x H1 => ∃ a, x = .ref a ∧ ((∃ xs, SqL K H1 a xs ∧ R (Itl K a) H1) ∨ ∃ xs, SqT K H1 a xs ∧ R (Itt K a) H1)
theorem pi_seq {tg l : Expr} {tl : TE} (hl : PE X l tl) : PI X tg l (iSeq X.K tl) := by
  refine ⟨fun pins s σ H R I h => thn (hl.run pins s σ H _ I h) fun v s1 ⟨x, H1, I1, r1, a, e, q⟩ => ?_⟩
  subst e
  cases r1
  have fp : ∀ {c : String} (b : Addr), b ∈ [s1.heap.objs.size] → FpOk X pins H1 b := fun b hb => by
    have e : b = s1.heap.objs.size := by simpa using hb
    subst e
    exact I1.fpOk (Nat.le_refl _) (I1.hok.fresh (Nat.le_refl _))
  rcases q with ⟨xs, hq, q⟩ | ⟨xs, hq, q⟩
  · obtain ⟨its, rv, pl, hz⟩ := I1.list hq
    exact wpAny_pyIter_list pl.isList ⟨_, [s1.heap.objs.size], _, _, H1, rfl, I1.kept (t' := s1.toks) fun b o e => Heap.get?_push_of_some _ e, turn_list a _, ⟨_, Heap.get?_push_size _ rfl, rfl, rfl⟩, fp (c := ""), q⟩
  · obtain ⟨its, rv, pl, hz⟩ := I1.tuple hq
    exact wpAny_pyIter_tuple pl ⟨_, [s1.heap.objs.size], _, _, H1, rfl, I1.kept (t' := s1.toks) fun b o e => Heap.get?_push_of_some _ e, turn_tuple a _, ⟨_, Heap.get?_push_size _ rfl, rfl, rfl⟩, fp (c := ""), q⟩
theorem wk_l {K : PySem.W.Frag} {S : Hp} {as : List Addr} {ds : List D} {keep : Cs → Prop} {a : Addr}
    (h : ∀ (S' H : Hp) (as' : List Addr) (cs : Cs), Ext S as S' as' → Rep K S' H as' cs → keep cs → ∃ vs, SqL K H a vs ∧ IsL K S' ds vs) : Wk K (Itl K a) S as ds keep := by
  refine ⟨fun S' H as' cs i e r kp hi => ?_, fun S' H as' cs i d e r kp hi => ?_⟩
  · obtain ⟨vs, h1, h2⟩ := h S' H as' cs e r kp
    exact ⟨vs, h1, by rw [h2.len]; exact hi⟩
  · obtain ⟨vs, h1, h2⟩ := h S' H as' cs e r kp
    obtain ⟨v, hv, iv⟩ := h2.get hi
    refine ⟨⟨vs, v, h1, hv⟩, fun x H' y => ?_⟩
    obtain ⟨rfl, f⟩ := y
    have ex : v = x := Option.some.inj (hv.symm.trans (f vs h1))
    subst ex
    exact ⟨S', Sub.refl S', r, iv⟩
theorem wk_t {K : PySem.W.Frag} {S : Hp} {as : List Addr} {ds : List D} {a : Addr} {vs : List V} (h1 : SqT K S a vs) (h2 : IsL K S ds vs) : Wk K (Itt K a) S as ds yes := by
  refine ⟨fun S' H as' cs i e r kp hi => ⟨vs, r.sub.t (e.sub.t h1), by rw [h2.len]; exact hi⟩, fun S' H as' cs i d e r kp hi => ?_⟩
  obtain ⟨v, hv, iv⟩ := h2.get hi
  have ht := r.sub.t (e.sub.t h1)
  refine ⟨⟨vs, v, ht, hv⟩, fun x H' y => ?_⟩
  obtain ⟨rfl, f⟩ := y
  have ex : v = x := Option.some.inj (hv.symm.trans (f vs ht))
  subst ex
  exact ⟨S', Sub.refl S', r, Is.mono e.sub _ _ iv⟩
theorem qi_seq {tg l : Expr} {tl : TE} {dl : DE} (hl : QE X l tl dl) : QI X tg l (iSeq X.K tl) (diSeq dl) := by
  refine ⟨pi_seq hl.pe, fun σ H S as en cs k R r e h p => ?_⟩
  refine hl.sem.use r e h fun z v S1 H1 as1 cs1 e1 r1 v1 q1 => ?_
  unfold seqD at q1
  split at q1
  · obtain ⟨a, vs, rfl, hs, is⟩ := v1
    exact ⟨a, rfl, .inl ⟨vs, SqL.of (r1.sub _ _ hs), p _ S1 H1 as1 _ yes cs1 e1 r1 (wk_l fun S' H as' cs e r _ => ⟨vs, SqL.of (r.sub _ _ (e.sub _ _ hs)), IsL.mono e.sub _ _ is⟩) q1⟩⟩
  · obtain ⟨a, vs, rfl, hs, is⟩ := v1
    exact ⟨a, rfl, .inr ⟨vs, r1.sub.t hs, p _ S1 H1 as1 _ yes cs1 e1 r1 (wk_t hs is) q1⟩⟩
  · obtain ⟨a, rfl, hs⟩ := v1
    exact ⟨a, rfl, .inl ⟨_, r1.sub.l hs, p _ S1 H1 as1 _ yes cs1 e1 r1 (wk_l fun S' H as' cs e r _ => ⟨_, r.sub.l (e.sub.l hs), isL_ints _⟩) q1⟩⟩
  · rename_i n
    obtain ⟨a, ha, rfl⟩ := v1
    split at q1
    · rename_i ds hc
      obtain ⟨hS, vs, hl, is⟩ := r1.cell_lst ha hc
      refine ⟨a, rfl, .inl ⟨vs, SqL.of hl, p _ S1 H1 as1 _ _ cs1 e1 r1 (wk_l fun S' H as' cs e r kp => ?_) q1⟩⟩
      obtain ⟨_, vs', hl', is'⟩ := r.cell_lst (e.get ha) kp
      exact ⟨vs', SqL.of hl', is'⟩
    · exact q1.elim
  · exact q1.elim
/-- range(n), range(a, b) -/
def rgD (lo : Int) (n : Nat) : List D := (List.range n).map fun (i : Nat) => D.int (lo + (i : Int))
theorem rgD_len (lo : Int) (n : Nat) : (rgD lo n).length = n := by unfold rgD; rw [List.length_map, List.length_range]
theorem rgD_get {lo : Int} {n i : Nat} {d : D} (h : (rgD lo n)[i]? = some d) : i < n ∧ d = .int (lo + (i : Int)) := by
  unfold rgD at h
  rw [List.getElem?_map] at h
  cases q : (List.range n)[i]? with
  | none => rw [q] at h; cases h
  | some j =>
    rw [q] at h
    have hl := (List.getElem?_eq_some_iff.mp q)
    obtain ⟨h1, h2⟩ := hl
    rw [List.getElem_range] at h2
    subst h2
    rw [List.length_range] at h1
    exact ⟨h1, (Option.some.inj h).symm⟩
def Rg (i : Int) : Prop := -(2 ^ 62) ≤ i ∧ i < 2 ^ 62
theorem wk_r {K : PySem.W.Frag} {S : Hp} {as : List Addr} {lo : Int} {n : Nat} : Wk K (Itr lo n) S as (rgD lo n) yes := by
  refine ⟨fun S' H as' cs i e r kp hi => by rw [rgD_len] at hi; exact hi, fun S' H as' cs i d e r kp hi => ?_⟩
  obtain ⟨h1, rfl⟩ := rgD_get hi
  exact ⟨h1, fun x H' y => ⟨S', Sub.refl S', by rw [y.1]; exact r, y.2⟩⟩
def diR1 (a : DE) : DI := fun en cs k => a en cs fun z cs1 => ∃ j, z = .d (.int j) ∧ Rg j ∧ k (rgD 0 j.toNat) yes cs1
def diR2 (a b : DE) : DI := fun en cs k => a en cs fun z cs1 => b en cs1 fun w cs2 => ∃ i j, z = .d (.int i) ∧ w = .d (.int j) ∧ (Rg i ∧ Rg j) ∧ k (rgD i (j - i).toNat) yes cs2
theorem qi_range1 {tg a : Expr} {ta : TE} {da : DE} {p : Pos} (hm : X.mg "range" = none) (ha : QE X a ta da) (hg : Gl X "range" := by rfl) (hs : starEach [a] X.env = [(false, eval a X.env)] := by rfl) : QI X tg (.Call (.Name "range" p) [a] [] pos) (iRng1 (tCons ta tNil)) (diR1 da) := by
  refine ⟨pi_range1 hg hm (pa_cons ha.pe pa_nil hs) hs, fun σ H S as en cs k R r e h p => ?_⟩
  refine ha.sem.use r e h fun z v S1 H1 as1 cs1 e1 r1 v1 q1 => ?_
  obtain ⟨j, rfl, ⟨b1, b2⟩, q1⟩ := q1
  rw [show v = .int j from v1]
  exact ⟨j, rfl, b1, b2, p _ S1 H1 as1 _ yes cs1 e1 r1 wk_r q1⟩
theorem qi_range2 {tg a b : Expr} {ta tb : TE} {da db : DE} {p : Pos} (hm : X.mg "range" = none) (ha : QE X a ta da) (hb : QE X b tb db) (hg : Gl X "range" := by rfl) (hs : starEach [a, b] X.env = [(false, eval a X.env), (false, eval b X.env)] := by rfl) (hs2 : starEach [b] X.env = [(false, eval b X.env)] := by rfl) :
    QI X tg (.Call (.Name "range" p) [a, b] [] pos) (iRng2 (tCons ta (tCons tb tNil))) (diR2 da db) := by
  refine ⟨pi_range2 hg hm (pa_cons ha.pe (pa_cons hb.pe pa_nil hs2) (by rw [hs, hs2])) hs hs2, fun σ H S as en cs k R r e h p => ?_⟩
  refine ha.sem.use r e h fun z v S1 H1 as1 cs1 e1 r1 v1 q1 => ?_
  refine hb.sem.use r1 (e.mono e1) q1 fun z2 v2 S2 H2 as2 cs2 e2 r2 w2 q2 => ?_
  obtain ⟨i, j, rfl, rfl, ⟨⟨b1, b2⟩, b3, b4⟩, q2⟩ := q2
  rw [show v = .int i from v1, show v2 = .int j from w2]
  exact ⟨i, j, rfl, ⟨b1, b2, b3, b4⟩, p _ S2 H2 as2 _ yes cs2 (e1.trans e2) r2 wk_r q2⟩
/-- enumerate(xs) -/
def enumD (ds : List D) : List D := ds.zipIdx.map fun p => D.tup [.int (p.2 : Int), p.1]
theorem enumD_get {ds : List D} {i : Nat} {x : D} (h : (enumD ds)[i]? = some x) : ∃ d, ds[i]? = some d ∧ x = .tup [.int (i : Int), d] := by
  unfold enumD at h
  rw [List.getElem?_map, List.getElem?_zipIdx] at h
  cases q : ds[i]? with
  | none => rw [q] at h; cases h
  | some d =>
    rw [q] at h
    have e := Option.some.inj h
    refine ⟨d, rfl, ?_⟩
    rw [← e]
    simp
theorem enumD_len (ds : List D) : (enumD ds).length = ds.length := by unfold enumD; rw [List.length_map, List.length_zipIdx]
def diEnum (a : DE) : DI := fun en cs k => a en cs fun z cs1 => match z with
  | .d (.tup _) => False
  | z => seqD cs1 z fun ds keep => k (enumD ds) keep cs1
theorem wk_e {K : PySem.W.Frag} {S : Hp} {as : List Addr} {ds : List D} {keep : Cs → Prop} {a : Addr}
    (h : ∀ (S' H : Hp) (as' : List Addr) (cs : Cs), Ext S as S' as' → Rep K S' H as' cs → keep cs → ∃ vs, SqL K H a vs ∧ IsL K S' ds vs) : Wk K (Ite K a) S as (enumD ds) keep := by
  refine ⟨fun S' H as' cs i e r kp hi => ?_, fun S' H as' cs i d e r kp hi => ?_⟩
  · obtain ⟨vs, h1, h2⟩ := h S' H as' cs e r kp
    rw [enumD_len] at hi
    exact ⟨vs, h1, by rw [h2.len]; exact hi⟩
  · obtain ⟨d', hd, rfl⟩ := enumD_get hi
    obtain ⟨vs, h1, h2⟩ := h S' H as' cs e r kp
    obtain ⟨v, hv, iv⟩ := h2.get hd
    refine ⟨⟨vs, v, h1, hv⟩, fun x H' y => ?_⟩
    obtain ⟨T, x', rfl, nT, rfl, f⟩ := y
    have ex : v = x' := Option.some.inj (hv.symm.trans (f vs h1))
    subst ex
    have hn := Sub.new (o := .tup [.int (i : Nat), v]) (r.sub.free nT)
    exact ⟨_, hn, r.lay nT _, T, _, rfl, SqT.of upd_same, ⟨_, _, rfl, rfl, ⟨_, _, rfl, Is.mono hn _ _ iv, rfl⟩⟩⟩
theorem qi_enum {a : Expr} {elts : List Expr} {kk : Nat} {ta : TE} {da : DE} {p tpos : Pos} (hm : X.mg "enumerate" = none) (ha : QE X a ta da) (hg : Gl X "enumerate" := by rfl) (hs : starEach [a] X.env = [(false, eval a X.env)] := by rfl) : QI X (.Tuple elts kk tpos) (.Call (.Name "enumerate" p) [a] [] pos) (iEnum X.K (tCons ta tNil)) (diEnum da) := by
  refine ⟨pi_enum hg hm (pa_cons ha.pe pa_nil hs) hs, fun σ H S as en cs k R r e h p => ?_⟩
  refine ha.sem.use r e h fun z v S1 H1 as1 cs1 e1 r1 v1 q1 => ?_
  cases z with
  | d x =>
    cases x with
    | lst ds =>
      obtain ⟨a, vs, rfl, hs, is⟩ := v1
      exact ⟨a, vs, rfl, SqL.of (r1.sub _ _ hs), p _ S1 H1 as1 _ yes cs1 e1 r1 (wk_e fun S' H as' cs e r _ => ⟨vs, SqL.of (r.sub _ _ (e.sub _ _ hs)), IsL.mono e.sub _ _ is⟩) q1⟩
    | scr ns =>
      obtain ⟨a, rfl, hs⟩ := v1
      exact ⟨a, _, rfl, r1.sub.l hs, p _ S1 H1 as1 _ yes cs1 e1 r1 (wk_e fun S' H as' cs e r _ => ⟨_, r.sub.l (e.sub.l hs), isL_ints _⟩) q1⟩
    | _ => exact q1.elim
  | c n =>
    obtain ⟨a, ha, rfl⟩ := v1
    have q1' : (match cs1[n]? with
      | some (.lst ds) => k (enumD ds) (fun c => c[n]? = some (.lst ds)) cs1
      | _ => False) := q1
    split at q1'
    · rename_i ds hc
      obtain ⟨hS, vs, hl, is⟩ := r1.cell_lst ha hc
      refine ⟨a, vs, rfl, SqL.of hl, p _ S1 H1 as1 _ _ cs1 e1 r1 (wk_e fun S' H as' cs e r kp => ?_) q1'⟩
      obtain ⟨_, vs', hl', is'⟩ := r.cell_lst (e.get ha) kp
      exact ⟨vs', SqL.of hl', is'⟩
    · exact q1'.elim
end
end DL
set_option Elab.async false
set_option linter.all false
set_option maxRecDepth 100000
set_option maxHeartbeats 2000000
namespace DL
open PySem L2

/-! ### list comprehensions -/
/-- a clause's test -/
structure QTs (X : Cx) (ifs : List Expr) (tt : TT) (t : DT) : Prop where
  pts : PTs X ifs tt
  sem : SemT X.K tt t
def dYes : DT := fun _ cs k => k true cs
section
variable {X : Cx} {pos : Pos}
theorem qts_nil : QTs X [] tYes dYes := ⟨pts_nil, fun σ H S as en cs k Q r e q p => p true S H as cs Ext.refl r q⟩
theorem qts_one {c : Expr} {tt : TT} {t : DT} (h : QT X c tt t) : QTs X [c] tt t := ⟨pts_one h.pt, h.sem⟩
/-- fin: what is made of the list -/
def dLcG (fin : (Z → Cs → Prop) → List D → Cs → Prop) (it : DI) (g : DG) (tt : DT) (te : DE) (own : List Nat) : DE := fun en cs k => it en cs fun ds keep cs1 => ∃ I : Nat → List D → Cs → Prop,
  I 0 [] cs1 ∧ (∀ i acc c, I i acc c → c.length = cs1.length ∧ keep (c ++ [.lst acc])) ∧
  (∀ i d acc c, ds[i]? = some d → I i acc c → g (.d d) (wipeD en own) (c ++ [.lst acc]) fun en2 cs2 => tt en2 cs2 fun b cs3 =>
    if b = true then te en2 cs3 fun z cs4 => ∃ y c', z = .d y ∧ cs4.take (c.length + 1) = c' ++ [.lst acc] ∧ c'.length = c.length ∧ acc.length < 100000 ∧ I (i + 1) (acc ++ [y]) c'
    else ∃ c', cs3.take (c.length + 1) = c' ++ [.lst acc] ∧ c'.length = c.length ∧ I (i + 1) acc c') ∧
  ∀ acc c, I ds.length acc c → fin k acc c
/-- the list does not change; it will -/
def finD (k : Z → Cs → Prop) (acc : List D) (c : Cs) : Prop := k (.d (.lst acc)) c
def finC (k : Z → Cs → Prop) (acc : List D) (c : Cs) : Prop := k (.c c.length) (c ++ [.lst acc])
abbrev dLc := dLcG finD
abbrev dLcC := dLcG finC
def FinOk (K : PySem.W.Frag) (fin : (Z → Cs → Prop) → List D → Cs → Prop) : Prop :=
  ∀ (S H : Hp) (as : List Addr) (c : Cs) (p : Addr) (acc : List D) (k : Z → Cs → Prop) (Q : VK), Rep K S H (as ++ [p]) (c ++ [.lst acc]) → fin k acc c → PQ K S as k Q → Q (.ref p) H
theorem Rep.last {K : PySem.W.Frag} {S H : Hp} {as : List Addr} {c : Cs} {p : Addr} {acc : List D} (r : Rep K S H (as ++ [p]) (c ++ [.lst acc])) : as.length = c.length ∧ S p = none ∧ ∃ vs, H p = some (.lst vs) ∧ IsL K S acc vs := by
  have hl : as.length = c.length := by
    have := r.len
    simp only [List.length_append, List.length_cons, List.length_nil] at this
    omega
  have h := r.cell_lst (n := c.length) (a := p) (ds := acc) (by rw [← hl, List.getElem?_append_right (Nat.le_refl _), Nat.sub_self]; rfl) (by rw [List.getElem?_append_right (Nat.le_refl _), Nat.sub_self]; rfl)
  exact ⟨hl, h⟩
theorem Rep.init {K : PySem.W.Frag} {S H : Hp} {as : List Addr} {c : Cs} {p : Addr} {x : D} (r : Rep K S H (as ++ [p]) (c ++ [x])) : Rep K S H as c := by
  have hl : as.length = c.length := by
    have := r.len
    simp only [List.length_append, List.length_cons, List.length_nil] at this
    omega
  have t := r.take as.length
  rw [List.take_left, hl, List.take_left] at t
  exact t
/-- a cell's list is known from now on -/
theorem Rep.freeze {K : PySem.W.Frag} {S H : Hp} {as : List Addr} {c : Cs} {p : Addr} {o : HO} (r : Rep K S H as c) (np : p ∉ as) (hp : H p = some o) (hS : S p = none) : Rep K (upd S p o) H as c := by
  refine ⟨fun a u e => ?_, r.len, r.nod, fun n a d e1 e2 => ?_, r.liv⟩
  · by_cases ha : a = p
    · subst ha
      rw [upd_same] at e
      rw [hp]; exact e
    · rw [upd_ne ha] at e
      exact r.sub a u e
  · have ne : a ≠ p := fun z => np (z ▸ List.mem_of_getElem? e1)
    exact CelAt.mono (Sub.new hS) (fun q => by rw [upd_ne ne]; exact q) rfl (r.cel n a d e1 e2)
theorem fin_d {K : PySem.W.Frag} : FinOk K finD := by
  intro S H as c p acc k Q r h q
  obtain ⟨hl, hS, vs, hp, is⟩ := r.last
  have np : p ∉ as := by
    have := r.nod
    rw [List.nodup_append] at this
    exact fun z => this.2.2 p z p (by simp) rfl
  have hn := Sub.new (o := .lst vs) hS
  exact q (.d (.lst acc)) (.ref p) (upd S p (.lst vs)) H as c (Ext.of hn) (r.init.freeze np hp hS) ⟨p, vs, rfl, upd_same, IsL.mono hn _ _ is⟩ h
theorem fin_c {K : PySem.W.Frag} : FinOk K finC := by
  intro S H as c p acc k Q r h q
  exact q (.c c.length) (.ref p) S H _ _ ⟨Sub.refl S, [p], rfl⟩ r ⟨p, by rw [← r.last.1, List.getElem?_append_right (Nat.le_refl _), Nat.sub_self]; rfl, rfl⟩ h
theorem sem_lc {K : PySem.W.Frag} {fin : (Z → Cs → Prop) → List D → Cs → Prop} {wi : TI} {g : TG} {tt : TT} {te : TE} {it : DI} {dg : DG} {dt : DT} {de : DE} {is own : List Nat} (hf : FinOk K fin)
    (hi : ∀ (σ : L2.St) (H S : Hp) (as : List Addr) (en : En) (cs : Cs) (k : List D → (Cs → Prop) → Cs → Prop) (R : It → Hp → Prop), Rep K S H as cs → EnvOk K S as en σ → it en cs k →
      (∀ (J : It) (S' H' : Hp) (as' : List Addr) (ds : List D) (keep : Cs → Prop) (cs' : Cs), Ext S as S' as' → Rep K S' H' as' cs' → Wk K J S' as' ds keep → k ds keep cs' → R J H') → wi σ H R)
    (hg : SemG K g dg is) (ht : SemT K tt dt) (he : SemE K te de) (hw : ∀ i ∈ is, i ∈ own) : SemE K (tLc wi g tt te own) (dLcG fin it dg dt de own) := by
  intro σ H S as en cs k Q rp ev q p
  refine hi σ H S as en cs _ _ rp ev q fun J S1 H1 as1 ds keep cs1 e1 r1 wk q1 => ?_
  obtain ⟨I, i0, ik, step, done⟩ := q1
  intro Dl hD
  have rc : Rep K S1 (upd H1 Dl (.lst [])) (as1 ++ [Dl]) (cs1 ++ [.lst []]) := r1.cell hD (c := .lst []) ⟨r1.sub.free hD, [], upd_same, rfl⟩
  refine ⟨fun i m H' => m = ds.length - i ∧ i ≤ ds.length ∧ ∃ S' acc c, Sub S1 S' ∧ Rep K S' H' (as1 ++ [Dl]) (c ++ [.lst acc]) ∧ I i acc c, ⟨ds.length, by omega, Nat.zero_le _, S1, [], cs1, Sub.refl _, rc, i0⟩, ?_⟩
  rintro i m H' ⟨rfl, hi', S', acc, c, s', r', hI⟩
  have ex : Ext S1 as1 S' (as1 ++ [Dl]) := ⟨s', [Dl], rfl⟩
  have kp := (ik i acc c hI).2
  have lc := r'.last
  by_cases hlt : i < ds.length
  · obtain ⟨d, hd⟩ : ∃ d, ds[i]? = some d := ⟨ds[i], List.getElem?_eq_getElem hlt⟩
    obtain ⟨go, yl⟩ := wk.go S' H' (as1 ++ [Dl]) _ i d ex r' kp hd
    refine .inr ⟨go, fun H'' => ∃ S'' acc' c', Sub S1 S'' ∧ Rep K S'' H'' (as1 ++ [Dl]) (c' ++ [.lst acc']) ∧ I (i + 1) acc' c', fun H'' ⟨S'', acc', c', a1, a2, a3⟩ => ⟨ds.length - (i + 1), by omega, rfl, hlt, S'', acc', c', a1, a2, a3⟩, fun x H'' y => ?_⟩
    obtain ⟨S2, s2, r2, ix⟩ := yl x H'' y
    have ex2 : Ext S as S2 (as1 ++ [Dl]) := e1.trans (ex.trans (Ext.of s2))
    refine hg (.d d) x _ H'' S2 (as1 ++ [Dl]) (wipeD en own) _ _ _ r2 ((ev.mono ex2).wipe own) ix (step i d acc c hd hI) fun σ3 S3 H3 as3 en3 cs3 e3 r3 ev3 w3 q3 => ?_
    refine ⟨by rw [w3 own hw, wipe_wipe own own fun _ h => h], ?_⟩
    refine ht σ3 H3 S3 as3 en3 cs3 _ _ r3 ev3 q3 fun b S4 H4 as4 cs4 e4 r4 q4 => ?_
    have back : ∀ {S5 H5 : Hp} {as5 : List Addr} {cs5 : Cs} {c' : Cs}, Ext S2 (as1 ++ [Dl]) S5 as5 → Rep K S5 H5 as5 cs5 → cs5.take (c.length + 1) = c' ++ [.lst acc] → c'.length = c.length → Rep K S5 H5 (as1 ++ [Dl]) (c' ++ [.lst acc]) := fun {S5 H5 as5 cs5 c'} e5 r5 t5 l5 => by
      have t := r5.take (c.length + 1)
      rw [t5] at t
      obtain ⟨mr, rfl⟩ := e5.pre
      have hz : (as1 ++ [Dl]).length = c.length + 1 := by rw [List.length_append, lc.1]; rfl
      rw [← hz, List.take_left] at t
      exact t
    cases b with
    | false =>
      rw [if_neg Bool.false_ne_true] at q4 ⊢
      obtain ⟨c', t4, l4, hI'⟩ := q4
      exact ⟨S4, acc, c', (s'.trans s2).trans (e3.sub.trans e4.sub), back (e3.trans e4) r4 t4 l4, hI'⟩
    | true =>
      rw [if_pos rfl] at q4 ⊢
      refine he.use r4 (ev3.mono e4) q4 fun z v S5 H5 as5 cs5 e5 r5 v5 q5 => ?_
      obtain ⟨y, c', rfl, t5, l5, hz, hI'⟩ := q5
      have r6 := back ((e3.trans e4).trans e5) r5 t5 l5
      obtain ⟨hl6, hS6, vs, hp6, is6⟩ := r6.last
      refine ⟨vs, hp6, by rw [is6.len]; exact size_lt hz, S5, acc ++ [y], c', (s'.trans s2).trans ((e3.sub.trans e4.sub).trans e5.sub), ?_, hI'⟩
      have r7 := r6.put (n := c'.length) (a := Dl) (o := .lst (vs ++ [v])) (c := .lst (acc ++ [y])) (by rw [← hl6, List.getElem?_append_right (Nat.le_refl _), Nat.sub_self]; rfl) ⟨hS6, _, upd_same, is6.append ⟨v, [], rfl, v5, rfl⟩⟩ hS6
      rw [List.set_append_right _ _ (Nat.le_refl _), Nat.sub_self] at r7
      exact r7
  · have ei : i = ds.length := by omega
    subst ei
    refine .inl ⟨wk.stop S' H' (as1 ++ [Dl]) _ _ ex r' kp (Nat.le_refl _), ?_⟩
    exact hf S' H' as1 c Dl acc k Q r' (done acc c hI) (p.mono (e1.trans (Ext.of s')))
theorem q_lcG {elt tg iter : Expr} {ifs : List Expr} {scope : Scope} {own : List (Str × Nat)} {fin : (Z → Cs → Prop) → List D → Cs → Prop} {wi : TI} {g : TG} {tt : TT} {te : TE} {it : DI} {dg : DG} {dt : DT} {de : DE} {is : List Nat} (hf : FinOk X.K fin) (hN : X.N.Nodup) (hi : QI X tg iter wi it) (ok : BlkOk X.N X.env.scope scope own)
    (hg : ∀ (s : Shared) (H : Hp) (C : Addr) (cl : List (Str × Addr)) (fp : List Addr), QG (X.blk s H scope (compEnvC scope cl C X.env) fp) tg g dg is) (ht : ∀ (s : Shared) (H : Hp) (C : Addr) (cl : List (Str × Addr)) (fp : List Addr), QTs (X.blk s H scope (compEnvC scope cl C X.env) fp) ifs tt dt)
    (he : ∀ (s : Shared) (H : Hp) (C : Addr) (cl : List (Str × Addr)) (fp : List Addr), QE (X.blk s H scope (compEnvC scope cl C X.env) fp) elt te de) (s0 : Shared) (hw : ∀ i ∈ is, i ∈ own.map (·.2)) (hc : X.calm = true := by rfl) (hs : ∀ x, foldedSetIterable iter X.env x = pure x := by intro _; rfl) :
    QE X (.ListComp elt [⟨tg, iter, ifs, 0⟩] scope pos) (tLc wi g tt te (own.map (·.2))) (dLcG fin it dg dt de (own.map (·.2))) :=
  ⟨pe_lc hc hN hi.pi ok (fun s H C cl fp => (hg s H C cl fp).pg) (fun s H C cl fp => (ht s H C cl fp).pts) (fun s H C cl fp => (he s H C cl fp).pe) hs,
    sem_lc hf hi.sem (hg s0 (fun _ => none) 0 [] []).sem (ht s0 (fun _ => none) 0 [] []).sem (he s0 (fun _ => none) 0 [] []).sem hw⟩

/-! ### statements -/
structure EnK (K : PySem.W.Frag) (S : Hp) (as : List Addr) (D : DEnds) (E : Ends) : Prop where
  nx : ∀ (σ' : L2.St) (S' H' : Hp) (as' : List Addr) (en' : En) (cs' : Cs), Ext S as S' as' → Rep K S' H' as' cs' → EnvOk K S' as' en' σ' → D.nx en' cs' → E.nx σ' H'
  rt : PQ K S as D.rt E.rt
  bk : ∀ (σ' : L2.St) (S' H' : Hp) (as' : List Addr) (en' : En) (cs' : Cs), Ext S as S' as' → Rep K S' H' as' cs' → EnvOk K S' as' en' σ' → D.bk en' cs' → E.bk σ' H'
  ct : ∀ (σ' : L2.St) (S' H' : Hp) (as' : List Addr) (en' : En) (cs' : Cs), Ext S as S' as' → Rep K S' H' as' cs' → EnvOk K S' as' en' σ' → D.ct en' cs' → E.ct σ' H'
theorem EnK.mono {K : PySem.W.Frag} {S T : Hp} {as bs : List Addr} {D : DEnds} {E : Ends} (e : Ext S as T bs) (h : EnK K S as D E) : EnK K T bs D E :=
  ⟨fun σ' S' H' as' en' cs' e' => h.nx σ' S' H' as' en' cs' (e.trans e'), h.rt.mono e, fun σ' S' H' as' en' cs' e' => h.bk σ' S' H' as' en' cs' (e.trans e'), fun σ' S' H' as' en' cs' e' => h.ct σ' S' H' as' en' cs' (e.trans e')⟩
def SemS (K : PySem.W.Frag) (ts : TS) (t : DS) : Prop :=
  ∀ (σ : L2.St) (H S : Hp) (as : List Addr) (en : En) (cs : Cs) (D : DEnds) (E : Ends), Rep K S H as cs → EnvOk K S as en σ → t D en cs → EnK K S as D E → ts E σ H
structure QS (X : Cx) (st : Stmt) (ts : TS) (t : DS) : Prop where
  ps : PS X st ts
  sem : SemS X.K ts t
structure QSs (X : Cx) (st : List Stmt) (ts : TS) (t : DS) : Prop where
  pss : PSs X st ts
  sem : SemS X.K ts t
def dNext : DS := fun D en cs => D.nx en cs
def dSeq (t u : DS) : DS := fun D en cs => t { D with nx := u D } en cs
theorem qss_nil : QSs X [] tNext dNext := ⟨pss_nil, fun σ H S as en cs D E r e q p => p.nx σ S H as en cs Ext.refl r e q⟩
theorem qss_one {st : Stmt} {ts : TS} {t : DS} (h : QS X st ts t) : QSs X [st] ts t := ⟨pss_one h.ps, h.sem⟩
theorem qss_cons {st : Stmt} {rest : List Stmt} {ts us : TS} {t u : DS} (h1 : QS X st ts t) (h2 : QSs X rest us u) : QSs X (st :: rest) (tSeq ts us) (dSeq t u) := by
  refine ⟨pss_cons h1.ps h2.pss, ?_⟩
  intro σ H S as en cs D E r e q p
  exact h1.sem σ H S as en cs { D with nx := u D } { E with nx := us E } r e q ⟨fun σ' S' H' as' en' cs' e' r' ev' q' => h2.sem σ' H' S' as' en' cs' D E r' ev' q' (p.mono e'), p.rt, p.bk, p.ct⟩
theorem qs_pass : QS X (.Pass pos) tNext dNext := ⟨ps_pass, fun σ H S as en cs D E r e q p => p.nx σ S H as en cs Ext.refl r e q⟩
def dBreak : DS := fun D en cs => D.bk en cs
def dCont : DS := fun D en cs => D.ct en cs
theorem qs_break : QS X (.Break pos) tBreak dBreak := ⟨ps_break, fun σ H S as en cs D E r e q p => p.bk σ S H as en cs Ext.refl r e q⟩
theorem qs_continue : QS X (.Continue pos) tCont dCont := ⟨ps_continue, fun σ H S as en cs D E r e q p => p.ct σ S H as en cs Ext.refl r e q⟩
def dDrop (a : DE) : DS := fun D en cs => a en cs fun _ cs1 => D.nx en cs1
theorem qs_expr {e : Expr} {te : TE} {de : DE} (he : QE X e te de) (hs : swapsWith e none pos.line X.env = pure false := by rfl) : QS X (.Expr e pos) (tDrop te) (dDrop de) := by
  refine ⟨ps_expr he.pe hs, ?_⟩
  intro σ H S as en cs D E r e q p
  exact he.sem.use r e q fun z v S1 H1 as1 cs1 e1 r1 v1 q1 => p.nx σ S1 H1 as1 en cs1 e1 r1 (e.mono e1) q1
def dRet (a : DE) : DS := fun D en cs => a en cs D.rt
theorem qs_ret {e : Expr} {te : TE} {de : DE} (he : QE X e te de) : QS X (.Return (some e) pos) (tRet te) (dRet de) := ⟨ps_ret he.pe, fun σ H S as en cs D E r e q p => he.sem.use r e q p.rt⟩
def dRetN : DS := fun D _ cs => D.rt (.d .non) cs
theorem qs_retN : QS X (.Return none pos) tRetN dRetN := ⟨ps_retN, fun σ H S as en cs D E r e q p => p.rt (.d .non) .non S H as cs Ext.refl r rfl q⟩
def dIfS (c : DT) (t u : DS) : DS := fun D en cs => c en cs fun b cs1 => if b = true then t D en cs1 else u D en cs1
theorem qs_if {c : Expr} {a b : List Stmt} {tc : TT} {ta tb : TS} {dc : DT} {da db : DS} (hc : QT X c tc dc) (ha : QSs X a ta da) (hb : QSs X b tb db) : QS X (.If c a b pos) (tIfS tc ta tb) (dIfS dc da db) := by
  refine ⟨ps_if hc.pt ha.pss hb.pss, ?_⟩
  intro σ H S as en cs D E r e q p
  refine hc.sem σ H S as en cs _ _ r e q fun b S1 H1 as1 cs1 e1 r1 q1 => ?_
  cases b with
  | true =>
    rw [if_pos rfl] at q1 ⊢
    exact ha.sem σ H1 S1 as1 en cs1 D E r1 (e.mono e1) q1 (p.mono e1)
  | false =>
    rw [if_neg Bool.false_ne_true] at q1 ⊢
    exact hb.sem σ H1 S1 as1 en cs1 D E r1 (e.mono e1) q1 (p.mono e1)
/-- never reached -/
def dNever : DS := fun _ _ _ => False
theorem qs_never {st : Stmt} : QS X st tNever dNever := ⟨ps_never, fun _ _ _ _ _ _ _ _ _ _ q _ => q.elim⟩
theorem qss_never {st : List Stmt} : QSs X st tNever dNever := ⟨pss_never, fun _ _ _ _ _ _ _ _ _ _ q _ => q.elim⟩
def dAsg (a : DE) (g : DG) : DS := fun D en cs => a en cs fun z cs1 => g z en cs1 D.nx
theorem sem_asg {K : PySem.W.Frag} {te : TE} {g : TG} {de : DE} {dg : DG} {is : List Nat} (he : SemE K te de) (hg : SemG K g dg is) : SemS K (tAsg te g) (dAsg de dg) := by
  intro σ H S as en cs D E r e q p
  refine he.use r e q fun z v S1 H1 as1 cs1 e1 r1 v1 q1 => ?_
  exact hg z v σ H1 S1 as1 en cs1 _ _ r1 (e.mono e1) v1 q1 fun σ' S' H' as' en' cs' e' r' ev' _ q' => p.nx σ' S' H' as' en' cs' (e1.trans e') r' ev' q'
theorem qs_asg {tg e : Expr} {te : TE} {g : TG} {de : DE} {dg : DG} {is : List Nat} (he : QE X e te de) (hg : QG X tg g dg is) (hs : swapsWithSole [tg] e pos.line X.env = pure false := by rfl) (hw : swappedStores [tg] e X.env = pure none := by rfl)
    (h1 : (assignEach [tg] X.env).map (·.2) = [assign tg X.env] := by rfl) : QS X (.Assign [tg] e pos) (tAsg te g) (dAsg de dg) := ⟨ps_asg he.pe hg.pg hs hw h1, sem_asg he.sem hg.sem⟩
theorem qs_set (i : Nat) {x : Str} {e : Expr} {te : TE} {de : DE} {pos' : Pos} (hN : X.N.Nodup) (he : QE X e te de) (hi : X.N[i]? = some x := by rfl) (hx : Loc X.env.scope x := by first | exact Or.inl rfl | exact Or.inr rfl) (hs : swapsWith e (some (.Name x pos')) pos.line X.env = pure false := by rfl) (hf : X.fn x = true ∨ X.env.scope.names.lookup x = some .local := by first | exact .inl rfl | exact .inr rfl | assumption) :
    QS X (.Assign [.Name x pos'] e pos) (tAsg te (gName i)) (dAsg de (dgName i)) := ⟨ps_set hN hi hx he.pe hs hf, sem_asg he.sem (sem_gname i)⟩
/-- a, b = x, y -/
def dPar (i j : Nat) (a : DA) : DS := fun D en cs => a en cs fun zs cs1 => match zs with
  | [z, w] => D.nx ((en.set i (some z)).set j (some w)) cs1
  | _ => False
theorem qs_par (i j : Nat) {x y : Str} {a b : Expr} {ta : TA} {da : DA} {px py pt : Pos} {kt k2 pt2} (hN : X.N.Nodup) (ha : QA X [a, b] ta da) (hi : X.N[i]? = some x := by rfl) (hj : X.N[j]? = some y := by rfl) (hij : i ≠ j := by decide)
    (hx : X.env.scope.names.lookup x = some .local := by rfl) (hy : X.env.scope.names.lookup y = some .local := by rfl) (hw : swappedStores [.Tuple [.Name x px, .Name y py] kt pt] (.Tuple [a, b] k2 pt2) X.env = pure (some [x, y]) := by rfl)
    (hs : swapsWithSole [.Tuple [.Name x px, .Name y py] kt pt] (.Tuple [a, b] k2 pt2) pos.line X.env = pure false := by rfl) (hc : X.calm = true := by rfl) :
    QS X (.Assign [.Tuple [.Name x px, .Name y py] kt pt] (.Tuple [a, b] k2 pt2) pos) (tPar i j ta) (dPar i j da) := by
  refine ⟨ps_par hc hN hi hj hij hx hy ha.pa hw hs, ?_⟩
  intro σ H S as en cs D E r e q p
  refine ha.sem σ H S as en cs _ _ r e q fun zs vs S1 H1 as1 cs1 e1 r1 v1 q1 => ?_
  split at q1
  · obtain ⟨v, _, rfl, h1, u, _, rfl, h2, h3⟩ := v1
    exact ⟨v, u, by rw [h3], p.nx _ S1 H1 as1 _ cs1 e1 r1 (((e.mono e1).set h1 i).set h2 j) q1⟩
  · exact q1.elim
/-- name = [.. for ..] -/
theorem qs_setLc (i : Nat) {y : Str} {py : Pos} {elt tg iter : Expr} {ifs : List Expr} {scope : Scope} {own : List (Str × Nat)} {spos : Pos} {fin : (Z → Cs → Prop) → List D → Cs → Prop} {wi : TI} {g : TG} {tt : TT} {te : TE} {it : DI} {dg : DG} {dt : DT} {de : DE} {is : List Nat} (hf : FinOk X.K fin) (hN : X.N.Nodup) (hsw : swapsWith (.ListComp elt [⟨tg, iter, ifs, 0⟩] scope pos) (some (.Name y py)) spos.line X.env = pure true)
    (hi : QI X tg iter wi it) (ok : BlkOk X.N X.env.scope scope own)
    (hg : ∀ (s : Shared) (H : Hp) (C : Addr) (cl : List (Str × Addr)) (fp : List Addr), QG (X.blk s H scope (compEnvC scope cl C X.env) fp) tg g dg is) (ht : ∀ (s : Shared) (H : Hp) (C : Addr) (cl : List (Str × Addr)) (fp : List Addr), QTs (X.blk s H scope (compEnvC scope cl C X.env) fp) ifs tt dt)
    (he : ∀ (s : Shared) (H : Hp) (C : Addr) (cl : List (Str × Addr)) (fp : List Addr), QE (X.blk s H scope (compEnvC scope cl C X.env) fp) elt te de) (s0 : Shared) (hw : ∀ i ∈ is, i ∈ own.map (·.2)) (hy : X.N[i]? = some y := by rfl) (hyl : X.env.scope.names.lookup y = some .local := by rfl) (hc : X.calm = true := by rfl) (hs : ∀ x, foldedSetIterable iter X.env x = pure x := by intro _; rfl) :
    QS X (.Assign [.Name y py] (.ListComp elt [⟨tg, iter, ifs, 0⟩] scope pos) spos) (tAsg (tLc wi g tt te (own.map (·.2))) (gName i)) (dAsg (dLcG fin it dg dt de (own.map (·.2))) (dgName i)) :=
  ⟨ps_setLc hc hN hy hyl hsw hi.pi ok (fun s H C cl fp => (hg s H C cl fp).pg) (fun s H C cl fp => (ht s H C cl fp).pts) (fun s H C cl fp => (he s H C cl fp).pe) hs,
    sem_asg (sem_lc hf hi.sem (hg s0 (fun _ => none) 0 [] []).sem (ht s0 (fun _ => none) 0 [] []).sem (he s0 (fun _ => none) 0 [] []).sem hw) (sem_gname i)⟩
/-- d[k] = v, d a cell -/
def dPutK (a b c : DE) : DS := fun D en cs => c en cs fun z cs1 => a en cs1 fun x cs2 => b en cs2 fun y cs3 => match x, y, z with
  | .c n, .d dy, .d dz => (match cs3[n]? with
    | some (.dic kvs) => keyD dy fun key => kvs.length < 100000 ∧ D.nx en (cs3.set n (.dic (setK kvs key dz)))
    | _ => False)
  | _, _, _ => False
theorem qs_putK {o i v : Expr} {to ti tv : TE} {od id vd : DE} {pos' : Pos} (hu : X.A.units + 1 < cLine) (ho : QE X o to od) (hi : QE X i ti id) (hv : QE X v tv vd) (hs : swapsWith v (some (.Subscript o i pos')) pos.line X.env = pure false := by rfl) :
    QS X (.Assign [.Subscript o i pos'] v pos) (sDPut to ti tv) (dPutK od id vd) := by
  refine ⟨ps_dput hu ho.pe hi.pe hv.pe hs, ?_⟩
  intro σ H S as en cs D E r e q p
  refine hv.sem.use r e q fun z v S1 H1 as1 cs1 e1 r1 w1 q1 => ?_
  refine ho.sem.use r1 (e.mono e1) q1 fun z2 v2 S2 H2 as2 cs2 e2 r2 w2 q2 => ?_
  refine hi.sem.use r2 (e.mono (e1.trans e2)) q2 fun z3 v3 S3 H3 as3 cs3 e3 r3 w3 q3 => ?_
  split at q3
  · rename_i n dy dz
    split at q3
    · rename_i kvs hc
      obtain ⟨key, rfl, hz, q3⟩ := keyD_sh (Is.sh r3.sub (show Is X.K S3 dy v3 from w3)) q3
      obtain ⟨a, ha, rfl⟩ := w2.mono e3
      obtain ⟨hS, kv, hk, is⟩ := r3.cel n a (.dic kvs) ha hc
      have vd : Is X.K S3 dz v := Is.mono (e2.trans e3).sub _ _ w1
      exact ⟨a, _, rfl, DPut.k hk (by rw [is.len]; exact size_lt hz), p.nx σ S3 _ as3 en _ ((e1.trans e2).trans e3) (r3.put ha (c := .dic (setK kvs key dz)) ⟨hS, _, upd_same, is.put vd⟩ hS) (e.mono ((e1.trans e2).trans e3)) q3⟩
    · exact q3.elim
  · exact q3.elim
/-- xs.append(v), xs a cell -/
def dAppend (o v : DE) : DE := fun en cs k => o en cs fun x cs1 => match x with
  | .c n => (match cs1[n]? with
    | some (.lst _) => v en cs1 fun y cs2 => (match y with
      | .d d => (match cs2[n]? with
        | some (.lst ds) => ds.length < 100000 ∧ k (.d .non) (cs2.set n (.lst (ds ++ [d])))
        | _ => False)
      | _ => False)
    | _ => False)
  | _ => False
theorem q_append {o v : Expr} {to tv : TE} {od vd : DE} {apos cpos : Pos} (ho : QE X o to od) (hv : QE X v tv vd)
    (hbase : attributeBase o "append" X.env (eval o X.env) = eval o X.env := by rfl)
    (hfew : ((backTo cpos (starEach [v] X.env)).all (fun x => !x.1) && (backToKw cpos (keywordEach [] X.env)).all (fun x => x.1.isSome)
      && decide ([v].length + ([] : List Keyword).length + (if ([] : List Keyword).isEmpty then 0 else 1) < 30)) = true := by rfl)
    (hline : (apos.endLine == cpos.line) = true := by rfl) (hs : starEach [v] X.env = (false, eval v X.env) :: starEach [] X.env := by rfl) (hplain : (backTo cpos (starEach [] X.env)).any (·.1) = false := by rfl) :
    QE X (.Call (.Attribute o "append" apos) [v] [] cpos) (tBM X.K "list" rAppend to (tCons tv tNil)) (dAppend od vd) := by
  refine ⟨pe_bm PySem.F.plainAttrs_list PySem.F.slot_list_append PySem.F.type_list_append mt_append ho.pe (pa_cons hv.pe pa_nil hs) hbase hfew hline hs hplain, ?_⟩
  intro σ H S as en cs k Q r e q p
  refine ho.sem.use r e q fun z v S1 H1 as1 cs1 e1 r1 w1 q1 => ?_
  split at q1
  · rename_i n
    split at q1
    · rename_i ds1 hc1
      obtain ⟨a, ha, rfl⟩ := w1
      obtain ⟨_, vs1, hl1, _⟩ := r1.cell_lst ha hc1
      refine ⟨.inl ⟨rfl, vs1, SqL.of hl1⟩, ?_⟩
      refine hv.sem.use r1 (e.mono e1) q1 fun z2 v2 S2 H2 as2 cs2 e2 r2 w2 q2 => ?_
      split at q2
      · rename_i d
        split at q2
        · rename_i ds hc
          have ha2 := e2.get ha
          obtain ⟨hS, vs, hl, is⟩ := r2.cell_lst ha2 hc
          exact ⟨a, vs, v2, rfl, rfl, hl, by rw [is.len]; exact size_lt q2.1, p (.d .non) .non S2 _ as2 _ (e1.trans e2) (r2.put ha2 (c := .lst (ds ++ [d])) ⟨hS, _, upd_same, is.append ⟨v2, [], rfl, w2, rfl⟩⟩ hS) rfl q2.2⟩
        · exact q2.elim
      · exact q2.elim
    · exact q1.elim
  · exact q1.elim
/-- xs.extend(ys) -/
def dExtend (o v : DE) : DE := fun en cs k => o en cs fun x cs1 => match x with
  | .c n => (match cs1[n]? with
    | some (.lst _) => v en cs1 fun y cs2 => withD cs2 y fun dy => (match dy with
      | .lst es => (match cs2[n]? with
        | some (.lst ds) => ds.length + es.length < 100000 ∧ k (.d .non) (cs2.set n (.lst (ds ++ es)))
        | _ => False)
      | _ => False)
    | _ => False)
  | _ => False
theorem q_extend {o v : Expr} {to tv : TE} {od vd : DE} {apos cpos : Pos} (ho : QE X o to od) (hv : QE X v tv vd)
    (hbase : attributeBase o "extend" X.env (eval o X.env) = eval o X.env := by rfl)
    (hfew : ((backTo cpos (starEach [v] X.env)).all (fun x => !x.1) && (backToKw cpos (keywordEach [] X.env)).all (fun x => x.1.isSome)
      && decide ([v].length + ([] : List Keyword).length + (if ([] : List Keyword).isEmpty then 0 else 1) < 30)) = true := by rfl)
    (hline : (apos.endLine == cpos.line) = true := by rfl) (hs : starEach [v] X.env = (false, eval v X.env) :: starEach [] X.env := by rfl) (hplain : (backTo cpos (starEach [] X.env)).any (·.1) = false := by rfl) :
    QE X (.Call (.Attribute o "extend" apos) [v] [] cpos) (tBM X.K "list" rExtend to (tCons tv tNil)) (dExtend od vd) := by
  refine ⟨pe_bm PySem.F.plainAttrs_list PySem.F.slot_list_extend PySem.F.type_list_extend mt_extend ho.pe (pa_cons hv.pe pa_nil hs) hbase hfew hline hs hplain, ?_⟩
  intro σ H S as en cs k Q r e q p
  refine ho.sem.use r e q fun z v S1 H1 as1 cs1 e1 r1 w1 q1 => ?_
  split at q1
  · rename_i n
    split at q1
    · rename_i ds1 hc1
      obtain ⟨a, ha, rfl⟩ := w1
      obtain ⟨_, vs1, hl1, _⟩ := r1.cell_lst ha hc1
      refine ⟨.inl ⟨rfl, vs1, SqL.of hl1⟩, ?_⟩
      refine hv.sem.use r1 (e.mono e1) q1 fun z2 v2 S2 H2 as2 cs2 e2 r2 w2 q2 => ?_
      obtain ⟨dy, l2, q2⟩ := withD_look q2
      split at q2
      · rename_i es
        obtain ⟨b, us, rfl, hb, ie⟩ := look_sh r2 w2 l2
        split at q2
        · rename_i ds hc
          have ha2 := e2.get ha
          obtain ⟨hS, vs, hl, is⟩ := r2.cell_lst ha2 hc
          exact ⟨a, b, vs, us, rfl, rfl, hl, hb, by rw [is.len, ie.len]; exact Nat.le_of_lt (size_lt q2.1), p (.d .non) .non S2 _ as2 _ (e1.trans e2) (r2.put ha2 (c := .lst (ds ++ es)) ⟨hS, _, upd_same, is.append ie⟩ hS) rfl q2.2⟩
        · exact q2.elim
      · exact q2.elim
    · exact q1.elim
  · exact q1.elim

/-! ### loops -/
/-- cells from n on forgotten -/
def forgetZ (n : Nat) : Option Z → Option Z
  | some (.c m) => if m < n then some (.c m) else none
  | o => o
def forget (n : Nat) (en : En) : En := en.map (forgetZ n)
def Wkn (n0 : Nat) (P : En → Cs → Prop) (en : En) (cs : Cs) : Prop := P en cs ∨ ∃ n, n0 ≤ n ∧ P (forget n en) (cs.take n)
theorem EnvOk.cut {K : PySem.W.Frag} {S : Hp} {as : List Addr} {en : En} {σ : L2.St} (h : EnvOk K S as en σ) (n : Nat) : EnvOk K S (as.take n) (DL.forget n en) σ := by
  refine ⟨by rw [h.len, DL.forget, List.length_map], fun i z e => ?_⟩
  unfold DL.forget at e
  rw [List.getElem?_map] at e
  cases q : en[i]? with
  | none => rw [q] at e; cases e
  | some o =>
    rw [q] at e
    have e' : forgetZ n o = some z := Option.some.inj e
    cases o with
    | none => cases e'
    | some y =>
      cases y with
      | d x =>
        cases e'
        obtain ⟨v, h1, h2⟩ := h.at_ i (.d x) q
        exact ⟨v, h1, h2⟩
      | c m =>
        have e2 : (if m < n then some (Z.c m) else none) = some z := e'
        split at e2
        · rename_i hm
          cases e2
          obtain ⟨v, h1, a, h2, h3⟩ := h.at_ i (.c m) q
          exact ⟨v, h1, a, by rw [List.getElem?_take_of_lt hm]; exact h2, h3⟩
        · cases e2
theorem Ext.cut {S S' : Hp} {as as' : List Addr} (e : Ext S as S' as') {n : Nat} (h : as.length ≤ n) : Ext S as S' (as'.take n) := by
  obtain ⟨m, rfl⟩ := e.pre
  refine ⟨e.sub, m.take (n - as.length), ?_⟩
  rw [List.take_append, List.take_of_length_le h]
theorem Wkn.out {K : PySem.W.Frag} {S0 S H : Hp} {as0 as : List Addr} {n0 : Nat} {P : En → Cs → Prop} {en : En} {cs : Cs} {σ : L2.St} (h : Wkn n0 P en cs) (x : Ext S0 as0 S as) (hn : as0.length = n0) (r : Rep K S H as cs) (e : EnvOk K S as en σ) :
    ∃ S' as' en' cs', Ext S0 as0 S' as' ∧ Rep K S' H as' cs' ∧ EnvOk K S' as' en' σ ∧ P en' cs' := by
  rcases h with h | ⟨n, h0, h⟩
  · exact ⟨S, as, en, cs, x, r, e, h⟩
  · exact ⟨S, _, _, _, x.cut (by omega), r.take n, e.cut n, h⟩
def dFor (it : DI) (g : DG) (b : DS) : DS := fun D en cs => it en cs fun ds keep cs1 => ∃ I : Nat → En → Cs → Prop, I 0 en cs1 ∧ (∀ i en cs, I i en cs → keep cs) ∧
  (∀ i d en cs, ds[i]? = some d → I i en cs → g (.d d) en cs fun en2 cs2 => b { D with nx := Wkn cs1.length (I (i + 1)), ct := Wkn cs1.length (I (i + 1)), bk := D.nx } en2 cs2) ∧ ∀ en cs, I ds.length en cs → D.nx en cs
theorem qs_for {tg iter : Expr} {body : List Stmt} {wi : TI} {g : TG} {tb : TS} {it : DI} {dg : DG} {db : DS} {is : List Nat} (hp : PassesOwn (model X.prog X.w) X.A X.env X.xe) (hi : QI X tg iter wi it) (hg : QG X tg g dg is) (hb : QSs X body tb db) (hc : X.calm = true := by rfl)
    (hs : ∀ x, foldedSetIterable iter X.env x = pure x := by intro _; rfl) : QS X (.For tg iter body [] pos) (tFor wi g tb) (dFor it dg db) := by
  refine ⟨ps_for hp hc hi.pi hg.pg hb.pss hs, ?_⟩
  intro σ H S as en cs D E r e q p
  refine hi.sem σ H S as en cs _ _ r e q fun J S1 H1 as1 ds keep cs1 e1 r1 wk q1 => ?_
  obtain ⟨I, i0, ik, step, done⟩ := q1
  refine ⟨fun i m σ' H' => m = ds.length - i ∧ i ≤ ds.length ∧ ∃ S' as' en' cs', Ext S1 as1 S' as' ∧ Rep X.K S' H' as' cs' ∧ EnvOk X.K S' as' en' σ' ∧ I i en' cs', ⟨ds.length, by omega, Nat.zero_le _, S1, as1, en, cs1, Ext.refl, r1, e.mono e1, i0⟩, ?_⟩
  rintro i m σ' H' ⟨rfl, hi', S', as', en', cs', ex, r', ev', hI⟩
  have kp := ik i en' cs' hI
  by_cases hlt : i < ds.length
  · obtain ⟨d, hd⟩ : ∃ d, ds[i]? = some d := ⟨ds[i], List.getElem?_eq_getElem hlt⟩
    obtain ⟨go, yl⟩ := wk.go S' H' as' cs' i d ex r' kp hd
    refine .inr ⟨go, fun σ2 H2 => ∃ S2 as2 en2 cs2, Ext S1 as1 S2 as2 ∧ Rep X.K S2 H2 as2 cs2 ∧ EnvOk X.K S2 as2 en2 σ2 ∧ I (i + 1) en2 cs2, fun σ2 H2 h2 => ⟨ds.length - (i + 1), by omega, rfl, hlt, h2⟩, fun x H'' y => ?_⟩
    obtain ⟨S2, s2, r2, ix⟩ := yl x H'' y
    have e2 : Ext S1 as1 S2 as' := ex.trans (Ext.of s2)
    refine hg.sem (.d d) x σ' H'' S2 as' en' cs' _ _ r2 (ev'.mono (Ext.of s2)) ix (step i d en' cs' hd hI) fun σ3 S3 H3 as3 en3 cs3 e3 r3 ev3 _ q3 => ?_
    have e4 := e2.trans e3
    refine hb.sem σ3 H3 S3 as3 en3 cs3 _ _ r3 ev3 q3 ⟨fun σ4 S4 H4 as4 en4 cs4 e5 r4 ev4 q4 => ?_, p.rt.mono (e1.trans e4), fun σ4 S4 H4 as4 en4 cs4 e5 r4 ev4 q4 => ?_, fun σ4 S4 H4 as4 en4 cs4 e5 r4 ev4 q4 => ?_⟩
    · exact Wkn.out q4 (e4.trans e5) r1.len r4 ev4
    · exact p.nx σ4 S4 H4 as4 en4 cs4 (e1.trans (e4.trans e5)) r4 ev4 q4
    · exact Wkn.out q4 (e4.trans e5) r1.len r4 ev4
  · have ei : i = ds.length := by omega
    subst ei
    exact .inl ⟨wk.stop S' H' as' cs' _ ex r' kp (Nat.le_refl _), p.nx σ' S' H' as' en' cs' (e1.trans ex) r' ev' (done en' cs' hI)⟩
def dWhile (c : DT) (b : DS) : DS := fun D en0 cs0 => ∃ I : Nat → En → Cs → Prop, (∃ m, I m en0 cs0) ∧
  ∀ m en cs, I m en cs → c en cs fun k cs1 => if k = true then b { D with nx := Wkn cs0.length fun en2 cs2 => ∃ m', m' < m ∧ I m' en2 cs2, ct := Wkn cs0.length fun en2 cs2 => ∃ m', m' < m ∧ I m' en2 cs2, bk := D.nx } en cs1 else D.nx en cs1
theorem qs_while {c : Expr} {body : List Stmt} {tc : TT} {tb : TS} {dc : DT} {db : DS} (hp : PassesOwn (model X.prog X.w) X.A X.env X.xe) (hc : QT X c tc dc) (hb : QSs X body tb db) : QS X (.While c body [] pos) (tWhile tc tb) (dWhile dc db) := by
  refine ⟨ps_while hp hc.pt hb.pss, ?_⟩
  intro σ H S as en cs D E r e q p
  obtain ⟨I, ⟨m0, i0⟩, step⟩ := q
  refine ⟨fun m σ' H' => ∃ S' as' en' cs', Ext S as S' as' ∧ Rep X.K S' H' as' cs' ∧ EnvOk X.K S' as' en' σ' ∧ I m en' cs', ⟨m0, S, as, en, cs, Ext.refl, r, e, i0⟩, ?_⟩
  rintro m σ' H' ⟨S', as', en', cs', ex, r', ev', hI⟩
  refine hc.sem σ' H' S' as' en' cs' _ _ r' ev' (step m en' cs' hI) fun b S1 H1 as1 cs1 e1 r1 q1 => ?_
  cases b with
  | true =>
    rw [if_pos rfl] at q1 ⊢
    refine ⟨fun σ2 H2 => ∃ m', m' < m ∧ ∃ S2 as2 en2 cs2, Ext S as S2 as2 ∧ Rep X.K S2 H2 as2 cs2 ∧ EnvOk X.K S2 as2 en2 σ2 ∧ I m' en2 cs2, fun σ2 H2 h => h, ?_⟩
    have e2 := ex.trans e1
    refine hb.sem σ' H1 S1 as1 en' cs1 _ _ r1 (ev'.mono e1) q1 ⟨fun σ4 S4 H4 as4 en4 cs4 e5 r4 ev4 q4 => ?_, p.rt.mono e2, fun σ4 S4 H4 as4 en4 cs4 e5 r4 ev4 q4 => ?_, fun σ4 S4 H4 as4 en4 cs4 e5 r4 ev4 q4 => ?_⟩
    · obtain ⟨S5, as5, en5, cs5, e6, r6, ev6, m', hm, q6⟩ := Wkn.out (P := fun en2 cs2 => ∃ m', m' < m ∧ I m' en2 cs2) q4 (e2.trans e5) r.len r4 ev4
      exact ⟨m', hm, S5, as5, en5, cs5, e6, r6, ev6, q6⟩
    · exact p.nx σ4 S4 H4 as4 en4 cs4 (e2.trans e5) r4 ev4 q4
    · obtain ⟨S5, as5, en5, cs5, e6, r6, ev6, m', hm, q6⟩ := Wkn.out (P := fun en2 cs2 => ∃ m', m' < m ∧ I m' en2 cs2) q4 (e2.trans e5) r.len r4 ev4
      exact ⟨m', hm, S5, as5, en5, cs5, e6, r6, ev6, q6⟩
  | false =>
    rw [if_neg Bool.false_ne_true] at q1 ⊢
    exact p.nx σ' S1 H1 as1 en' cs1 (ex.trans e1) r1 (ev'.mono e1) q1
end
end DL
set_option Elab.async false
set_option linter.all false
set_option maxRecDepth 100000
set_option maxHeartbeats 2000000
set_option autoImplicit false
namespace DL
open PySem PySem.Spec PyProof.Rows L2

/-! ### what a def promises, over data -/
def spD (K : PySem.W.Frag) (sp : DSpec) (vs : List V) (H : Hp) (Q : VK) : Prop :=
  ∃ (S : Hp) (as : List Addr) (zs : List Z) (cs : Cs) (k : Z → Cs → Prop), Rep K S H as cs ∧ VZL K S as zs vs ∧ sp zs cs k ∧ PQ K S as k Q
structure FnD (P : Program) (w : World) (K : PySem.W.Frag) (mg : Str → Option Value) (base : Heap) (k : Nat) (f : Addr) (fd : FuncData) (ps : List Str) (sp : DSpec) : Prop where
  len : ∀ zs cs q, sp zs cs q → zs.length = ps.length
  run : ∀ (A : Around) (outer : List Env) (s : Shared) (H : Hp) (args : Args) (us : List Value) (vs : List V) (Q : VK), Room k A → A.guards = some [] → Env0 P w K mg base A outer s H → BindsTo s fd args (ps.zip us) → Vals vs us → spD K sp vs H Q →
    codeAny (model P w) A (.call (.ref f) args) (CR CX0 outer P w H s Q E0) s
theorem FnD.mono {P : Program} {w : World} {K : PySem.W.Frag} {mg : Str → Option Value} {base : Heap} {j k : Nat} {f : Addr} {fd : FuncData} {ps : List Str} {sp : DSpec} (F : FnD P w K mg base j f fd ps sp) (h : j ≤ k) : FnD P w K mg base k f fd ps sp :=
  ⟨F.len, fun A outer s H args us vs Q hr => F.run A outer s H args us vs Q (hr.mono h)⟩
theorem FnD.imp {P : Program} {w : World} {K : PySem.W.Frag} {mg : Str → Option Value} {base : Heap} {k : Nat} {f : Addr} {fd : FuncData} {ps : List Str} {sp sp' : DSpec} (F : FnD P w K mg base k f fd ps sp) (h : ∀ zs cs q, sp' zs cs q → sp zs cs q) : FnD P w K mg base k f fd ps sp' :=
  ⟨fun zs cs q h' => F.len zs cs q (h zs cs q h'), fun A outer s H args us vs Q hr hg e0 hb hv ⟨S, as, zs, cs, q, a1, a2, a3, a4⟩ => F.run A outer s H args us vs Q hr hg e0 hb hv ⟨S, as, zs, cs, q, a1, a2, h _ _ _ a3, a4⟩⟩
section
variable {X : Cx} {k : Nat} {f : Addr} {fd : FuncData} {ps : List Str} {sp : DSpec} {x : Str} {p pos : Pos} {e : Expr} {es : List Expr} {ta : TA} {da : DA}
theorem run_fnD {pins : List (Addr × Obj)} {σ : L2.St} {H : Hp} {s : Shared} {Q : VK} {us : List Value} {vs : List V} (F : FnD X.prog X.w X.K X.mg X.base k f fd ps sp) (hr : Room k X.A) (hg : X.A.guards = some []) (hb : L2.Binds X.K fd ps [])
    (I : Inv X pins σ H s) (r : Vals vs us) (h : spD X.K sp vs H Q) : wpAny (model X.prog X.w) X.A (call (.ref f) us) (EP X pins σ Q) X.xe s := by
  have hl : (us ++ []).length = ps.length := by
    obtain ⟨S, as, zs, cs, q, a1, a2, a3, a4⟩ := h
    rw [List.append_nil, ← r.length, a2.len, F.len _ _ _ a3]
  have b := hb s us I.kIn hl
  rw [List.append_nil] at b
  refine wpAny_call (codeAny_mono (F.run X.A X.stack s H ⟨us, []⟩ us vs Q hr hg I.env0 b r h) fun r s' hq => ?_)
  cases r with
  | error e => exact hq.elim
  | ok fl =>
    cases fl with
    | ret u => exact I.after hq
    | next => exact hq.elim
    | brk => exact hq.elim
    | cont => exact hq.elim
def tCallD (K : PySem.W.Frag) (sp : DSpec) (t : TA) : TE := fun σ H Q => t σ H fun vs H1 => spD K sp vs H1 Q
def dCall (sp : DSpec) (a : DA) : DE := fun en cs k => a en cs fun zs cs1 => sp zs cs1 k
theorem q_call (F : FnD X.prog X.w X.K X.mg X.base k f fd ps sp) (hr : Room k X.A) (hgd : X.A.guards = some []) (hm : X.mg x = some (.ref f)) (hk : PySem.W.keepIn X.K (.ref f) = true) (hb : L2.Binds X.K fd ps []) (ha : QA X (e :: es) ta da) (hg : Gl X x := by rfl)
    (hdb : (x == ("__debug__" : Str)) = false := by decide) (he : starEach (e :: es) X.env = (false, eval e X.env) :: starEach es X.env := by rfl) (hpl : (backTo pos (starEach es X.env)).any (·.1) = false := by rfl) :
    QE X (.Call (.Name x p) (e :: es) [] pos) (tCallD X.K sp ta) (dCall sp da) := by
  refine ⟨⟨fun pins s σ H Q I h => ?_⟩, ?_⟩
  · refine wpAny_Call_Name_kw (ld_glob I hg hm ?_ hdb)
    refine PySem.W.callWith_K (h₀ := X.base) I.ok.mod.kin hk (thn (ha.pa.run pos pins s σ H _ I h) fun us s1 ⟨vs, H1, I1, r, q⟩ => ⟨I1.kIn, ?_⟩) he hpl
    exact run_fnD F hr hgd hb I1 r q
  · intro σ H S as en cs k Q rp ev q pq
    refine ha.sem σ H S as en cs _ _ rp ev q fun zs vs S1 H1 as1 cs1 e1 r1 v1 q1 => ?_
    exact ⟨S1, as1, zs, cs1, k, r1, v1, q1, pq.mono e1⟩
end

/-! ### a def by its body -/
/-- what a def hands back: n cells were there at the call -/
def FinZ (n : Nat) (k : Z → Cs → Prop) : Z → Cs → Prop := fun z cs => match z with
  | .d x => k (.d x) (cs.take n)
  | .c m => (m < n ∧ k (.c m) (cs.take n)) ∨ (n ≤ m ∧ match cs[m]? with
    | some x => k (.d x) (cs.take n) ∨ k (.c n) (cs.take n ++ [x])
    | none => False)
def startD (N : List Str) (zs : List Z) : En := zs.map some ++ List.replicate (N.length - zs.length) none
theorem VZL.get {K : PySem.W.Frag} {S : Hp} {as : List Addr} : ∀ {zs : List Z} {vs : List V} {i : Nat} {z : Z}, VZL K S as zs vs → zs[i]? = some z → ∃ v, vs[i]? = some v ∧ VZ K S as z v
  | [], _, _, _, _, e => by simp at e
  | _ :: _, _, 0, _, ⟨v, r, h1, h2, h3⟩, e => by
    have e' := Option.some.inj e
    subst e' h1
    exact ⟨v, rfl, h2⟩
  | _ :: _, _, i + 1, _, ⟨v, r, h1, h2, h3⟩, e => by
    subst h1
    exact VZL.get (i := i) h3 e
theorem env_start {K : PySem.W.Frag} {S : Hp} {as : List Addr} {N : List Str} {zs : List Z} {vs : List V} (h : VZL K S as zs vs) : EnvOk K S as (startD N zs) (L2.start N vs) := by
  unfold startD L2.start
  refine ⟨by simp only [List.length_append, List.length_map, List.length_replicate, h.len], fun i z e => ?_⟩
  by_cases hi : i < zs.length
  · rw [List.getElem?_append_left (by simpa using hi), List.getElem?_map] at e
    obtain ⟨y, hy⟩ : ∃ y, zs[i]? = some y := ⟨zs[i], List.getElem?_eq_getElem hi⟩
    rw [hy] at e
    cases e
    obtain ⟨v, h1, h2⟩ := h.get hy
    refine ⟨v, ?_, h2⟩
    rw [List.getElem?_append_left (by simpa [h.len] using hi), List.getElem?_map, h1]
    rfl
  · rw [List.getElem?_append_right (by simpa using hi), List.getElem?_replicate] at e
    split at e <;> cases e
theorem Rep.pick {K : PySem.W.Frag} {S H : Hp} {as : List Addr} {cs : Cs} (r : Rep K S H as cs) {n m : Nat} {a : Addr} {x : D} (hm : n ≤ m) (ha : as[m]? = some a) (hx : cs[m]? = some x) : Rep K S H (as.take n ++ [a]) (cs.take n ++ [x]) := by
  have t := r.take n
  have np : a ∉ as.take n := fun z => by
    obtain ⟨i, hi, e⟩ := List.getElem_of_mem z
    rw [List.getElem_take] at e
    have hl : i < n := by
      have := hi
      rw [List.length_take] at this
      omega
    have := nd_ix r.nod (i := i) (j := m) (by rw [← e]; exact List.getElem?_eq_getElem _) ha
    omega
  refine ⟨r.sub, by rw [List.length_append, List.length_append, t.len]; rfl, ?_, fun j b d e1 e2 => ?_, fun b hb => ?_⟩
  · exact List.nodup_append.mpr ⟨t.nod, by simp, fun y hy w hw => by
      have hw' : w = a := by simpa using hw
      subst hw'
      exact fun z => np (z ▸ hy)⟩
  · by_cases hj : j < (as.take n).length
    · rw [List.getElem?_append_left hj] at e1
      rw [List.getElem?_append_left (by rw [← t.len]; exact hj)] at e2
      exact t.cel j b d e1 e2
    · rw [List.getElem?_append_right (by omega)] at e1
      rw [List.getElem?_append_right (by rw [← t.len]; omega), ← t.len] at e2
      have hz : j - (as.take n).length = 0 := by
        have := (List.getElem?_eq_some_iff.mp e1).1
        simp only [List.length_cons, List.length_nil] at this
        omega
      rw [hz] at e1 e2
      cases e1
      cases e2
      exact r.cel m a x ha hx
  · rcases List.mem_append.mp hb with hb | hb
    · exact t.liv b hb
    · have : b = a := by simpa using hb
      subst this
      exact r.liv b (List.mem_of_getElem? ha)
theorem CelAt.obj {K : PySem.W.Frag} {S H : Hp} {a : Addr} : ∀ {x : D}, CelAt K S H a x → ∃ o, H a = some o ∧ S a = none ∧ Is K (upd S a o) x (.ref a)
  | .lst ds, ⟨h1, vs, h2, h3⟩ => ⟨_, h2, h1, a, vs, rfl, upd_same, IsL.mono (Sub.new h1) _ _ h3⟩
  | .dic kvs, ⟨h1, kv, h2, h3⟩ => ⟨_, h2, h1, a, kv, rfl, upd_same, IsK.mono (Sub.new h1) _ _ h3⟩
  | .scr _, h => h.elim
  | .ty _, h => h.elim
  | .obj _, h => h.elim
  | .non, h => h.elim
  | .bl _, h => h.elim
  | .int _, h => h.elim
  | .str _, h => h.elim
  | .tup _, h => h.elim
theorem fin_pq {K : PySem.W.Frag} {S : Hp} {as : List Addr} {k : Z → Cs → Prop} {Q : VK} (p : PQ K S as k Q) : PQ K S as (FinZ as.length k) Q := by
  intro z v S' H' as' cs' e r vz h
  have et := e.take
  have rt := r.take as.length
  cases z with
  | d x => exact p (.d x) v S' H' _ _ et rt vz h
  | c m =>
    obtain ⟨a, ha, rfl⟩ := vz
    rcases h with ⟨hm, h⟩ | ⟨hm, h⟩
    · exact p (.c m) _ S' H' _ _ et rt ⟨a, by rw [List.getElem?_take_of_lt hm]; exact ha, rfl⟩ h
    · split at h
      · rename_i x hx
        have c := r.cel m a x ha hx
        rcases h with h | h
        · obtain ⟨o, h1, h2, h3⟩ := c.obj
          have np : a ∉ as'.take as.length := fun z => by
            obtain ⟨i, hi, e⟩ := List.getElem_of_mem z
            rw [List.getElem_take] at e
            have hl : i < as.length := by
              have := hi
              rw [List.length_take] at this
              omega
            have := nd_ix r.nod (i := i) (j := m) (by rw [← e]; exact List.getElem?_eq_getElem _) ha
            omega
          exact p (.d x) _ (upd S' a o) H' _ _ (et.trans (Ext.of (Sub.new h2))) (rt.freeze np h1 h2) h3 h
        · have hz : (as'.take as.length).length = as.length := by
            obtain ⟨m', rfl⟩ := e.pre
            rw [List.take_left]
          refine p (.c as.length) _ S' H' _ _ ⟨et.sub, ?_⟩ (r.pick hm ha hx) ⟨a, ?_, rfl⟩ h
          · obtain ⟨m', e'⟩ := et.pre
            exact ⟨m' ++ [a], by rw [e', List.append_assoc]⟩
          · rw [List.getElem?_append_right (by omega), hz, Nat.sub_self]
            rfl
      · exact h.elim
section
variable {P : Program} {w : World} {K : PySem.W.Frag} {mg : Str → Option Value} {base : Heap}
theorem fn_D {x qual : Str} {st : Stmt} {f : Addr} {fd : FuncData} {N ps : List Str} {k : Nat} {sp : DSpec} (F : Fun K x qual st f fd) (S : FnScope N ps (defScope st)) (len : ∀ zs cs q, sp zs cs q → zs.length = ps.length) (t : DS)
    (der : ∀ (cdv : Value) (A : Around) (outer : List Env) (s : Shared) (H : Hp), Room k (A.deeper (envOfC qual (defScope st) s.heap.objs.size f cdv)) → (A.deeper (envOfC qual (defScope st) s.heap.objs.size f cdv)).guards = some [] →
      ∃ ts : TS, QSs (cxOf CX0 P w K mg base N qual (defScope st) f cdv A outer s H E0).nox (defBody st) ts t)
    (rd : ∀ zs cs q, sp zs cs q → t ⟨fun _ c => q (.d .non) (c.take cs.length), FinZ cs.length q, fun _ _ => False, fun _ _ => False⟩ (startD N zs) cs) : FnD P w K mg base (k + 1) f fd ps sp := by
  obtain ⟨oc, od, kV, doc, pm, an, cdv, ct, osl, rfl, lk, hcd⟩ := F.ex
  refine ⟨len, fun A outer s H args us vs Q hr hgd e0 hb r hsp => ?_⟩
  obtain ⟨T, as, zs, cs, q, rep, vz, hz, pq⟩ := hsp
  have hl : vs.length = ps.length := vz.len.trans (len _ _ _ hz)
  have KX : K.In s.heap := e0.mod.kin.keeps fun b o e => (e0.bs b o e).1
  have lim : s.heap.NoLimit := e0.mod.nolimit.keeps fun b o e => (e0.bs b o e).1
  refine codeAny_call_function hr.depth (KX _ _ lk) rfl S.co S.gen rfl (PySem.W.codeRec_of KX hcd) (hb _ _ _ _ ?_)
  refine wpAny_newFunctionEnv_cells S.kind (fun ⟨n, v⟩ hy => (S.par n (List.of_mem_zip hy).1).imp (fun h => h) fun h => ⟨h, PySem.W.cellsFrom_some _ _ _ (.inl h)⟩) fun env he s1 x => ?_
  subst he
  refine ⟨lim.keeps x.toInCall.keep, codeAny_func ?_⟩
  obtain ⟨ts, d⟩ := der cdv A outer s H (hr.deeper _) hgd
  have I : Inv (cxOf CX0 P w K mg base N qual (defScope st) f cdv A outer s H E0) [] (L2.start N vs) H s1 := inv_start S hr.hd e0 hl r x
  have body : ts { nx := fun _ H' => Q .non H', rt := Q } (L2.start N vs) H := by
    refine d.sem (L2.start N vs) H T as (startD N zs) cs _ _ rep (env_start vz) (rd zs cs q hz) ⟨fun σ' S' H' as' en' cs' e' r' ev' q' => ?_, ?_, fun _ _ _ _ _ _ _ _ _ h => h, fun _ _ _ _ _ _ _ _ _ h => h⟩
    · rw [← rep.len] at q'
      exact pq (.d .non) .non S' H' _ _ e'.take (r'.take as.length) rfl q'
    · rw [← rep.len]
      exact fin_pq pq
  refine wpAny_mono (d.pss.nox.run [] s1 (L2.start N vs) H _ I body) (fun fl s' hs => ?_) fun e s' hs => hs
  cases fl with
  | ret u =>
    obtain ⟨v, σ', H', J, rv, q⟩ := hs
    exact ⟨v, H', J.os, J.bare, J.base, J.hok, rv, q⟩
  | next =>
    obtain ⟨σ', H', J, q⟩ := hs
    exact ⟨.non, H', J.os, J.bare, J.base, J.hok, rfl, q⟩
  | brk => exact hs.elim fun _ h => h.elim fun _ h => h.2.elim
  | cont => exact hs.elim fun _ h => h.elim fun _ h => h.2.elim

end
end DL
set_option Elab.async false
set_option linter.all false
set_option maxRecDepth 100000
set_option maxHeartbeats 2000000
set_option autoImplicit false
namespace DL
open PySem PySem.Spec PyProof.Rows L2

/-- the def as the top left it -/
def DefT (K : PySem.W.Frag) (mg : Str → Option Value) (name : Str) (st : Stmt) (ps : List Str) : Prop :=
  ∃ (f : Addr) (fd : FuncData), Fun K name name st f fd ∧ mg name = some (.ref f) ∧ L2.Binds K fd ps []
/-- what callers know of it -/
def Got (P : Program) (w : World) (K : PySem.W.Frag) (mg : Str → Option Value) (base : Heap) (name : Str) (k : Nat) (ps : List Str) (sp : DSpec) : Prop :=
  ∃ (f : Addr) (fd : FuncData), mg name = some (.ref f) ∧ PySem.W.keepIn K (.ref f) = true ∧ L2.Binds K fd ps [] ∧ FnD P w K mg base k f fd ps sp
section
variable {P : Program} {w : World} {K : PySem.W.Frag} {mg : Str → Option Value} {base : Heap} {name : Str} {k : Nat} {ps : List Str} {sp : DSpec}
theorem Got.mono {j : Nat} (G : Got P w K mg base name j ps sp) (h : j ≤ k) : Got P w K mg base name k ps sp :=
  let ⟨f, fd, a, b, c, d⟩ := G
  ⟨f, fd, a, b, c, d.mono h⟩
theorem Got.imp {sp' : DSpec} (G : Got P w K mg base name k ps sp) (h : ∀ zs cs q, sp' zs cs q → sp zs cs q) : Got P w K mg base name k ps sp' :=
  let ⟨f, fd, a, b, c, d⟩ := G
  ⟨f, fd, a, b, c, d.imp h⟩
/-- what a def is to reach -/
abbrev endD (n : Nat) (q : Z → Cs → Prop) : DEnds := ⟨fun _ c => q (.d .non) (c.take n), FinZ n q, fun _ _ => False, fun _ _ => False⟩
theorem Got.mk {st : Stmt} {N : List Str} (T : DefT K mg name st ps) (S : FnScope N ps (defScope st)) (len : ∀ zs cs q, sp zs cs q → zs.length = ps.length) (t : DS)
    (der : ∀ (f : Addr) (cdv : Value) (A : Around) (outer : List Env) (s : Shared) (H : Hp), Room k (A.deeper (envOfC name (defScope st) s.heap.objs.size f cdv)) → (A.deeper (envOfC name (defScope st) s.heap.objs.size f cdv)).guards = some [] →
      ∃ ts : TS, QSs (cxOf CX0 P w K mg base N name (defScope st) f cdv A outer s H E0).nox (defBody st) ts t)
    (rd : ∀ zs cs q, sp zs cs q → t (endD cs.length q) (startD N zs) cs) : Got P w K mg base name (k + 1) ps sp := by
  obtain ⟨f, fd, F, g, b⟩ := T
  exact ⟨f, fd, g, F.kp, b, fn_D F S len t (der f) rd⟩
theorem defT_mk {st : Stmt} {h : Heap} {f : Addr} {oc : Value} {od an : Option Addr} {osl : Array (Option Value)} {kV doc pm cdv ct : Value} (X : K.In h) (G : h.Ns mainGlobals mg)
    (a : PySem.W.nsIn K mainGlobals name = some (some (.ref f))) (l : K.lookup f = some ⟨oc, od, .func (PySem.W.fnOf name name (defArgs st) (defBody st) (defScope st) .none kV doc pm an cdv ct), osl⟩)
    (c : PySem.W.codeIn K cdv name = true) (kp : PySem.W.keepIn K (.ref f) = true)
    (hb : ∀ (kV doc pm : Value) (an : Option Addr) (cdv ct : Value) (us : List Value), us.length = ps.length → bindArgs (PySem.W.fnOf name name (defArgs st) (defBody st) (defScope st) .none kV doc pm an cdv ct) ⟨us, []⟩ = pure (ps.zip us)) : DefT K mg name st ps :=
  ⟨f, _, fun_mk l c kp, PySem.W.mg_of X G a, (fun_mk l c kp).binds hb⟩
end
section
variable {X : Cx} {pos p : Pos} {x : Str} {k : Nat} {ps : List Str} {sp : DSpec} {e : Expr} {es : List Expr} {ta : TA} {da : DA}
theorem qc (G : Got X.prog X.w X.K X.mg X.base x k ps sp) (hr : Room k X.A) (hgd : X.A.guards = some []) (ha : QA X (e :: es) ta da) (hg : Gl X x := by rfl)
    (hdb : (x == ("__debug__" : Str)) = false := by decide) (he : starEach (e :: es) X.env = (false, eval e X.env) :: starEach es X.env := by rfl) (hpl : (backTo pos (starEach es X.env)).any (·.1) = false := by rfl) :
    QE X (.Call (.Name x p) (e :: es) [] pos) (tCallD X.K sp ta) (dCall sp da) := by
  obtain ⟨f, fd, a, b, c, d⟩ := G
  exact q_call d hr hgd a b c ha hg hdb he hpl
/-- a built-in type as a value -/
theorem q_bty {n : String} (hm : X.mg x = none) (hv : bootBuiltins x = some (.type n)) (hg : Gl X x := by rfl) (hn : x ≠ "__name__" := by decide) (hd : (x == ("__debug__" : Str)) = false := by decide) : QE X (.Name x pos) (tC (.ty n)) (dC (.ty n)) :=
  ⟨pe_bltn hg hm hv rfl hn hd, sem_c fun _ => rfl⟩
theorem q_inKT {a b : Expr} {ta tb : TE} {da db : DE} (hu : X.A.units + 1 < cLine) (ha : QE X a ta da) (hb : QE X b tb db) (hm : behindInMarks .In b = false := by rfl) : QT X (.Compare a [.In] [b] pos) (tB (tDIn ta tb)) (dB (dInK false da db)) := by
  refine ⟨pt_cmp (pc_din hu ha.pe hb.pe) hm, ?_⟩
  intro σ H S as en cs k Q rp e q p
  refine (q_inK (pos := pos) hu ha hb hm).sem.use rp e q fun z v S1 H1 as1 cs1 e1 r1 v1 q1 => ?_
  obtain ⟨b, rfl, q1⟩ := q1
  exact ⟨b, v1, p b S1 H1 as1 cs1 e1 r1 q1⟩
theorem q_notinKT {a b : Expr} {ta tb : TE} {da db : DE} (hu : X.A.units + 1 < cLine) (ha : QE X a ta da) (hb : QE X b tb db) (hm : behindInMarks .NotIn b = false := by rfl) : QT X (.Compare a [.NotIn] [b] pos) (tB (tDNotIn ta tb)) (dB (dInK true da db)) := by
  refine ⟨pt_cmp (pc_dnotin hu ha.pe hb.pe) hm, ?_⟩
  intro σ H S as en cs k Q rp e q p
  refine (q_notinK (pos := pos) hu ha hb hm).sem.use rp e q fun z v S1 H1 as1 cs1 e1 r1 v1 q1 => ?_
  obtain ⟨b, rfl, q1⟩ := q1
  exact ⟨b, v1, p b S1 H1 as1 cs1 e1 r1 q1⟩
end
theorem mg_int {K : PySem.W.Frag} {mg : Str → Option Value} {h : Heap} {name : Str} {n : Int} {t : Tok} (X : K.In h) (G : h.Ns mainGlobals mg) (a : PySem.W.nsIn K mainGlobals name = some (some (.int n t))) : ∃ t, mg name = some (.int n t) := ⟨t, PySem.W.mg_of X G a⟩
/-! ### the end of a law -/
section
variable {P : Program} {w : World} {K : PySem.W.Frag} {mg : Str → Option Value}
theorem law_callG {mb : Str → Option Value} {k : Nat} {fa a : Addr} {x name : Str} {sp : DSpec} {s1 : Shared} {vs : List Value} {ns : List Int}
    (KX : K.In s1.heap) (hns : s1.heap.Ns mainGlobals mg) (hb : s1.heap.Ns builtinsNs mb) (hbb : ∀ x : Str, x ≠ "__name__" → mb x = bootBuiltins x) (hlim : s1.heap.NoLimit) (hg : s1.gens = #[])
    (ha : s1.heap.get? a = some { cls := .type "list", data := .seq vs.toArray }) (hi : IntsAre vs ns) (hl : ns.length ≤ sizeLine) (hr : Room k callerA) (hmg : mg name = some (.ref fa))
    (F : ∀ base : Heap, K.In base → base.Ns mainGlobals mg → Got P w K mg base name k [x] sp)
    (hsp : sp [.d (.scr ns)] [] fun z _ => z = .d (.bl true)) :
    codeAny (model P w) callerA (.call (.ref fa) ⟨[.ref a], []⟩) (fun r s' => r = .ok (.ret (.bool true)) ∧ OldK s1.heap s'.heap ∧ s'.os = s1.os ∧ AllBare s'.gens) s1 := by
  have rv := vals_ints hi
  have core : ∀ H : Hp, Only H → SqL K H a (ns.map V.int) → HOk P w H s1.heap → (∀ b, H b ≠ none → b = a) → (H a ≠ none → K.lookup a = none) →
      codeAny (model P w) callerA (.call (.ref fa) ⟨[.ref a], []⟩) (fun r s' => r = .ok (.ret (.bool true)) ∧ OldK s1.heap s'.heap ∧ s'.os = s1.os ∧ AllBare s'.gens) s1 := by
    intro H hO hS hok hA hK
    have only : ∀ {b : Addr}, b ≠ a → H b = none := fun {b} hb => by
      cases q : H b with
      | none => rfl
      | some u => exact absurd (hA b (by rw [q]; exact fun z => nomatch z)) hb
    have keepD : ∀ {b : Addr} {o : Obj} {es : Array DictEntry} {ep : Nat}, s1.heap.get? b = some o → o.data = .dict es ep → (hidT s1.heap H).get? b = some o := fun {b o es ep} e d => hidT_get e (only fun z => by
      subst z
      rw [ha] at e
      cases e
      cases d)
    have keepN : ∀ {b : Addr} {m : Str → Option Value}, s1.heap.Ns b m → (hidT s1.heap H).Ns b m := fun ⟨o, es, ep, e, d, r⟩ => ⟨o, es, ep, keepD e d, d, r⟩
    have kb : K.In (hidT s1.heap H) := fun b o e => hidT_get (KX b o e) (by
      by_cases z : b = a
      · subst z
        cases q : H b with
        | none => rfl
        | some u => rw [hK (by rw [q]; exact fun z => nomatch z)] at e; cases e
      · exact only z)
    have md : Mod K mg (hidT s1.heap H) := ⟨kb, keepN hns, ⟨mb, keepN hb, hbb⟩, hlim.elim fun mc hm => ⟨mc, keepN hm.1, hm.2⟩⟩
    have e0 : Env0 P w K mg (hidT s1.heap H) callerA [] s1 H := ⟨rfl, md, fun b o e => of_hidT e, Nat.le_of_eq (hidT_size _ _), trivial, fun b hb => absurd hb (by exact fun z => nomatch z), hok, .of_eq hg⟩
    have sp0 : spD K sp [.ref a] H fun v _ => v = .bl true := ⟨H, [], [.d (.scr ns)], [], _, ⟨Sub.refl H, rfl, List.nodup_nil, fun n b c e => by simp at e, fun b hb => by simp at hb⟩, ⟨_, [], rfl, ⟨a, rfl, hS⟩, rfl⟩, hsp, fun z v S' H' as' cs' e r vz h => by subst h; exact vz⟩
    obtain ⟨f, fd, g, kp, b, FD⟩ := F _ kb (keepN hns)
    cases g.symm.trans hmg
    have hbind : BindsTo s1 fd ⟨[.ref a], []⟩ (([x] : List Str).zip [Value.ref a]) := b s1 [.ref a] KX rfl
    refine codeAny_mono (FD.run callerA [] s1 H ⟨[.ref a], []⟩ [.ref a] [.ref a] _ hr rfl e0 hbind (.cons rfl .nil) sp0) fun r s' h => ?_
    cases r with
    | error e => exact h.elim
    | ok fl =>
      cases fl with
      | next => exact h.elim
      | brk => exact h.elim
      | cont => exact h.elim
      | ret u =>
        obtain ⟨v, H', os, bare, un, hok', r', rfl⟩ := h
        obtain rfl : u = Value.bool true := r'
        refine ⟨rfl, OldK.of_keep fun b o e => ?_, os, bare⟩
        rcases hO b with z | ⟨ob, xs, z⟩
        · exact un.keep b o e z (fun q => nomatch q) (fun q => nomatch q)
        · obtain ⟨e1, _⟩ := hok b _ z
          obtain ⟨e2, _⟩ := hok' b _ (un.frzs b ob _ z)
          rw [e] at e1
          cases e1
          exact e2
  cases hk : K.lookup a with
  | some o =>
    have e := KX a o hk
    rw [ha] at e
    cases e
    exact core (fun _ => none) (fun _ => .inl rfl) (.inr ⟨_, vs.toArray, _, hk, rfl, rfl, rfl, by rw [List.size_toArray, hi.length]; exact hl, by simpa using rv⟩) (fun b u z => by cases z) (fun b z => absurd rfl z) fun z => absurd rfl z
  | none =>
    have at_ : ∀ b, b ≠ a → (fun b => if b = a then some (HO.frz { cls := .type "list", data := .seq vs.toArray } (.lst (ns.map V.int))) else none) b = none := fun b hb => if_neg hb
    refine core (fun b => if b = a then some (.frz { cls := .type "list", data := .seq vs.toArray } (.lst (ns.map V.int))) else none) (fun b => ?_) (.inl (.inr ⟨{ cls := .type "list", data := .seq vs.toArray }, if_pos rfl⟩)) (fun b u z => ?_) (fun b z => ?_) fun _ => hk
    · by_cases h : b = a
      · exact .inr ⟨_, _, if_pos h⟩
      · exact .inl (at_ b h)
    · by_cases h : b = a
      · cases (if_pos h).symm.trans z
        subst h
        exact ⟨ha, by rw [List.length_map]; exact hl, vs, _, rv, ha⟩
      · cases (at_ b h).symm.trans z
    · exact Decidable.byContradiction fun h => z (at_ b h)
end
/-- the law's end, from what callers of the law know -/
theorem walk_G {l : PySem.W.OpenLaw} {n k : Nat} {q : Program} {loose : List Str} {XP : (Str → Option Value) → Heap → Prop} {YP : World → Heap → Prop} {d : DefRec} {K : Params → PySem.W.Frag} {sp : DSpec} {x : Str}
    (hn : l.most = some n) (hn2 : n ≤ sizeLine) (hdf : d.params.defaults = []) (hr : Room k callerA) (hY : ∀ (w : World) (h : Heap), YP w h → (K w.params).In h)
    (F : ∀ (w : World) (mg : Str → Option Value) (h : Heap), (K w.params).In h → h.Ns mainGlobals mg →
      ∀ base : Heap, (K w.params).In base → base.Ns mainGlobals mg → Got l.prog w (K w.params) mg base d.name k [x] sp)
    (hsp : ∀ ns : List Int, ns.length ≤ n → sp [.d (.scr ns)] [] fun z _ => z = .d (.bl true)) :
    PySem.W.WalkO q loose XP YP l.row.toRowW d [] (fun f vs => PySem.call f vs) := by
  refine Att.attach_call hn hdf fun w s0 s1 mg mb fa o pm cd doc a vs ns G Y ho hd hcd hmg hobj hints hlen hg => ?_
  have KX := hY w _ Y
  exact law_callG KX G.T.g G.T.b G.T.builtins G.T.nolimit hg hobj hints (Nat.le_trans hlen hn2) hr hmg (F w mg _ KX G.T.g) (hsp ns hlen)
end DL
set_option Elab.async false
set_option linter.all false
set_option maxRecDepth 100000
set_option maxHeartbeats 2000000
set_option autoImplicit false
namespace DL
open PySem L2
/-- a comprehension whose turn changes no cell -/
theorem lc_go {fin : (Z → Cs → Prop) → List D → Cs → Prop} {k : Z → Cs → Prop} {ds : List D} {keep : Cs → Prop} {cs1 : Cs} {g : DG} {tt : DT} {te : DE} {own : List Nat} {en : En} (f : D → Option D) (hk : ∀ acc, keep (cs1 ++ [.lst acc])) (hl : ds.length ≤ 90000)
    (h : ∀ (i : Nat) (d : D) (acc : List D), ds[i]? = some d → ∀ (P : Z → Cs → Prop) (N : Cs → Prop), (∀ y, f d = some y → P (.d y) (cs1 ++ [.lst acc])) → (f d = none → N (cs1 ++ [.lst acc])) →
      g (.d d) (wipeD en own) (cs1 ++ [.lst acc]) fun en2 cs2 => tt en2 cs2 fun b cs3 => if b = true then te en2 cs3 P else N cs3)
    (hq : fin k (ds.filterMap f) cs1) :
    ∃ I : Nat → List D → Cs → Prop, I 0 [] cs1 ∧ (∀ i acc c, I i acc c → c.length = cs1.length ∧ keep (c ++ [.lst acc])) ∧
      (∀ i d acc c, ds[i]? = some d → I i acc c → g (.d d) (wipeD en own) (c ++ [.lst acc]) fun en2 cs2 => tt en2 cs2 fun b cs3 =>
        if b = true then te en2 cs3 fun z cs4 => ∃ y c', z = .d y ∧ cs4.take (c.length + 1) = c' ++ [.lst acc] ∧ c'.length = c.length ∧ acc.length < 100000 ∧ I (i + 1) (acc ++ [y]) c'
        else ∃ c', cs3.take (c.length + 1) = c' ++ [.lst acc] ∧ c'.length = c.length ∧ I (i + 1) acc c') ∧
      ∀ acc c, I ds.length acc c → fin k acc c := by
  refine ⟨fun i acc c => c = cs1 ∧ acc = (ds.take i).filterMap f, ⟨rfl, rfl⟩, ?_, ?_, ?_⟩
  · rintro i acc c ⟨rfl, _⟩
    exact ⟨rfl, hk acc⟩
  · rintro i d acc c hd ⟨rfl, rfl⟩
    have hi := (List.getElem?_eq_some_iff.mp hd).1
    have tk : (c ++ [D.lst ((ds.take i).filterMap f)]).take (c.length + 1) = c ++ [D.lst ((ds.take i).filterMap f)] := List.take_of_length_le (by simp)
    have sz : ((ds.take i).filterMap f).length < 100000 := by
      have h1 := List.length_filterMap_le f (ds.take i)
      rw [List.length_take] at h1
      omega
    have step : (ds.take (i + 1)).filterMap f = (ds.take i).filterMap f ++ (match f d with
      | some y => [y]
      | none => []) := by
      rw [List.take_add_one, hd, List.filterMap_append]
      congr 1
      show List.filterMap f [d] = _
      rw [List.filterMap_cons, List.filterMap_nil]
      cases f d <;> rfl
    refine h i d _ hd _ _ (fun y hy => ⟨y, c, rfl, tk, rfl, sz, rfl, ?_⟩) (fun hy => ⟨c, tk, rfl, rfl, ?_⟩)
    · rw [step, hy]
    · rw [step, hy, List.append_nil]
  · rintro acc c ⟨rfl, rfl⟩
    rw [List.take_length]
    exact hq
theorem filterMap_some {α β : Type} (f : α → β) (l : List α) : l.filterMap (fun x => some (f x)) = l.map f := by
  induction l with
  | nil => rfl
  | cons a l ih => rw [List.filterMap_cons, List.map_cons, ih]
/-- .. without a test -/
theorem lc_map {fin : (Z → Cs → Prop) → List D → Cs → Prop} {k : Z → Cs → Prop} {ds : List D} {keep : Cs → Prop} {cs1 : Cs} {g : DG} {te : DE} {own : List Nat} {en : En} (f : D → D) (hk : ∀ acc, keep (cs1 ++ [.lst acc])) (hl : ds.length ≤ 90000)
    (h : ∀ (i : Nat) (d : D) (acc : List D), ds[i]? = some d → ∀ (P : Z → Cs → Prop), P (.d (f d)) (cs1 ++ [.lst acc]) → g (.d d) (wipeD en own) (cs1 ++ [.lst acc]) fun en2 cs2 => te en2 cs2 P)
    (hq : fin k (ds.map f) cs1) :
    ∃ I : Nat → List D → Cs → Prop, I 0 [] cs1 ∧ (∀ i acc c, I i acc c → c.length = cs1.length ∧ keep (c ++ [.lst acc])) ∧
      (∀ i d acc c, ds[i]? = some d → I i acc c → g (.d d) (wipeD en own) (c ++ [.lst acc]) fun en2 cs2 => dYes en2 cs2 fun b cs3 =>
        if b = true then te en2 cs3 fun z cs4 => ∃ y c', z = .d y ∧ cs4.take (c.length + 1) = c' ++ [.lst acc] ∧ c'.length = c.length ∧ acc.length < 100000 ∧ I (i + 1) (acc ++ [y]) c'
        else ∃ c', cs3.take (c.length + 1) = c' ++ [.lst acc] ∧ c'.length = c.length ∧ I (i + 1) acc c') ∧
      ∀ acc c, I ds.length acc c → fin k acc c := by
  refine lc_go (fun x => some (f x)) hk hl (fun i d acc hd P N hp _ => ?_) (by rw [filterMap_some]; exact hq)
  show g (.d d) (wipeD en own) (cs1 ++ [.lst acc]) fun en2 cs2 => te en2 cs2 P
  exact h i d acc hd P (hp _ rfl)
theorem yes_all (cs : Cs) : ∀ acc, yes (cs ++ [.lst acc]) := fun _ => trivial
theorem finZ_d (n : Nat) (q : Z → Cs → Prop) (x : D) (cs : Cs) : FinZ n q (.d x) cs = q (.d x) (cs.take n) := rfl
end DL
set_option Elab.async false
set_option linter.all false
set_option maxRecDepth 100000
set_option maxHeartbeats 2000000
set_option autoImplicit false
/-! t[::-1] of lists and tuples -/
namespace DL
open PySem PySem.Spec PyProof.Rows HT L2
section
variable {prog : Program} {w : World} {A : Around} {E : Value → Shared → Prop} {s : Shared}
theorem places_rev (n : Nat) : Builtin.Slice.slicePlaces ((n : Int) - 1) (-1) (-1) = n := by
  unfold Builtin.Slice.slicePlaces
  simp only [show ¬ ((-1 : Int) > 0) from by omega, if_false]
  have e : ((n : Int) - 1 - -1 - -1 - 1) / (- -1) = (n : Int) := by
    rw [show (- -1 : Int) = 1 by decide, Int.ediv_one]
    omega
  first
    | (split <;> omega)
    | (simp; omega)
theorem applied_rev {sl : Addr} {vl vu vs : Value} {n : Nat} {Q : Int × Int × Nat → Shared → Prop} (hs : s.heap.IsSliceOf sl vl vu vs) (pl : IsPart vl none) (pu : IsPart vu none) (ps : IsPart vs (some (-1)))
    (h : Q ((n : Int) - 1, -1, n) s) : wpAny (model prog w) A (Builtin.Slice.sliceApplied (.ref sl) (pure (n : Int))) Q E s := by
  obtain ⟨os, hos, hcs, hds⟩ := id hs
  unfold Builtin.Slice.sliceApplied Builtin.Slice.sliceFields
  refine wpAny_bind (wpAny_bind (wpAny_field hos hds (x := vl) rfl (wpAny_bind (wpAny_field hos hds (x := vu) rfl (wpAny_bind (wpAny_field hos hds (x := vs) rfl (wpAny_pure ?_)))))))
  refine wpAny_bind (HT.slicePart_ ps ?_)
  show wpAny _ _ (if ((-1 : Int) == 0) = true then _ else _) _ _ s
  rw [if_neg (by decide)]
  refine wpAny_bind (HT.slicePart_ pl (wpAny_bind (HT.slicePart_ pu (wpAny_bind (wpAny_pure ?_)))))
  show wpAny _ _ (pure ((n : Int) - 1, (-1 : Int), Builtin.Slice.slicePlaces ((n : Int) - 1) (-1) (-1))) _ _ s
  rw [places_rev]
  exact wpAny_pure h
theorem fm_congr {α β : Type} {f g : α → Option β} : ∀ {l : List α}, (∀ x ∈ l, f x = g x) → l.filterMap f = l.filterMap g
  | [], _ => rfl
  | a :: l, h => by
    rw [List.filterMap_cons, List.filterMap_cons, h a List.mem_cons_self, fm_congr fun x hx => h x (List.mem_cons_of_mem _ hx)]
theorem pick_rev (xs : Array Value) : ((List.range xs.size).filterMap fun (m : Nat) => xs[((xs.size : Int) - 1 + (m : Int) * (-1)).toNat]?).toArray = xs.toList.reverse.toArray := by
  congr 1
  have h := PySem.W.krv_all xs
  rw [← h, ← List.filterMap_reverse, ← PySem.W.krv_range, List.filterMap_map]
  refine fm_congr fun m hm => ?_
  have := List.mem_range.mp hm
  have e : ((xs.size : Int) - 1 + (m : Int) * (-1)).toNat = xs.size - 1 - m := by omega
  show xs[((xs.size : Int) - 1 + (m : Int) * (-1)).toNat]? = xs[xs.size - 1 - m]?
  rw [e]
theorem getItem_tuple_rev {t sl : Addr} {items : Array Value} {vl vu vs : Value} {Q : Value → Shared → Prop} (ht : IsTup s.heap t items) (hs : s.heap.IsSliceOf sl vl vu vs) (pl : IsPart vl none) (pu : IsPart vu none) (ps : IsPart vs (some (-1)))
    (h : Q (.ref s.heap.objs.size) { s with heap := s.heap.push { cls := .type "tuple", data := .seq items.toList.reverse.toArray } })
    (hsz : items.size ≤ sizeLine) : wpAny (model prog w) A (getItem (.ref t) (.ref sl)) Q E s := by
  have htake : sizeOk (.seq items.toList.reverse.toArray) := by
    show items.toList.reverse.toArray.size ≤ sizeLine
    rw [List.size_toArray, List.length_reverse, Array.length_toList]
    exact hsz
  obtain ⟨os, hos, hcs, hds⟩ := id hs
  have hTs : s.TypeIs (.ref sl) "slice" := ⟨os, hos, hcs⟩
  unfold getItem
  try with_reducible refine wpAny_holding ?_
  first | refine wpAny_bind (wpAny_pure ?_) | skip
  refine wpAny_bind (wpAny_sequenceKey ht.typeIs (by decide) ?_)
  refine wpAny_bind (wpAny_callSpecial?_slot (name := Str.ofString "__getitem__") ht.typeIs PyProof.Rows.slot_tuple_getitem
    (wpAny_call_entry PyProof.Rows.slot_tuple_getitem ht.typeIs entry_tuple_getitem ?_ (args_tuple_getitem _ _)))
  show wpAny _ _ (Builtin.Tuple.tupleItemsOf (.ref t) >>= _) _ _ s
  refine wpAny_bind (tupleItemsOf_ ht ?_)
  refine wpAny_bind (wpAny_typeOf hTs ?_)
  rw [if_pos (by decide)]
  refine wpAny_bind (applied_rev hs pl pu ps ?_)
  have hno : ¬ (((items.size : Int) - 1 == 0 && (-1 : Int) == 1 && items.size == items.size) = true) := by
    intro q
    rw [Bool.and_eq_true, Bool.and_eq_true] at q
    exact absurd (eq_of_beq q.1.2) (by decide)
  show wpAny _ _ (if ((items.size : Int) - 1 == 0 && (-1 : Int) == 1 && items.size == items.size) = true then _ else _) _ _ s
  rw [if_neg hno, pick_rev]
  first
    | exact wpAny_bind (m := Builtin.Tuple.tupleExact _) (wpAny_newObj_type (wpAny_pure ⟨_, rfl, wpAny_pure h⟩) htake)
    | exact wpAny_bind (m := Builtin.Tuple.tupleExact _) (wpAny_newObj_type (wpAny_bind (wpAny_pure (wpAny_pure ⟨_, rfl, wpAny_pure h⟩))) htake)
    | exact wpAny_bind (wpAny_bind (m := Builtin.Tuple.tupleExact _) (wpAny_newObj_type (wpAny_bind (wpAny_pure (wpAny_pure ⟨_, rfl, wpAny_pure h⟩))) htake))
    | exact wpAny_bind (wpAny_bind (m := Builtin.Tuple.tupleExact _) (wpAny_newObj_type (wpAny_pure ⟨_, rfl, wpAny_pure h⟩) htake))
end
section
variable {X : Cx} {pos : Pos}
def tRevU (K : PySem.W.Frag) (te : TE) : TE := fun σ H Q => te σ H fun x H1 => ∃ a xs, x = .ref a ∧ ((SqL K H1 a xs ∧ ∀ p, H1 p = none → Q (.ref p) (upd H1 p (.lst xs.reverse))) ∨ (SqT K H1 a xs ∧ ∀ p, H1 p = none → Q (.ref p) (upd H1 p (.tup xs.reverse))))
theorem pe_revU {e : Expr} {te : TE} {k : Nat} {p1 p2 p3 pos : Pos} (he : PE X e te) : PE X (.Subscript e (.Slice none none (some (.UnaryOp .USub (.Constant (.int 1) k p1) p2)) p3) pos) (tRevU X.K te) := by
  refine ⟨fun pins s σ H Q I h => ?_⟩
  refine Subscript_ (thn (he.run pins s σ H _ I h) fun v s1 ⟨x, H1, I1, r1, q1⟩ => ?_)
  obtain ⟨a, xs, ex, q1⟩ := q1
  subst ex
  cases r1
  have hst : PO X (some (.UnaryOp .USub (.Constant (.int 1) k p1) p2)) (tPart (tUn (rU fun i => .int (-i)) (tC (.int 1)))) := po_some (pe_un un_neg pe_int)
  refine wpAny_Slice (thn (po_none.run pins s1 σ H1 (fun o H2 => o = none ∧ H2 = H1) I1 ⟨rfl, rfl⟩) fun vl s2 ⟨l, H2, I2, pl, el, e2⟩ => ?_)
  subst el e2
  refine thn (po_none.run pins s2 σ H2 (fun o H3 => o = none ∧ H3 = H2) I2 ⟨rfl, rfl⟩) fun vu s3 ⟨u, H3, I3, pu, eu, e3⟩ => ?_
  subst eu e3
  refine thn (hst.run pins s3 σ H3 (fun o H4 => o = some (-1) ∧ H4 = H3) I3 ⟨1, rfl, -1, rfl, rfl, rfl⟩) fun vs s4 ⟨o, H4, I4, ps, eo, e4⟩ => ?_
  subst eo e4
  have I5 : Inv X pins σ H4 { s4 with heap := s4.heap.push { cls := .type "slice", data := .fields #[vl, vu, vs] } } := I4.kept (t' := s4.toks) fun b ob q => Heap.get?_push_of_some _ q
  show wpAny (model X.prog X.w) X.A (subscriptTail e (.Slice none none (some (.UnaryOp .USub (.Constant (.int 1) k p1) p2)) p3) (.ref a) (.ref s4.heap.objs.size)) (EP X pins σ Q) X.xe { s4 with heap := s4.heap.push { cls := .type "slice", data := .fields #[vl, vu, vs] } }
  rcases q1 with ⟨hx, q⟩ | ⟨hx, q⟩
  · obtain ⟨its, r, ht, hz⟩ := I5.list hx
    have hlen := r.length
    refine tail_any (ops := [.ref a, .ref s4.heap.objs.size]) ht.isList.typeIs (PySem.slot_list_getitem.lookup) ?_ (by with_unfolding_all rfl)
    refine wpAny_getItem_list_slice ht.isList (Heap.IsSliceOf.new _ vl vu vs) pl pu ps (by decide) ?_ (by rw [List.size_toArray]; omega)
    rw [PySem.W.krv_pick]
    refine ⟨.ref _, _, I5.laid (t' := s4.toks) (o := .lst xs.reverse) (fun b ob q => Heap.get?_push_of_some _ q) (Nat.le_refl _) ?_, rfl, q _ (I5.hok.fresh (Nat.le_refl _))⟩
    exact ⟨by rw [List.length_reverse]; exact hz, _, 0, r.reverse, Heap.get?_push_size _ rfl⟩
  · obtain ⟨its, r, ht, hz⟩ := I5.tuple hx
    have hlen := r.length
    refine tail_any (ops := [.ref a, .ref s4.heap.objs.size]) ht.typeIs (PyProof.Rows.slot_tuple_getitem.lookup) ?_ (by with_unfolding_all rfl)
    refine getItem_tuple_rev ht (Heap.IsSliceOf.new _ vl vu vs) pl pu ps ?_ (by rw [List.size_toArray]; omega)
    refine ⟨.ref _, _, I5.laid (t' := s4.toks) (o := .tup xs.reverse) (fun b ob q => Heap.get?_push_of_some _ q) (Nat.le_refl _) ?_, rfl, q _ (I5.hok.fresh (Nat.le_refl _))⟩
    exact ⟨by rw [List.length_reverse]; exact hz, _, r.reverse, IsTup.new _ _⟩
def revD : D → (D → Prop) → Prop
  | .lst ds, k => k (.lst ds.reverse)
  | .tup ds, k => k (.tup ds.reverse)
  | _, _ => False
def dRev (a : DE) : DE := fun en cs k => a en cs fun x cs1 => withD cs1 x fun dx => revD dx fun z => k (.d z) cs1
theorem q_rev {a : Expr} {ta : TE} {da : DE} {kk : Nat} {p1 p2 p3 : Pos} (ha : QE X a ta da) : QE X (.Subscript a (.Slice none none (some (.UnaryOp .USub (.Constant (.int 1) kk p1) p2)) p3) pos) (tRevU X.K ta) (dRev da) := by
  refine ⟨pe_revU ha.pe, ?_⟩
  intro σ H S as en cs k Q rp e q p
  refine ha.sem.use rp e q fun z v S1 H1 as1 cs1 e1 r1 v1 q1 => ?_
  obtain ⟨dx, l1, q1⟩ := withD_look q1
  have hx := look_sh r1 v1 l1
  cases dx with
  | lst ds =>
    obtain ⟨ad, vs, rfl, hs, is⟩ := hx
    refine ⟨ad, vs, rfl, .inl ⟨SqL.of hs, fun b hb => ?_⟩⟩
    have hn := Sub.new (o := .lst vs.reverse) (r1.sub.free hb)
    exact p (.d (.lst _)) _ _ _ as1 cs1 (e1.trans (Ext.of hn)) (r1.lay hb _) ⟨b, _, rfl, upd_same, IsL.mono hn _ _ is.rev⟩ q1
  | tup ds =>
    obtain ⟨ad, vs, rfl, hs, is⟩ := hx
    refine ⟨ad, vs, rfl, .inr ⟨r1.sub.t hs, fun b hb => ?_⟩⟩
    have hn := Sub.new (o := .tup vs.reverse) (r1.sub.free hb)
    exact p (.d (.tup _)) _ _ _ as1 cs1 (e1.trans (Ext.of hn)) (r1.lay hb _) ⟨b, _, rfl, SqT.of upd_same, IsL.mono hn _ _ is.rev⟩ q1
  | _ => exact q1.elim
end
end DL
set_option Elab.async false
set_option linter.all false
set_option maxRecDepth 100000
set_option maxHeartbeats 2000000
set_option autoImplicit false
/-! DLL: loops and comprehensions by what they walk; what repr takes -/
namespace DL
open PySem PySem.Spec PyProof.Rows L2
theorem dFor_mk {it : DI} {g : DG} {b : DS} {D0 : DEnds} {en : En} {cs : Cs} (ds : List D) (keep : Cs → Prop) (cs1 : Cs) (hit : ∀ K, K ds keep cs1 → it en cs K) (I : Nat → En → Cs → Prop) (h0 : I 0 en cs1)
    (hs : ∀ i d en cs, ds[i]? = some d → I i en cs → g (.d d) en cs fun en2 cs2 => b { D0 with nx := Wkn cs1.length (I (i + 1)), ct := Wkn cs1.length (I (i + 1)), bk := D0.nx } en2 cs2) (he : ∀ en cs, I ds.length en cs → D0.nx en cs)
    (hk : ∀ i en cs, I i en cs → keep cs) : dFor it g b D0 en cs := hit _ ⟨I, h0, hk, hs, he⟩
theorem dLc_mk {fin : (Z → Cs → Prop) → List D → Cs → Prop} {it : DI} {g : DG} {te : DE} {own : List Nat} {en : En} {cs : Cs} {k : Z → Cs → Prop} (ds : List D) (keep : Cs → Prop) (cs1 : Cs) (hit : ∀ K, K ds keep cs1 → it en cs K) (f : D → D) (hl : ds.length ≤ 90000)
    (h : ∀ (i : Nat) (d : D) (acc : List D), ds[i]? = some d → ∀ (P : Z → Cs → Prop), P (.d (f d)) (cs1 ++ [.lst acc]) → g (.d d) (wipeD en own) (cs1 ++ [.lst acc]) fun en2 cs2 => te en2 cs2 P)
    (hq : fin k (ds.map f) cs1) (hk : ∀ acc, keep (cs1 ++ [.lst acc])) : dLcG fin it g dYes te own en cs k := hit _ (lc_map f hk hl h hq)
theorem dLc_if {fin : (Z → Cs → Prop) → List D → Cs → Prop} {it : DI} {g : DG} {tt : DT} {te : DE} {own : List Nat} {en : En} {cs : Cs} {k : Z → Cs → Prop} (ds : List D) (keep : Cs → Prop) (cs1 : Cs) (hit : ∀ K, K ds keep cs1 → it en cs K) (f : D → Option D) (hl : ds.length ≤ 90000)
    (h : ∀ (i : Nat) (d : D) (acc : List D), ds[i]? = some d → ∀ (P : Z → Cs → Prop) (N : Cs → Prop), (∀ y, f d = some y → P (.d y) (cs1 ++ [.lst acc])) → (f d = none → N (cs1 ++ [.lst acc])) →
      g (.d d) (wipeD en own) (cs1 ++ [.lst acc]) fun en2 cs2 => tt en2 cs2 fun b cs3 => if b = true then te en2 cs3 P else N cs3)
    (hq : fin k (ds.filterMap f) cs1) (hk : ∀ acc, keep (cs1 ++ [.lst acc])) : dLcG fin it g tt te own en cs k := hit _ (lc_go f hk hl h hq)
/-- .. where what is walked comes of calls -/
def dForB (g : DG) (b : DS) (D0 : DEnds) (en : En) (ds : List D) (keep : Cs → Prop) (cs1 : Cs) : Prop := ∃ I : Nat → En → Cs → Prop, I 0 en cs1 ∧ (∀ i en cs, I i en cs → keep cs) ∧
  (∀ i d en cs, ds[i]? = some d → I i en cs → g (.d d) en cs fun en2 cs2 => b { D0 with nx := Wkn cs1.length (I (i + 1)), ct := Wkn cs1.length (I (i + 1)), bk := D0.nx } en2 cs2) ∧ ∀ en cs, I ds.length en cs → D0.nx en cs
theorem dFor_it {it : DI} {g : DG} {b : DS} {D0 : DEnds} {en : En} {cs : Cs} (h : it en cs (dForB g b D0 en)) : dFor it g b D0 en cs := h
theorem dForB_mk {g : DG} {b : DS} {D0 : DEnds} {en : En} {ds : List D} {keep : Cs → Prop} {cs1 : Cs} (I : Nat → En → Cs → Prop) (h0 : I 0 en cs1)
    (hs : ∀ i d en cs, ds[i]? = some d → I i en cs → g (.d d) en cs fun en2 cs2 => b { D0 with nx := Wkn cs1.length (I (i + 1)), ct := Wkn cs1.length (I (i + 1)), bk := D0.nx } en2 cs2) (he : ∀ en cs, I ds.length en cs → D0.nx en cs)
    (hk : ∀ i en cs, I i en cs → keep cs) : dForB g b D0 en ds keep cs1 := ⟨I, h0, hk, hs, he⟩
def dLcB (fin : (Z → Cs → Prop) → List D → Cs → Prop) (g : DG) (tt : DT) (te : DE) (own : List Nat) (en : En) (k : Z → Cs → Prop) (ds : List D) (keep : Cs → Prop) (cs1 : Cs) : Prop := dLcG fin (fun _ _ K => K ds keep cs1) g tt te own en cs1 k
theorem dLc_it {fin : (Z → Cs → Prop) → List D → Cs → Prop} {it : DI} {g : DG} {tt : DT} {te : DE} {own : List Nat} {en : En} {cs : Cs} {k : Z → Cs → Prop} (h : it en cs (dLcB fin g tt te own en k)) : dLcG fin it g tt te own en cs k := h
/-! repr -/
structure RpN (w dep : Nat) (d : D) : Prop where
  ok : pyOk d = true
  sh : (py d).showable = true
  nd : (py d).hasDict = false
  dp : (py d).depth ≤ dep
  ln : (py d).shown.length ≤ w
theorem RpN.le {w w' e e' : Nat} {d : D} (h : RpN w e d) (h1 : w ≤ w') (h2 : e ≤ e') : RpN w' e' d := ⟨h.ok, h.sh, h.nd, Nat.le_trans h.dp h2, Nat.le_trans h.ln h1⟩
theorem RpN.rp {w e : Nat} {d : D} (h : RpN w e d) (h1 : w ≤ 16777216) (h2 : e ≤ 60) : RpOk d := ⟨h.ok, h.sh, h.nd, Nat.le_trans h.dp h2, Nat.le_trans h.ln (by rw [sizeLine_eq]; omega)⟩
theorem RpN.non : RpN 4 0 .non := ⟨rfl, rfl, rfl, Nat.le_refl _, by decide⟩
theorem RpN.bl (b : Bool) : RpN 5 0 (.bl b) := ⟨rfl, rfl, rfl, Nat.le_refl _, by cases b <;> decide⟩
theorem lt_pow_log2 {n k : Nat} (h0 : 0 < k) (h : n < 2 ^ k) : n.log2 < k := by
  by_cases e : n = 0
  · subst e
    simpa using h0
  · exact (Nat.log2_lt e).mpr h
theorem RpN.int {i : Int} (h1 : -(10 ^ 200) < i) (h2 : i < 10 ^ 200) : RpN 201 0 (.int i) := by
  have ha : i.natAbs < 10 ^ 200 := by omega
  refine ⟨rfl, ?_, rfl, Nat.le_refl _, ?_⟩
  · show decide (i.natAbs.log2 < 1920) = true
    exact decide_eq_true (lt_pow_log2 (by decide) (Nat.lt_of_lt_of_le ha (by decide +kernel)))
  · have e := int_text_length_le10 (k := 200) (by decide) ha
    show (Str.ofString (toString i)).length ≤ 201
    rw [PySem.ofString_length]
    exact e
theorem pyL_len : ∀ ds : List D, (pyL ds).length = ds.length
  | [] => rfl
  | d :: ds => by
    show (py d :: pyL ds).length = _
    rw [List.length_cons, List.length_cons, pyL_len ds]
theorem rp_all {w e : Nat} : ∀ {ds : List D}, (∀ d ∈ ds, RpN w e d) → pyOkL ds = true ∧ PyData.showableAll (pyL ds) = true ∧ PyData.hasDictAll (pyL ds) = false ∧ PyData.depthAll (pyL ds) ≤ e ∧ ((PyData.shownAll (pyL ds)).map (·.length)).sum ≤ w * ds.length
  | [], _ => ⟨rfl, rfl, rfl, Nat.zero_le _, by simp [pyL, PyData.shownAll]⟩
  | d :: ds, h => by
    obtain ⟨a, b, c, f, g⟩ := rp_all fun x hx => h x (List.mem_cons_of_mem _ hx)
    have r := h d List.mem_cons_self
    have hd := r.dp
    have hl := r.ln
    refine ⟨?_, ?_, ?_, ?_, ?_⟩
    · show (pyOk d && pyOkL ds) = true
      rw [r.ok, a]; rfl
    · simp only [pyL, PyData.showableAll, r.sh, b, Bool.and_self]
    · simp only [pyL, PyData.hasDictAll, r.nd, c, Bool.or_self]
    · simp only [pyL, PyData.depthAll]
      omega
    · simp only [pyL, PyData.shownAll, List.map_cons, List.sum_cons, List.length_cons]
      rw [Nat.mul_succ]
      omega
theorem shownAll_len (ds : List D) : (PyData.shownAll (pyL ds)).length = ds.length := by rw [PyData.shownAll_length, pyL_len]
theorem RpN.lst {w e : Nat} {ds : List D} (n : Nat) (hn : ds.length ≤ n) (h : ∀ d ∈ ds, RpN w e d) : RpN ((w + 2) * n + 3) (e + 1) (.lst ds) := by
  obtain ⟨a, b, c, f, g⟩ := rp_all h
  refine ⟨a, by simpa only [py, PyData.showable] using b, by simpa only [py, PyData.hasDict] using c, by simp only [py, PyData.depth]; omega, ?_⟩
  have l := listText_len_le (PyData.shownAll (pyL ds))
  rw [shownAll_len] at l
  simp only [py, PyData.shown]
  have m : (w + 2) * ds.length ≤ (w + 2) * n := Nat.mul_le_mul_left _ hn
  rw [Nat.add_mul] at m
  omega
theorem RpN.tup {w e : Nat} {ds : List D} (n : Nat) (hn : ds.length ≤ n) (h : ∀ d ∈ ds, RpN w e d) : RpN ((w + 2) * n + 3) (e + 1) (.tup ds) := by
  obtain ⟨a, b, c, f, g⟩ := rp_all h
  refine ⟨a, by simpa only [py, PyData.showable] using b, by simpa only [py, PyData.hasDict] using c, by simp only [py, PyData.depth]; omega, ?_⟩
  have l := tupleText_len_le (PyData.shownAll (pyL ds))
  rw [shownAll_len] at l
  simp only [py, PyData.shown]
  have m : (w + 2) * ds.length ≤ (w + 2) * n := Nat.mul_le_mul_left _ hn
  rw [Nat.add_mul] at m
  omega
theorem RpN.bls (bs : List Bool) (n : Nat) (hn : bs.length ≤ n) : RpN (7 * n + 3) 1 (.lst (bs.map D.bl)) := RpN.lst n (by rw [List.length_map]; exact hn) fun d hd => by
  obtain ⟨b, _, rfl⟩ := List.mem_map.mp hd
  exact RpN.bl b
theorem rpOk_bl (b : Bool) : RpOk (.bl b) := (RpN.bl b).rp (by decide) (by decide)
theorem rpOk_bls (bs : List Bool) (hn : bs.length ≤ 100000) : RpOk (.lst (bs.map D.bl)) := (RpN.bls bs 100000 hn).rp (by decide) (by decide)
/-! what == takes -/
structure EqN (dep : Nat) (d : D) : Prop where
  ok : pyOk d = true
  cl : (py d).canLay0 = true
  dp : (py d).depth ≤ dep
theorem EqN.le {e e' : Nat} {d : D} (h : EqN e d) (h2 : e ≤ e') : EqN e' d := ⟨h.ok, h.cl, Nat.le_trans h.dp h2⟩
theorem EqN.eq {e : Nat} {d : D} (h : EqN e d) (h2 : e ≤ 64) : EqOk d := ⟨h.ok, by
  unfold SeqAt.shaped
  rw [h.cl, decide_eq_true (Nat.le_trans h.dp h2)]
  rfl⟩
theorem EqN.non : EqN 0 .non := ⟨rfl, rfl, Nat.le_refl _⟩
theorem EqN.bl (b : Bool) : EqN 0 (.bl b) := ⟨rfl, rfl, Nat.le_refl _⟩
theorem EqN.int (i : Int) : EqN 0 (.int i) := ⟨rfl, rfl, Nat.le_refl _⟩
theorem eq_all {e : Nat} : ∀ {ds : List D}, (∀ d ∈ ds, EqN e d) → pyOkL ds = true ∧ PyData.canLayAll0 (pyL ds) = true ∧ PyData.depthAll (pyL ds) ≤ e
  | [], _ => ⟨rfl, rfl, Nat.zero_le _⟩
  | d :: ds, h => by
    obtain ⟨a, b, c⟩ := eq_all fun x hx => h x (List.mem_cons_of_mem _ hx)
    have r := h d List.mem_cons_self
    have hd := r.dp
    refine ⟨?_, ?_, ?_⟩
    · show (pyOk d && pyOkL ds) = true
      rw [r.ok, a]; rfl
    · simp only [pyL, PyData.canLayAll0, r.cl, b, Bool.and_self]
    · simp only [pyL, PyData.depthAll]
      omega
theorem EqN.lst {e : Nat} {ds : List D} (h : ∀ d ∈ ds, EqN e d) : EqN (e + 1) (.lst ds) := by
  obtain ⟨a, b, c⟩ := eq_all h
  exact ⟨a, by simpa only [py, PyData.canLay0] using b, by simp only [py, PyData.depth]; omega⟩
theorem EqN.tup {e : Nat} {ds : List D} (h : ∀ d ∈ ds, EqN e d) : EqN (e + 1) (.tup ds) := by
  obtain ⟨a, b, c⟩ := eq_all h
  exact ⟨a, by simpa only [py, PyData.canLay0] using b, by simp only [py, PyData.depth]; omega⟩
theorem eqv_nil (ds : List D) : eqvD (.lst ds) (.lst []) = ds.isEmpty := by
  cases ds with
  | nil => rfl
  | cons d ds => rfl
theorem set_snoc (cs : Cs) (x y : D) : (cs ++ [x]).set cs.length y = cs ++ [y] := by
  rw [List.set_append_right _ _ (Nat.le_refl _), Nat.sub_self]
  rfl
theorem take_snoc (cs : Cs) (x : D) : (cs ++ [x]).take cs.length = cs := List.take_left
/-! items by place -/
theorem ixN_nat {n i : Nat} (h : i < n) : ixN n (i : Int) = some i := by
  unfold ixN
  rw [if_pos (by omega), if_pos (by omega), Int.toNat_natCast]
theorem at_nat {α : Type} {xs : List α} {i : Nat} {x : α} (h : xs[i]? = some x) : atI xs (i : Int) = some x := by
  unfold atI
  rw [ixN_nat (List.getElem?_eq_some_iff.mp h).1]
  exact h
theorem at_int {α : Type} {xs : List α} {j : Int} {x : α} (h0 : 0 ≤ j) (h : xs[j.toNat]? = some x) : atI xs j = some x := by
  have := at_nat h
  rwa [Int.toNat_of_nonneg h0] at this
theorem at0 {α : Type} {a : α} {l : List α} : atI (a :: l) 0 = some a := at_nat (i := 0) rfl
theorem at1 {α : Type} {a b : α} {l : List α} : atI (a :: b :: l) 1 = some b := at_nat (i := 1) rfl
theorem at2 {α : Type} {a b c : α} {l : List α} : atI (a :: b :: c :: l) 2 = some c := at_nat (i := 2) rfl
theorem at3 {α : Type} {a b c d : α} {l : List α} : atI (a :: b :: c :: d :: l) 3 = some d := at_nat (i := 3) rfl
theorem at4 {α : Type} {a b c d e : α} {l : List α} : atI (a :: b :: c :: d :: e :: l) 4 = some e := at_nat (i := 4) rfl
theorem at5 {α : Type} {a b c d e f : α} {l : List α} : atI (a :: b :: c :: d :: e :: f :: l) 5 = some f := at_nat (i := 5) rfl
theorem at_last {α : Type} {a : α} {l : List α} : atI (l ++ [a]) (-1) = some a := by
  unfold atI ixN
  rw [if_neg (by decide), if_pos (by simp only [List.length_append, List.length_cons, List.length_nil]; omega)]
  have e : (-1 + ((l ++ [a]).length : Nat) : Int).toNat = l.length := by
    simp only [List.length_append, List.length_cons, List.length_nil]
    omega
  rw [e]
  show (l ++ [a])[l.length]? = some a
  rw [List.getElem?_append_right (Nat.le_refl _), Nat.sub_self]
  rfl
theorem ix0 {n : Nat} : ixN (n + 1) 0 = some 0 := ixN_nat (i := 0) (by omega)
theorem ix1 {n : Nat} : ixN (n + 1 + 1) 1 = some 1 := ixN_nat (i := 1) (by omega)
theorem ix2 {n : Nat} : ixN (n + 1 + 1 + 1) 2 = some 2 := ixN_nat (i := 2) (by omega)
/-! kinds -/
def isInt : D → Bool
  | .int _ => true
  | _ => false
def isTup : D → Bool
  | .tup _ => true
  | _ => false
theorem kit_dec (a : String) (h : a ∈ ["NoneType", "bool", "int", "str", "tuple", "list"]) : kitB a "int" = some (a == "int" || a == "bool") ∧ kitB a "bool" = some (a == "bool") ∧ kitB a "tuple" = some (a == "tuple") := by
  have all : (["NoneType", "bool", "int", "str", "tuple", "list"].all fun a => decide (kitB a "int" = some (a == "int" || a == "bool")) && decide (kitB a "bool" = some (a == "bool")) && decide (kitB a "tuple" = some (a == "tuple"))) = true := by decide +kernel
  have := List.all_eq_true.mp all a h
  simp only [Bool.and_eq_true, decide_eq_true_eq] at this
  exact ⟨this.1.1, this.1.2, this.2⟩
theorem ty_in {x : D} (h : pyOk x = true) : tyD x ∈ ["NoneType", "bool", "int", "str", "tuple", "list"] := by
  cases x <;> first | (exact Bool.noConfusion h) | (simp [tyD])
theorem kit_int {x : D} (h : pyOk x = true) : kitB (tyD x) "int" = some (isInt x || (tyD x == "bool")) := by
  rw [(kit_dec _ (ty_in h)).1]
  cases x <;> rfl
theorem kit_bool {x : D} (h : pyOk x = true) : kitB (tyD x) "bool" = some (tyD x == "bool") := (kit_dec _ (ty_in h)).2.1
theorem kit_tup {x : D} (h : pyOk x = true) : kitB (tyD x) "tuple" = some (isTup x) := by
  rw [(kit_dec _ (ty_in h)).2.2]
  cases x <;> rfl
theorem pyOk_mem : ∀ {ds : List D}, pyOkL ds = true → ∀ d ∈ ds, pyOk d = true
  | [], _, d, h => by simp at h
  | x :: ds, o, d, h => by
    have o' : (pyOk x && pyOkL ds) = true := o
    rw [Bool.and_eq_true] at o'
    rcases List.mem_cons.mp h with e | e
    · rw [e]; exact o'.1
    · exact pyOk_mem o'.2 d e
theorem pyOk_of_mem : ∀ {ds : List D}, (∀ d ∈ ds, pyOk d = true) → pyOkL ds = true
  | [], _ => rfl
  | x :: ds, o => by
    show (pyOk x && pyOkL ds) = true
    rw [o x List.mem_cons_self, pyOk_of_mem fun d h => o d (List.mem_cons_of_mem _ h)]
    rfl
theorem map_bls (f : D → D) (g : D → Bool) (ds : List D) (h : ∀ d ∈ ds, f d = .bl (g d)) : ds.map f = (ds.map g).map D.bl := by
  rw [List.map_map]
  exact List.map_congr_left fun d hd => h d hd
theorem finZ_self (q : Z → Cs → Prop) (x : D) (cs : Cs) : FinZ cs.length q (.d x) cs = q (.d x) cs := by rw [finZ_d, List.take_length]
theorem finZ_old {n m : Nat} {q : Z → Cs → Prop} {cs : Cs} (h : m < n) (p : q (.c m) (cs.take n)) : FinZ n q (.c m) cs := .inl ⟨h, p⟩
theorem finZ_new {n m : Nat} {q : Z → Cs → Prop} {cs : Cs} {x : D} (h : n ≤ m) (e : cs[m]? = some x) (p : q (.c n) (cs.take n ++ [x])) : FinZ n q (.c m) cs := .inr ⟨h, by rw [e]; exact .inr p⟩
theorem finZ_froz {n m : Nat} {q : Z → Cs → Prop} {cs : Cs} {x : D} (h : n ≤ m) (e : cs[m]? = some x) (p : q (.d x) (cs.take n)) : FinZ n q (.c m) cs := .inr ⟨h, by rw [e]; exact .inl p⟩
theorem get_snoc (cs : Cs) (x : D) : (cs ++ [x])[cs.length]? = some x := by
  rw [List.getElem?_append_right (Nat.le_refl _), Nat.sub_self]
  rfl
theorem fz (n : Nat) (q : Z → Cs → Prop) (x : D) (cs : Cs) (h : cs.length = n) : q (.d x) cs → FinZ n q (.d x) cs := fun p => by
  subst h
  rw [finZ_d, List.take_length]
  exact p
end DL
set_option Elab.async false
set_option linter.all false
set_option maxRecDepth 100000
set_option maxHeartbeats 2000000
set_option autoImplicit false
/-! DLM: the operators, one row for each kind of arguments -/
namespace DL
open PySem PySem.Spec PyProof.Rows L2
section
variable {cs : Cs} {k : D → Prop} {kl : List D → Prop}
theorem e_wd (x : D) : withD cs (.d x) k = k x := rfl
theorem e_wc0 (x : D) (cs : Cs) : withD (x :: cs) (.c 0) k = k x := rfl
theorem e_wcs (x : D) (cs : Cs) (n : Nat) : withD (x :: cs) (.c (n + 1)) k = withD cs (.c n) k := rfl
theorem e_wsn (x : D) (cs : Cs) : withD (cs ++ [x]) (.c cs.length) k = k x := by
  unfold withD
  simp only [get_snoc]
theorem e_wc1 (x y : D) (cs : Cs) : withD (x :: y :: cs) (.c 1) k = k y := rfl
theorem e_wc2 (x y z : D) (cs : Cs) : withD (x :: y :: z :: cs) (.c 2) k = k z := rfl
theorem e_wl0 : withL cs [] kl = kl [] := rfl
theorem e_wl1 (z : Z) (zs : List Z) : withL cs (z :: zs) kl = withD cs z fun x => withL cs zs fun xs => kl (x :: xs) := rfl
theorem e_dl0 : datL [] kl = kl [] := rfl
theorem e_dl1 (x : D) (zs : List Z) : datL (.d x :: zs) kl = datL zs fun xs => kl (x :: xs) := rfl
theorem e_sl (ds : List D) (K : List D → (Cs → Prop) → Prop) : seqD cs (.d (.lst ds)) K = K ds yes := rfl
theorem e_st (ds : List D) (K : List D → (Cs → Prop) → Prop) : seqD cs (.d (.tup ds)) K = K ds yes := rfl
theorem e_ss (ns : List Int) (K : List D → (Cs → Prop) → Prop) : seqD cs (.d (.scr ns)) K = K (ns.map D.int) yes := rfl
theorem e_addi (i j : Int) : addD (.int i) (.int j) k = k (.int (i + j)) := rfl
theorem e_adds (a b : Str) : addD (.str a) (.str b) k = (a.length + b.length ≤ sizeLine ∧ k (.str (a ++ b))) := rfl
theorem e_addt (a b : List D) : addD (.tup a) (.tup b) k = (a.length + b.length ≤ 100000 ∧ k (.tup (a ++ b))) := rfl
theorem e_addl (a b : List D) : addD (.lst a) (.lst b) k = (a.length + b.length ≤ 100000 ∧ k (.lst (a ++ b))) := rfl
theorem e_sub (i j : Int) : subD (.int i) (.int j) k = k (.int (i - j)) := rfl
theorem e_muli (i j : Int) : mulD (.int i) (.int j) k = ((Sm i ∧ Sm j) ∧ k (.int (i * j))) := rfl
theorem e_mult (a : List D) (n : Int) : mulD (.tup a) (.int n) k = ((a ≠ [] ∧ 2 ≤ n ∧ n ≤ 1000 ∧ a.length ≤ 1000) ∧ k (.tup (List.replicate n.toNat a).flatten)) := rfl
theorem e_mull (a : List D) (n : Int) : mulD (.lst a) (.int n) k = ((0 ≤ n ∧ n ≤ 100000 ∧ a.length ≤ 1000 ∧ a.length * n.toNat ≤ 100000) ∧ k (.lst (List.replicate n.toNat a).flatten)) := rfl
theorem e_fdiv (i j : Int) : fdivD (.int i) (.int j) k = (Dv j ∧ k (.int (i / j))) := rfl
theorem e_mod (i j : Int) : modD (.int i) (.int j) k = (0 < j ∧ k (.int (i % j))) := rfl
theorem e_pow (i j : Int) : powD (.int i) (.int j) k = ((0 ≤ j ∧ j ≤ 1000 ∧ Sm i) ∧ k (.int (i ^ j.toNat))) := rfl
theorem e_neg (i : Int) : negD (.int i) k = k (.int (-i)) := rfl
theorem e_lt (i j : Int) : ltD (.int i) (.int j) k = k (.bl (decide (i < j))) := rfl
theorem e_le (i j : Int) : leD (.int i) (.int j) k = k (.bl (decide (i ≤ j))) := rfl
theorem e_gt (i j : Int) : gtD (.int i) (.int j) k = k (.bl (decide (j < i))) := rfl
theorem e_ge (i j : Int) : geD (.int i) (.int j) k = k (.bl (decide (j ≤ i))) := rfl
theorem e_eqi (i j : Int) : eqUD (.int i) (.int j) k = k (.bl (decide (i = j))) := rfl
theorem e_eqs (i j : Str) : eqUD (.str i) (.str j) k = k (.bl (decide (i = j))) := rfl
theorem e_eql (a : List D) (y : D) : eqUD (.lst a) y k = ((EqOk (.lst a) ∧ EqOk y) ∧ k (.bl (eqvD (.lst a) y))) := rfl
theorem e_eqt (a : List D) (y : D) : eqUD (.tup a) y k = ((EqOk (.tup a) ∧ EqOk y) ∧ k (.bl (eqvD (.tup a) y))) := rfl
theorem e_eqb (a : Bool) (y : D) : eqUD (.bl a) y k = ((EqOk (.bl a) ∧ EqOk y) ∧ k (.bl (eqvD (.bl a) y))) := rfl
theorem e_eqn (y : D) : eqUD .non y k = ((EqOk .non ∧ EqOk y) ∧ k (.bl (eqvD .non y))) := rfl
theorem e_nei (i j : Int) : neUD (.int i) (.int j) k = k (.bl (!decide (i = j))) := rfl
theorem e_nes (i j : Str) : neUD (.str i) (.str j) k = k (.bl (!decide (i = j))) := rfl
theorem e_nel (a : List D) (y : D) : neUD (.lst a) y k = ((EqOk (.lst a) ∧ EqOk y) ∧ k (.bl (!eqvD (.lst a) y))) := rfl
theorem e_net (a : List D) (y : D) : neUD (.tup a) y k = ((EqOk (.tup a) ∧ EqOk y) ∧ k (.bl (!eqvD (.tup a) y))) := rfl
theorem e_neb (a : Bool) (y : D) : neUD (.bl a) y k = ((EqOk (.bl a) ∧ EqOk y) ∧ k (.bl (!eqvD (.bl a) y))) := rfl
theorem e_nen (y : D) : neUD .non y k = ((EqOk .non ∧ EqOk y) ∧ k (.bl (!eqvD .non y))) := rfl
theorem e_isb (a b : Bool) : isD (.bl a) (.bl b) k = k (.bl (decide (a = b))) := rfl
theorem e_isn (x : D) : isD x .non k = k (.bl (isNonD x)) := by cases x <;> rfl
theorem e_inb (a b : Bool) : isNotD (.bl a) (.bl b) k = k (.bl (!decide (a = b))) := rfl
theorem e_inn (x : D) : isNotD x .non k = k (.bl (!isNonD x)) := by cases x <;> rfl
theorem e_in1 : isNonD .non = true := rfl
theorem e_in2 (i : Int) : isNonD (.int i) = false := rfl
theorem e_in3 (i : List D) : isNonD (.tup i) = false := rfl
theorem e_in4 (i : List D) : isNonD (.lst i) = false := rfl
theorem e_in5 (i : Bool) : isNonD (.bl i) = false := rfl
theorem e_ixt (ds : List D) (i : Int) : ixD (.tup ds) (.int i) k = atD ds i k := rfl
theorem e_ixl (ds : List D) (i : Int) : ixD (.lst ds) (.int i) k = atD ds i k := rfl
theorem e_ixs (ns : List Int) (i : Int) : ixD (.scr ns) (.int i) k = ∃ n, atI ns i = some n ∧ k (.int n) := rfl
theorem e_at {ds : List D} {i : Int} {d : D} (h : atI ds i = some d) : atD ds i k = k d := by
  unfold atD
  rw [h]
theorem e_at0 (a : D) (l : List D) : atD (a :: l) 0 k = k a := e_at at0
theorem e_at1 (a b : D) (l : List D) : atD (a :: b :: l) 1 k = k b := e_at at1
theorem e_at2 (a b c : D) (l : List D) : atD (a :: b :: c :: l) 2 k = k c := e_at at2
theorem e_at3 (a b c d : D) (l : List D) : atD (a :: b :: c :: d :: l) 3 k = k d := e_at at3
theorem e_at4 (a b c d e : D) (l : List D) : atD (a :: b :: c :: d :: e :: l) 4 k = k e := e_at at4
theorem e_at5 (a b c d e f : D) (l : List D) : atD (a :: b :: c :: d :: e :: f :: l) 5 k = k f := e_at at5
theorem e_atl (a : D) (l : List D) : atD (l ++ [a]) (-1) k = k a := e_at at_last
theorem e_keyi (i : Int) (kk : Key → Prop) : keyD (.int i) kk = kk (.inl i) := rfl
theorem e_keys (i : Str) (kk : Key → Prop) : keyD (.str i) kk = kk (.inr i) := rfl
theorem e_lenl (ds : List D) : lenD [.lst ds] k = k (.int ds.length) := rfl
theorem e_lent (ds : List D) : lenD [.tup ds] k = k (.int ds.length) := rfl
theorem e_lens (ns : List Int) : lenD [.scr ns] k = k (.int ns.length) := rfl
theorem e_lend (kvs : List (Key × D)) : lenD [.dic kvs] k = k (.int kvs.length) := rfl
theorem e_maxi (i j : Int) : maxD [.int i, .int j] k = k (.int (max i j)) := rfl
theorem e_mini (i j : Int) : minD [.int i, .int j] k = k (.int (min i j)) := rfl
theorem e_maxl (ds : List D) : maxD [.lst ds] k = ∃ ns : List Int, ds = ns.map D.int ∧ 0 < ns.length ∧ ∀ m, m ∈ ns → (∀ y, y ∈ ns → y ≤ m) → k (.int m) := rfl
theorem e_minl (ds : List D) : minD [.lst ds] k = ∃ ns : List Int, ds = ns.map D.int ∧ 0 < ns.length ∧ ∀ m, m ∈ ns → (∀ y, y ∈ ns → m ≤ y) → k (.int m) := rfl
theorem e_sum (ds : List D) : sumD [.lst ds] k = ∃ ns : List Int, ds = ns.map D.int ∧ k (.int ns.sum) := rfl
theorem e_all (ds : List D) : allD [.lst ds] k = ∃ bs : List Bool, ds = bs.map D.bl ∧ k (.bl (bs.all id)) := rfl
theorem e_any (ds : List D) : anyD [.lst ds] k = ∃ bs : List Bool, ds = bs.map D.bl ∧ k (.bl (bs.any id)) := rfl
theorem e_inti (i : Int) : intD [.int i] k = k (.int i) := rfl
theorem e_intb (b : Bool) : intD [.bl b] k = k (.int (if b then 1 else 0)) := rfl
theorem e_abs (i : Int) : absD [.int i] k = k (.int (if i < 0 then -i else i)) := rfl
theorem e_tol (ds : List D) : tupOfD [.lst ds] k = k (.tup ds) := rfl
theorem e_tot (ds : List D) : tupOfD [.tup ds] k = k (.tup ds) := rfl
theorem e_tos (ns : List Int) : tupOfD [.scr ns] k = k (.tup (ns.map D.int)) := rfl
theorem e_lol (ds : List D) : lstOfD [.lst ds] k = k (.lst ds) := rfl
theorem e_lot (ds : List D) : lstOfD [.tup ds] k = k (.lst ds) := rfl
theorem e_los (ns : List Int) : lstOfD [.scr ns] k = k (.lst (ns.map D.int)) := rfl
theorem e_sll (ds : List D) (lo hi : Option Int) : sliceD (.lst ds) lo hi k = k (.lst (cutG ds lo hi)) := rfl
theorem e_slt (ds : List D) (lo hi : Option Int) : sliceD (.tup ds) lo hi k = k (.tup (cutG ds lo hi)) := rfl
theorem e_rvl (ds : List D) : revD (.lst ds) k = k (.lst ds.reverse) := rfl
theorem e_rvt (ds : List D) : revD (.tup ds) k = k (.tup ds.reverse) := rfl
theorem e_repr (x : D) : reprD [x] k = (RpOk x ∧ k (.str (py x).shown)) := rfl
theorem e_isi (n : String) (x : D) : isiN n [x, .ty n] k = ∃ b, kitB (tyD x) n = some b ∧ k (.bl b) := by
  show (n = n ∧ _) = _
  rw [eq_self_iff_true, true_and]
end
/-- what follows an if, named once -/
def dLock (b : DS) : DS := b
section
variable {X : Cx} {pos : Pos}
/-- the block's readings are found once, at one block -/
theorem q_lcH {elt tg iter : Expr} {ifs : List Expr} {scope : Scope} {own : List (Str × Nat)} {fin : (Z → Cs → Prop) → List D → Cs → Prop} {wi : TI} {g : TG} {tt : TT} {te : TE} {it : DI} {dg : DG} {dt : DT} {de : DE} {is : List Nat} (hf : FinOk X.K fin) (hN : X.N.Nodup) (hi : QI X tg iter wi it) (ok : BlkOk X.N X.env.scope scope own) (s0 : Shared)
    (g0 : QG (X.blk s0 (fun _ => none) scope (compEnvC scope [] 0 X.env) []) tg g dg is) (t0 : QTs (X.blk s0 (fun _ => none) scope (compEnvC scope [] 0 X.env) []) ifs tt dt) (e0 : QE (X.blk s0 (fun _ => none) scope (compEnvC scope [] 0 X.env) []) elt te de)
    (hg : ∀ (s : Shared) (H : Hp) (C : Addr) (cl : List (Str × Addr)) (fp : List Addr), QG (X.blk s H scope (compEnvC scope cl C X.env) fp) tg g dg is) (ht : ∀ (s : Shared) (H : Hp) (C : Addr) (cl : List (Str × Addr)) (fp : List Addr), QTs (X.blk s H scope (compEnvC scope cl C X.env) fp) ifs tt dt)
    (he : ∀ (s : Shared) (H : Hp) (C : Addr) (cl : List (Str × Addr)) (fp : List Addr), QE (X.blk s H scope (compEnvC scope cl C X.env) fp) elt te de) (hw : ∀ i ∈ is, i ∈ own.map (·.2)) (hc : X.calm = true := by rfl) (hs : ∀ x, foldedSetIterable iter X.env x = pure x := by intro _; rfl) :
    QE X (.ListComp elt [⟨tg, iter, ifs, 0⟩] scope pos) (tLc wi g tt te (own.map (·.2))) (dLcG fin it dg dt de (own.map (·.2))) := q_lcG hf hN hi ok hg ht he s0 hw hc hs
theorem qs_setLcH (i : Nat) {y : Str} {py : Pos} {elt tg iter : Expr} {ifs : List Expr} {scope : Scope} {own : List (Str × Nat)} {spos : Pos} {fin : (Z → Cs → Prop) → List D → Cs → Prop} {wi : TI} {g : TG} {tt : TT} {te : TE} {it : DI} {dg : DG} {dt : DT} {de : DE} {is : List Nat} (hf : FinOk X.K fin) (hN : X.N.Nodup) (hsw : swapsWith (.ListComp elt [⟨tg, iter, ifs, 0⟩] scope pos) (some (.Name y py)) spos.line X.env = pure true)
    (hi : QI X tg iter wi it) (ok : BlkOk X.N X.env.scope scope own) (s0 : Shared)
    (g0 : QG (X.blk s0 (fun _ => none) scope (compEnvC scope [] 0 X.env) []) tg g dg is) (t0 : QTs (X.blk s0 (fun _ => none) scope (compEnvC scope [] 0 X.env) []) ifs tt dt) (e0 : QE (X.blk s0 (fun _ => none) scope (compEnvC scope [] 0 X.env) []) elt te de)
    (hg : ∀ (s : Shared) (H : Hp) (C : Addr) (cl : List (Str × Addr)) (fp : List Addr), QG (X.blk s H scope (compEnvC scope cl C X.env) fp) tg g dg is) (ht : ∀ (s : Shared) (H : Hp) (C : Addr) (cl : List (Str × Addr)) (fp : List Addr), QTs (X.blk s H scope (compEnvC scope cl C X.env) fp) ifs tt dt)
    (he : ∀ (s : Shared) (H : Hp) (C : Addr) (cl : List (Str × Addr)) (fp : List Addr), QE (X.blk s H scope (compEnvC scope cl C X.env) fp) elt te de) (hw : ∀ i ∈ is, i ∈ own.map (·.2)) (hy : X.N[i]? = some y := by rfl) (hyl : X.env.scope.names.lookup y = some .local := by rfl) (hc : X.calm = true := by rfl) (hs : ∀ x, foldedSetIterable iter X.env x = pure x := by intro _; rfl) :
    QS X (.Assign [.Name y py] (.ListComp elt [⟨tg, iter, ifs, 0⟩] scope pos) spos) (tAsg (tLc wi g tt te (own.map (·.2))) (gName i)) (dAsg (dLcG fin it dg dt de (own.map (·.2))) (dgName i)) := qs_setLc i hf hN hsw hi ok hg ht he s0 hw hy hyl hc hs
end
def r2D (z w : Z) (K : Int → Int → Prop) : Prop := ∃ i j, z = .d (.int i) ∧ w = .d (.int j) ∧ K i j
theorem e_r2 (a b : Int) (K : Int → Int → Prop) : r2D (.d (.int a)) (.d (.int b)) K = K a b := by
  refine propext ⟨fun ⟨i, j, h1, h2, h⟩ => ?_, fun h => ⟨a, b, rfl, rfl, h⟩⟩
  cases h1
  cases h2
  exact h
theorem e_diR2 {a b : DE} {en : En} {cs : Cs} {k : List D → (Cs → Prop) → Cs → Prop} : diR2 a b en cs k = a en cs fun z cs1 => b en cs1 fun w cs2 => r2D z w fun i j => (Rg i ∧ Rg j) ∧ k (rgD i (j - i).toNat) yes cs2 := rfl
theorem e_dif {A B : DS} {c : DT} {D0 : DEnds} {en : En} {cs : Cs} : dIfS c A B D0 en cs = c en cs fun b cs1 => if b = true then A D0 en cs1 else B D0 en cs1 := rfl
end DL
set_option Elab.async false
set_option linter.all false
set_option maxRecDepth 100000
set_option maxHeartbeats 2000000
set_option autoImplicit false
/-! DLN: lists that an operator lays and that will change -/
namespace DL
open PySem PySem.Spec PyProof.Rows L2
def OpC (K : PySem.W.Frag) (r : R2) (f : D → D → (List D → Prop) → Prop) : Prop :=
  ∀ (S H : Hp) (as : List Addr) (cs : Cs) (dx dy : D) (x y : V) (k : List D → Prop) (Q : VK), Rep K S H as cs → Sh K S H dx x → Sh K S H dy y → f dx dy k →
    (∀ (ds : List D) (vs : List V) (l : Addr), H l = none → IsL K S ds vs → k ds → Q (.ref l) (upd H l (.lst vs))) → r x y H Q
def dOpC (f : D → D → (List D → Prop) → Prop) (a b : DE) : DE := fun en cs k => a en cs fun x cs1 => b en cs1 fun y cs2 => withD cs2 x fun dx => withD cs2 y fun dy => f dx dy fun ds => k (.c cs2.length) (cs2 ++ [.lst ds])
section
variable {X : Cx} {pos : Pos}
theorem Rep.fresh {K : PySem.W.Frag} {S H : Hp} {as : List Addr} {cs : Cs} {k : Z → Cs → Prop} {Q : VK} (r : Rep K S H as cs) (p : PQ K S as k Q) {ds : List D} {vs : List V} {l : Addr} (hl : H l = none) (is : IsL K S ds vs) (h : k (.c cs.length) (cs ++ [.lst ds])) : Q (.ref l) (upd H l (.lst vs)) :=
  p (.c cs.length) (.ref l) S _ (as ++ [l]) _ ⟨Sub.refl _, [l], rfl⟩ (r.cell hl (c := .lst ds) ⟨r.sub.free hl, vs, upd_same, is⟩) ⟨l, r.get_new l, rfl⟩ h
theorem sem_opC {K : PySem.W.Frag} {r : R2} {f : D → D → (List D → Prop) → Prop} {ta tb : TE} {da db : DE} (h : OpC K r f) (ha : SemE K ta da) (hb : SemE K tb db) : SemE K (tOp r ta tb) (dOpC f da db) := by
  intro σ H S as en cs k Q rp e q p
  refine ha.use rp e q fun z v S1 H1 as1 cs1 e1 r1 v1 q1 => ?_
  refine hb.use r1 (e.mono e1) q1 fun z2 v2 S2 H2 as2 cs2 e2 r2 w2 q2 => ?_
  obtain ⟨dx, l1, q2⟩ := withD_look q2
  obtain ⟨dy, l2, q2⟩ := withD_look q2
  exact h S2 H2 as2 cs2 dx dy v v2 _ Q r2 (look_sh r2 (v1.mono e2) l1) (look_sh r2 w2 l2) q2 fun ds vs l hl is hk => r2.fresh (p.mono (e1.trans e2)) hl is hk
theorem q_opC {op : Operator} {r : R2} {f : D → D → (List D → Prop) → Prop} {a b : Expr} {ta tb : TE} {da db : DE} (ho : OpR X (binaryOp op) r) (h : OpC X.K r f) (ha : QE X a ta da) (hb : QE X b tb db) : QE X (.BinOp a op b pos) (tOp r ta tb) (dOpC f da db) :=
  ⟨pe_op ho ha.pe hb.pe, sem_opC h ha.sem hb.sem⟩
def addC : D → D → (List D → Prop) → Prop
  | .lst a, .lst b, k => a.length + b.length ≤ 100000 ∧ k (a ++ b)
  | _, _, _ => False
def mulC : D → D → (List D → Prop) → Prop
  | .lst a, .int n, k => (0 ≤ n ∧ n ≤ 100000 ∧ a.length ≤ 1000 ∧ a.length * n.toNat ≤ 100000) ∧ k (List.replicate n.toNat a).flatten
  | _, _, _ => False
theorem e_addC (a b : List D) (k : List D → Prop) : addC (.lst a) (.lst b) k = (a.length + b.length ≤ 100000 ∧ k (a ++ b)) := rfl
theorem e_mulC (a : List D) (n : Int) (k : List D → Prop) : mulC (.lst a) (.int n) k = ((0 ≤ n ∧ n ≤ 100000 ∧ a.length ≤ 1000 ∧ a.length * n.toNat ≤ 100000) ∧ k (List.replicate n.toNat a).flatten) := rfl
theorem oc_add {K : PySem.W.Frag} : OpC K (rAddU K) addC := by
  intro S H as cs dx dy x y k Q r hx hy h q
  unfold addC at h
  split at h
  · obtain ⟨a, vs, rfl, hs, is⟩ := hx
    obtain ⟨b, us, rfl, ht, it⟩ := hy
    obtain ⟨hz, hk⟩ := h
    exact .inr (.inr (.inr ⟨a, b, vs, us, rfl, rfl, hs, ht, by rw [is.len, it.len]; exact size_of hz, fun p hp => q _ _ p hp (is.append it) hk⟩))
  · exact h.elim
theorem oc_mul {K : PySem.W.Frag} : OpC K (rMulU K) mulC := by
  intro S H as cs dx dy x y k Q r hx hy h q
  unfold mulC at h
  split at h
  · rename_i l n
    obtain ⟨a, vs, rfl, hs, is⟩ := hx
    obtain ⟨⟨h1, h2, h3, h4⟩, hk⟩ := h
    exact .inr (.inr ⟨a, _, vs, rfl, hy, hs, by omega, by omega, by rw [is.len]; exact size_of h4, fun p hp => q _ _ p hp (is.rep _) hk⟩)
  · exact h.elim
/-- xs[a:b], to be changed -/
def dSlC (a : DE) (lo hi : DO) : DE := fun en cs k => a en cs fun x cs1 => lo en cs1 fun l cs2 => hi en cs2 fun h cs3 => withD cs3 x fun dx => ∃ ds, dx = .lst ds ∧ k (.c cs3.length) (cs3 ++ [.lst (cutG ds l h)])
theorem q_sliceC {a : Expr} {lo hi : Option Expr} {ta : TE} {da : DE} {tl th : TO} {dl dh : DO} {p2 : Pos} (ha : QE X a ta da) (hl : QO X lo tl dl) (hh : QO X hi th dh) : QE X (.Subscript a (.Slice lo hi none p2) pos) (tSl (rSlU X.K) ta tl th) (dSlC da dl dh) := by
  refine ⟨pe_slice sl_U ha.pe hl.po hh.po, ?_⟩
  intro σ H S as en cs k Q rp e q p
  refine ha.sem.use rp e q fun z v S1 H1 as1 cs1 e1 r1 v1 q1 => ?_
  refine hl.sem σ H1 S1 as1 en cs1 _ _ r1 (e.mono e1) q1 fun l S2 H2 as2 cs2 e2 r2 q2 => ?_
  refine hh.sem σ H2 S2 as2 en cs2 _ _ r2 (e.mono (e1.trans e2)) q2 fun h S3 H3 as3 cs3 e3 r3 q3 => ?_
  obtain ⟨dx, l1, q3⟩ := withD_look q3
  have hx := look_sh r3 (v1.mono (e2.trans e3)) l1
  obtain ⟨ds, rfl, q3⟩ := q3
  obtain ⟨ad, vs, rfl, hs, is⟩ := hx
  exact .inl ⟨ad, vs, rfl, SqL.of hs, fun b hb => r3.fresh (p.mono ((e1.trans e2).trans e3)) hb (is.cut l h) q3⟩
/-- list(x), to be changed -/
def lstOfC : D → (List D → Prop) → Prop
  | .lst ds, k => k ds
  | .tup ds, k => k ds
  | .scr ns, k => k (ns.map D.int)
  | _, _ => False
theorem e_loCl (ds : List D) (k : List D → Prop) : lstOfC (.lst ds) k = k ds := rfl
theorem e_loCt (ds : List D) (k : List D → Prop) : lstOfC (.tup ds) k = k ds := rfl
theorem e_loCs (ns : List Int) (k : List D → Prop) : lstOfC (.scr ns) k = k (ns.map D.int) := rfl
def dListC (a : DE) : DE := fun en cs k => a en cs fun x cs1 => withD cs1 x fun dx => lstOfC dx fun ds => k (.c cs1.length) (cs1 ++ [.lst ds])
theorem q_listC {x : Str} {p : Pos} {a : Expr} {ta : TE} {da : DE} (hc : CallR X (.type "list") (rLstOf X.K)) (hm : X.mg x = none) (hv : bootBuiltins x = some (.type "list")) (ha : QE X a ta da) (hg : Gl X x := by rfl) (hn : x ≠ "__name__" := by decide) (hdb : (x == ("__debug__" : Str)) = false := by decide)
    (he : starEach [a] X.env = (false, eval a X.env) :: starEach [] X.env := by rfl) (hpl : (backTo pos (starEach [] X.env)).any (·.1) = false := by rfl) : QE X (.Call (.Name x p) [a] [] pos) (tCB (rLstOf X.K) (tCons ta tNil)) (dListC da) := by
  refine ⟨pe_callTy hc hg hm hv (pa_cons ha.pe pa_nil he) hn hdb he hpl, ?_⟩
  intro σ H S as en cs k Q rp e q pq
  refine ha.sem.use rp e q fun z v S1 H1 as1 cs1 e1 r1 v1 q1 => ?_
  obtain ⟨dx, l1, q1⟩ := withD_look q1
  have hx := look_sh r1 v1 l1
  unfold lstOfC at q1
  split at q1
  · obtain ⟨ad, vs, rfl, hs, is⟩ := hx
    exact ⟨ad, vs, rfl, .inl (SqL.of hs), fun l hl => r1.fresh (pq.mono e1) hl is q1⟩
  · obtain ⟨ad, vs, rfl, hs, is⟩ := hx
    exact ⟨ad, vs, rfl, .inr (r1.sub.t hs), fun l hl => r1.fresh (pq.mono e1) hl is q1⟩
  · obtain ⟨ad, rfl, hs⟩ := hx
    exact ⟨ad, _, rfl, .inl (r1.sub.l hs), fun l hl => r1.fresh (pq.mono e1) hl (isL_ints _) q1⟩
  · exact q1.elim
end
end DL
set_option Elab.async false
set_option linter.all false
set_option maxRecDepth 100000
set_option maxHeartbeats 2000000
set_option autoImplicit false
/-! DLP: sorted of rows of ints (pairs, triples), of any number of them, in a list or a tuple -/
namespace DL
open PySem PySem.Spec PyProof.Rows L2
def key3 : List Int → Int × Int × Int
  | a :: b :: c :: _ => (a, b, c)
  | [a, b] => (a, b, 0)
  | [a] => (a, 0, 0)
  | [] => (0, 0, 0)
def lex3 (p q : Int × Int × Int) : Bool := decide (p.1 < q.1 ∨ (p.1 = q.1 ∧ (p.2.1 < q.2.1 ∨ (p.2.1 = q.2.1 ∧ p.2.2 < q.2.2))))
def lexL : List Int → List Int → Bool
  | x :: xs, y :: ys => if x = y then lexL xs ys else decide (x < y)
  | _, _ => false
theorem lex_eq : ∀ (ns ms : List Int), ns.length = ms.length → ns.length ≤ 3 → lexL ns ms = lex3 (key3 ns) (key3 ms)
  | [], [], _, _ => by simp [lexL, lex3, key3]
  | [a], [x], _, _ => by
    simp only [lexL, lex3, key3]
    by_cases h : a = x <;> simp [h]
  | [a, b], [x, y], _, _ => by
    simp only [lexL, lex3, key3]
    by_cases h : a = x
    · by_cases h2 : b = y <;> simp [h, h2]
    · simp [h]
  | [a, b, c], [x, y, z], _, _ => by
    simp only [lexL, lex3, key3]
    by_cases h : a = x
    · by_cases h2 : b = y
      · by_cases h3 : c = z <;> simp [h, h2, h3]
      · simp [h, h2]
    · simp [h]
  | _ :: _ :: _ :: _ :: _, _, _, h => by simp at h
def RowV : List Value → List Int → Prop
  | [], [] => True
  | v :: vs, n :: ns => (∃ t, v = .int n t) ∧ RowV vs ns
  | _, _ => False
theorem rowV_of : ∀ {ns : List Int} {us : List Value}, Vals (ns.map V.int) us → RowV us ns
  | [], _, .nil => trivial
  | n :: ns, _ :: _, .cons r t => by
    obtain ⟨tk, rfl⟩ := r
    exact ⟨⟨tk, rfl⟩, rowV_of t⟩
def rowOf (h : Heap) : Value → List Int
  | .ref a => match h.get? a with
    | some o => match o.data with
      | .seq xs _ => xs.toList.map fun v => match v with
        | .int i _ => i
        | _ => 0
      | _ => []
    | none => []
  | _ => []
def IsRow (h : Heap) (v : Value) (ns : List Int) : Prop := ∃ (a : Addr) (o : Obj) (us : List Value) (n : Nat), v = .ref a ∧ h.get? a = some o ∧ o.cls = .type "tuple" ∧ o.data = .seq us.toArray n ∧ RowV us ns
theorem IsRow.keeps {h h' : Heap} {v : Value} {ns : List Int} (p : IsRow h v ns) (k : ∀ b o, h.get? b = some o → o.cls = .type "tuple" → h'.get? b = some o) : IsRow h' v ns := by
  obtain ⟨a, o, us, n, e, ho, hc, hd, r⟩ := p
  exact ⟨a, o, us, n, e, k _ _ ho hc, hc, hd, r⟩
theorem rowV_back : ∀ {us : List Value} {ns : List Int}, RowV us ns → (us.map fun v => match v with
    | .int i _ => i
    | _ => 0) = ns
  | [], [], _ => rfl
  | [], _ :: _, h => h.elim
  | _ :: _, [], h => h.elim
  | v :: us, n :: ns, ⟨⟨t, e⟩, h⟩ => by
    subst e
    rw [List.map_cons, rowV_back h]
theorem IsRow.row {h : Heap} {v : Value} {ns : List Int} (p : IsRow h v ns) : rowOf h v = ns := by
  obtain ⟨a, o, us, n, rfl, ho, hc, hd, r⟩ := p
  unfold rowOf
  simp only [ho, hd]
  exact rowV_back r
section
variable {prog : Program} {w : World} {A : Around} {E : Value → Shared → Prop} {s : Shared}
theorem kat_rows {R : Bool} : ∀ (us us' : List Value) (ns ns' : List Int) (i : Nat), RowV us ns → RowV us' ns' → ns.length = ns'.length → R = lexL ns ns' →
    PySem.W.KatLex prog w A true false (fun r s' => s' = s ∧ r = R) (us.zip us') i s
  | [], [], [], [], _, _, _, _, e => PySem.W.kat_nil ⟨rfl, e.symm⟩
  | v :: us, v' :: us', x :: ns, x' :: ns', i, ⟨⟨t, e1⟩, h⟩, ⟨⟨t', e2⟩, h'⟩, l, e => by
    subst e1 e2
    rw [List.zip_cons_cons]
    refine PySem.W.kat_cons (SeqAt.EqAt.int_int x t x' t' prog w _ _ ?_)
    refine PySem.W.kat_go (fun q => ?_) (fun q => ?_)
    · have ex : x = x' := by simpa using q
      refine PySem.W.kat_yes (kat_rows us us' ns ns' (i + 1) h h' (by simpa using l) ?_)
      rw [e]
      simp only [lexL, ex, if_true]
    · have ex : ¬ x = x' := by simpa using q
      have e3 : R = decide (x < x') := by
        rw [e]
        simp only [lexL, ex, if_false]
      refine PySem.W.kat_no ?_
      cases i with
      | zero => exact oneLt_int ⟨rfl, e3.symm⟩
      | succ i => exact PySem.W.kat_one _ _ (PyProof.Rows.lt_int (Q := PySem.W.BoolBack _) ⟨rfl, e3.symm⟩)
  | [], _, _ :: _, _, _, h, _, _, _ => h.elim
  | _ :: _, _, [], _, _, h, _, _, _ => h.elim
  | _, [], _, _ :: _, _, _, h, _, _ => h.elim
  | _, _ :: _, _, [], _, _, h, _, _ => h.elim
abbrev ltR (k : Value → List Int) (v u : Value) : Bool := lex3 (key3 (k v)) (key3 (k u))
theorem lex3_no {p q : Int × Int × Int} : lex3 p q = false ↔ ¬ (p.1 < q.1 ∨ (p.1 = q.1 ∧ (p.2.1 < q.2.1 ∨ (p.2.1 = q.2.1 ∧ p.2.2 < q.2.2)))) := decide_eq_false_iff_not
theorem swoR (k : Value → List Int) : SrtO.Swo (ltR k) := by
  refine ⟨fun x y h => ?_, fun x y z h1 h2 => ?_⟩
  · have h' := of_decide_eq_true h
    refine lex3_no.mpr ?_
    omega
  · have a := lex3_no.mp h1
    have b := lex3_no.mp h2
    refine lex3_no.mpr ?_
    omega
theorem rows_cmp {vs : List Value} {k : Value → List Int} {d : Nat} (hd : d ≤ 3) (hp : ∀ v ∈ vs, IsRow s.heap v (k v) ∧ (k v).length = d) : SrtO.Cmp prog w A s (tuples' true) (fun p => p.1 ∈ vs) (SrtO.lt2 (ltR k)) := by
  intro p q hm hm'
  obtain ⟨h1, l1⟩ := hp _ hm
  obtain ⟨h2, l2⟩ := hp _ hm'
  show wpAny (model prog w) A (keyLt' (tuples' true) p.1 q.1) (fun r s' => s' = s ∧ r = lex3 (key3 (k p.1)) (key3 (k q.1))) (fun _ _ => False) s
  rw [← lex_eq _ _ (l1.trans l2.symm) (by omega)]
  obtain ⟨a, o, us, n, e, ho, hc, hdt, r⟩ := h1
  obtain ⟨a', o', us', n', e', ho', hc', hdt', r'⟩ := h2
  have lu : ∀ {us : List Value} {ns : List Int}, RowV us ns → us.length = ns.length := fun {us ns} => by
    induction us generalizing ns with
    | nil => cases ns with
      | nil => intro _; rfl
      | cons _ _ => intro h; exact h.elim
    | cons u us ih => cases ns with
      | nil => intro h; exact h.elim
      | cons n ns => intro h; rw [List.length_cons, List.length_cons, ih h.2]
  have e0 : keyLt' (tuples' true) p.1 q.1 = keyLt' (tuples' true) (.ref a) (.ref a') := by rw [e, e']
  rw [e0]
  refine PySem.W.kat_lt ho hdt ho' hdt' ?_
  have z : decide (us.toArray.size < us'.toArray.size) = false := by
    rw [List.size_toArray, List.size_toArray, lu r, lu r', l1, l2]
    exact decide_eq_false (Nat.lt_irrefl _)
  rw [z]
  exact kat_rows us us' _ _ 0 r r' (l1.trans l2.symm) rfl
theorem firstsR {h : Heap} {k : Value → List Int} {d : Nat} (hd : 1 ≤ d) : ∀ {vs : List Value}, (∀ v ∈ vs, IsRow h v (k v) ∧ (k v).length = d) → ∃ fs : List Value, PySem.W.KatTups h vs fs ∧ fs.length = vs.length ∧ ∀ f ∈ fs, ∃ x t, f = Value.int x t
  | [], _ => ⟨[], PySem.W.KatTups.nil, rfl, fun _ hm => by simp at hm⟩
  | v :: vs, hp => by
    obtain ⟨fs, h1, h2, h3⟩ := firstsR hd (vs := vs) fun v' hm => hp v' (List.mem_cons_of_mem _ hm)
    obtain ⟨⟨a, o, us, n, e, ho, hc, hdt, r⟩, l⟩ := hp v List.mem_cons_self
    subst e
    generalize k (.ref a) = ns at r l
    cases us with
    | nil => cases ns with
      | nil => simp only [List.length_nil] at l; omega
      | cons _ _ => exact r.elim
    | cons u us => cases ns with
      | nil => exact r.elim
      | cons m ns =>
        obtain ⟨⟨t, rfl⟩, r⟩ := r
        refine ⟨.int m t :: fs, PySem.W.KatTups.cons ho hc hdt rfl h1, by rw [List.length_cons, List.length_cons, h2], fun f hm => ?_⟩
        rcases List.mem_cons.mp hm with rfl | hm
        · exact ⟨m, t, rfl⟩
        · exact h3 f hm
theorem rows_sortable {a : Addr} {vs : List Value} {k : Value → List Int} {d : Nat} (h0 : 0 < vs.length) (hd1 : 1 ≤ d) (hd : d ≤ 3) (hp : ∀ v ∈ vs, IsRow s.heap v (k v) ∧ (k v).length = d) (ha : ∀ o, s.heap.get? a = some o → o.cls ≠ .type "tuple") : SrtO.SortableO prog w A s a vs (ltR k) := by
  intro h' keep
  have hp' : ∀ v ∈ vs, IsRow h' v (k v) ∧ (k v).length = d := fun v hm => ⟨(hp v hm).1.keeps fun b o e c => keep b o (fun z => by subst z; exact ha o e c) e, (hp v hm).2⟩
  obtain ⟨fs, h1, h2, h3⟩ := firstsR hd1 hp'
  refine ⟨tuples' true, fun Q E hq => ?_, rows_cmp hd hp'⟩
  refine PySem.W.kat_kind (T := .type "int") h1 (by omega) (fun f hm => ?_) (by rfl) ?_
  · obtain ⟨x, t, rfl⟩ := h3 f hm
    exact PySem.W.Looks.now
  · have e : (Value.type "int" != Value.type "tuple") = true := by first | decide +kernel | rfl | decide
    rw [e]
    exact hq
theorem collect_tup {l : Addr} {vs : List Value} {Q : List Value → Shared → Prop} (hl : IsTup s.heap l vs.toArray)
    (h : Q vs { s with heap := (s.heap.push (seqObj "list" #[] 0)).update s.heap.objs.size (Obj.mapSeq (· ++ vs.toArray)) }) (hsz : vs.length ≤ sizeLine) :
    wpAny (model prog w) A (collect (.ref l)) Q E s := by
  obtain ⟨o, ho, hc, n, hd⟩ := id hl
  unfold collect
  refine wpAny_bind (wpAny_runValue (codeAny_builtin entry_proto_collect' ?_))
  show wpAny _ _ (do again (.builtin "list.__iadd__" ⟨[← newList [], .ref l], []⟩)) _ _ s
  refine wpAny_bind (wpAny_newList (wpAny_pure ⟨Code.quiet_builtin _ (by decide +kernel), codeAny_builtin entry_list_iadd' ?_⟩))
  show wpAny _ _ (Builtin.List.listExtendWith (.ref s.heap.objs.size) (.ref l) (.ref s.heap.objs.size)) _ _ { s with heap := s.heap.push (seqObj "list" #[] 0) }
  unfold Builtin.List.listExtendWith
  have ho' : (s.heap.push (seqObj "list" #[] 0)).get? l = some o := Heap.get?_push_of_some _ ho
  refine wpAny_bind (wpAny_typeOf (T := "tuple") ⟨o, ho', hc⟩ ?_)
  have ht : (Value.type "tuple" == Value.type "tuple") = true := by rfl
  rw [if_pos (by rw [ht]; simp)]
  refine wpAny_bind (listItems_at ho' hd ?_)
  refine wpAny_bind (listItems_at (xs := #[]) (n := 0) (Heap.get?_push_size _ rfl) rfl ?_)
  rw [if_neg (by simp)]
  refine wpAny_bind (listUpdate_at (xs := #[]) (n := 0) (Heap.get?_push_size _ rfl) rfl ?_ (Nat.zero_le _) (by show (#[] ++ vs.toArray).size ≤ sizeLine + 1; simp only [Array.size_append, List.size_toArray, List.length_nil]; omega))
  refine wpAny_pure ?_
  show wpAny (model prog w) A (do
      let o ← load s.heap.objs.size
      match o.data with
      | .seq xs _ => pure xs.toList
      | _ => unsupported "internal:collect") Q E { s with heap := (s.heap.push (seqObj "list" #[] 0)).update s.heap.objs.size (Obj.mapSeq (· ++ vs.toArray)) }
  refine wpAny_bind (wpAny_load (get?_update_seq (Heap.get?_push_size _ rfl) _) ?_)
  show wpAny _ _ (pure ((#[] : Array Value) ++ vs.toArray).toList) Q E _
  rw [show ((#[] : Array Value) ++ vs.toArray).toList = vs by simp]
  exact wpAny_pure h
theorem sorted_tup {l : Addr} {vs : List Value} {ltv : Value → Value → Bool} {Q : Value → Shared → Prop} (O : SrtO.Swo ltv) (hl : IsTup s.heap l vs.toArray) (hz : vs.length ≤ sizeLine)
    (hS : 2 ≤ vs.length → ∀ (h₁ : Heap) (a : Addr), h₁.get? a = some (seqObj "list" vs.toArray 0) → (∀ b o, s.heap.get? b = some o → b ≠ a ∧ h₁.get? b = some o) → SrtO.SortableO prog w A.in1.in1 { s with heap := h₁ } a vs ltv)
    (h : ∀ out : List Value, SrtO.Srtd ltv out → SrtO.Stb ltv out vs → Q (.ref (s.heap.objs.size + 1)) { s with heap := sortedAll s.heap vs out.toArray }) :
    wpAny (model prog w) A (call (.builtin "sorted") [.ref l]) Q E s := by
  refine Calls.call_function_entry kind_sorted plain_sorted entry_sorted (args_sorted1 _) ?_
  unfold Builtin.«sorted»
  refine wpAny_bind (m := checkCount "sorted" 1 1 _) (wpAny_pure ?_)
  refine wpAny_bind (collect_tup hl ?_ hz)
  refine wpAny_bind (wpAny_newList ?_ hz)
  have hsz : ((s.heap.push (seqObj "list" #[] 0)).update s.heap.objs.size (Obj.mapSeq (· ++ vs.toArray))).objs.size = s.heap.objs.size + 1 := by
    rw [Heap.size_update, size_push']
  have hoL : (((s.heap.push (seqObj "list" #[] 0)).update s.heap.objs.size (Obj.mapSeq (· ++ vs.toArray))).push (seqObj "list" vs.toArray 0)).get? (s.heap.objs.size + 1) = some (seqObj "list" vs.toArray 0) := by
    rw [← hsz]; exact Heap.get?_push_size _ rfl
  have keep : ∀ b o, s.heap.get? b = some o → b ≠ s.heap.objs.size + 1 ∧ (((s.heap.push (seqObj "list" #[] 0)).update s.heap.objs.size (Obj.mapSeq (· ++ vs.toArray))).push (seqObj "list" vs.toArray 0)).get? b = some o := fun b o q => by
    have hlt : b < s.heap.objs.size := Heap.lt_size q
    refine ⟨Nat.ne_of_lt (Nat.lt_succ_of_lt hlt), Heap.get?_push_of_some _ ?_⟩
    rw [Heap.get?_update_ne _ _ _ _ (Nat.ne_of_lt hlt)]
    exact Heap.get?_push_of_some _ q
  show wpAny _ _ _ _ _ { s with heap := ((s.heap.push (seqObj "list" #[] 0)).update s.heap.objs.size (Obj.mapSeq (· ++ vs.toArray))).push (seqObj "list" vs.toArray 0) }
  rw [hsz]
  refine wpAny_bind (wpAny_holding (wpAny_call_entry slot_list_sort ⟨_, hoL, rfl⟩ entry_list_sort (SrtO.list_sort_ord O hoL hz (fun h2 => hS h2 _ _ hoL keep) fun out hs hb => ⟨_, rfl, ?_⟩) (args_list_sort _)))
  exact wpAny_pure ⟨_, rfl, h out hs hb⟩
theorem sorted_rows {l : Addr} {vs : List Value} {k : Value → List Int} {d : Nat} {Q : Value → Shared → Prop} (hl : s.heap.IsList l vs.toArray ∨ IsTup s.heap l vs.toArray) (hz : vs.length ≤ sizeLine) (hd1 : 1 ≤ d) (hd : d ≤ 3) (hp : ∀ v ∈ vs, IsRow s.heap v (k v) ∧ (k v).length = d)
    (h : ∀ (h' : Heap) (D : Addr) (out : List Value), SrtO.Srtd (ltR k) out → SrtO.Stb (ltR k) out vs → (∀ b o, s.heap.get? b = some o → h'.get? b = some o) → s.heap.objs.size ≤ D → (∃ n, h'.get? D = some (seqObj "list" out.toArray n)) → Q (.ref D) { s with heap := h' }) :
    wpAny (model prog w) A (call (.builtin "sorted") [.ref l]) Q E s := by
  have hS : 2 ≤ vs.length → ∀ (h₁ : Heap) (a : Addr), h₁.get? a = some (seqObj "list" vs.toArray 0) → (∀ b o, s.heap.get? b = some o → b ≠ a ∧ h₁.get? b = some o) → SrtO.SortableO prog w A.in1.in1 { s with heap := h₁ } a vs (ltR k) := fun h2 h₁ a ha kk => by
    refine rows_sortable (s := { s with heap := h₁ }) (by omega) hd1 hd (fun v hm => ⟨(hp v hm).1.keeps fun b o e _ => (kk b o e).2, (hp v hm).2⟩) fun o e => ?_
    have e' : some o = some (seqObj "list" vs.toArray 0) := e.symm.trans ha
    cases e'
    intro c
    exact absurd (Value.type.inj c) (by decide)
  have fin : ∀ out : List Value, SrtO.Srtd (ltR k) out → SrtO.Stb (ltR k) out vs → Q (.ref (s.heap.objs.size + 1)) { s with heap := sortedAll s.heap vs out.toArray } := fun out hs hb =>
    h _ _ out hs hb (fun b o e => sortedAll_old e) (Nat.le_succ _) (sortedAll_at s.heap vs out.toArray)
  rcases hl with hl | hl
  · exact SrtO.sorted_ord (swoR k) hl hz hS fin
  · exact sorted_tup (swoR k) hl hz hS fin
end
/-! ### the rule -/
def rSortedR (K : PySem.W.Frag) : List V → Hp → VK → Prop := fun vs H Q => ∃ (a : Addr) (xs : List V) (rows : List (List Int)) (d : Nat), vs = [V.ref a] ∧ (SqL K H a xs ∨ SqT K H a xs) ∧ (1 ≤ d ∧ d ≤ 3) ∧ Paired (fun (x : V) (r : List Int) => r.length = d ∧ ∃ t, x = V.ref t ∧ SqT K H t (r.map V.int)) xs rows ∧
  ∀ (out : List (V × List Int)) (p : Addr), out.Perm (xs.zip rows) → out.Pairwise (fun x y => lex3 (key3 y.2) (key3 x.2) = false) → H p = none → Q (.ref p) (upd H p (.lst (out.map (·.1))))
theorem isRow_of {X : Cx} {pins : List (Addr × Obj)} {σ : L2.St} {H : Hp} {s : Shared} (I : Inv X pins σ H s) {t : Addr} {r : List Int} (h : SqT X.K H t (r.map V.int)) : IsRow s.heap (.ref t) r := by
  obtain ⟨its, rv, ⟨o, ho, hc, n, hd⟩, _⟩ := I.tuple h
  exact ⟨t, o, its, n, rfl, ho, hc, hd, rowV_of rv⟩
theorem rows_back {X : Cx} {pins : List (Addr × Obj)} {σ : L2.St} {H : Hp} {s : Shared} {d : Nat} (I : Inv X pins σ H s) : ∀ {xs : List V} {rows : List (List Int)} {us : List Value}, Paired (fun (x : V) (r : List Int) => r.length = d ∧ ∃ t, x = V.ref t ∧ SqT X.K H t (r.map V.int)) xs rows → Vals xs us →
    xs.zip rows = us.map (fun u => (backV u, rowOf s.heap u)) ∧ ∀ u ∈ us, (∃ a, u = Value.ref a) ∧ IsRow s.heap u (rowOf s.heap u) ∧ (rowOf s.heap u).length = d
  | _, _, _, .nil, .nil => ⟨rfl, fun u hu => by simp at hu⟩
  | x :: xs, r :: rows, _ :: us, .cons p t, .cons v vs => by
    obtain ⟨l, a, rfl, hq⟩ := p
    cases v
    obtain ⟨e1, e2⟩ := rows_back I t vs
    have ir := isRow_of I hq
    refine ⟨?_, fun u hu => ?_⟩
    · rw [List.zip_cons_cons, e1, List.map_cons, ir.row]
      rfl
    · rcases List.mem_cons.mp hu with rfl | hu
      · exact ⟨⟨a, rfl⟩, by rw [ir.row]; exact ir, by rw [ir.row]; exact l⟩
      · exact e2 u hu
theorem cr_sortedR {X : Cx} : CallR X (.builtin "sorted") (rSortedR X.K) := by
  intro pins s σ H vs us Q I r h
  obtain ⟨a, xs, rows, d, rfl, hs, ⟨d1, d3⟩, hx, q⟩ := h
  have hseq : ∃ its, Vals xs its ∧ (s.heap.IsList a its.toArray ∨ IsTup s.heap a its.toArray) ∧ xs.length ≤ sizeLine := by
    rcases hs with hs | hs
    · obtain ⟨its, rv, hl, hz⟩ := I.list hs
      exact ⟨its, rv, .inl hl.isList, hz⟩
    · obtain ⟨its, rv, hl, hz⟩ := I.tuple hs
      exact ⟨its, rv, .inr hl, hz⟩
  obtain ⟨its, rv, hl, hz⟩ := hseq
  obtain ⟨u, rfl, ru⟩ := vals1 r
  obtain rfl : u = Value.ref a := ru
  obtain ⟨e1, e2⟩ := rows_back I hx rv
  refine sorted_rows (k := rowOf s.heap) hl (by rw [← rv.length]; exact hz) d1 d3 (fun v hv => (e2 v hv).2) fun h' D out h1 h2 kp hd hn => ?_
  have h3 : ∀ u ∈ out, ∃ a, u = Value.ref a := fun u hu => (e2 u (h2.perm.mem_iff.mp hu)).1
  obtain ⟨n, hn⟩ := hn
  have hp : (out.map fun u => (backV u, rowOf s.heap u)).Perm (xs.zip rows) := by
    rw [e1]
    exact h2.perm.map _
  have hw : (out.map fun u => (backV u, rowOf s.heap u)).Pairwise (fun x y => lex3 (key3 y.2) (key3 x.2) = false) := List.pairwise_map.mpr h1
  have e3 : (out.map fun u => (backV u, rowOf s.heap u)).map (·.1) = out.map backV := by
    rw [List.map_map]
    rfl
  have q' := q _ D hp hw (I.hok.fresh hd)
  rw [e3] at q'
  refine ⟨.ref D, upd H D (.lst (out.map backV)), I.laid (t' := s.toks) kp hd ⟨?_, out, n, vals_back h3, hn⟩, rfl, q'⟩
  rw [List.length_map, h2.perm.length_eq, ← rv.length]
  exact hz
def rowD (r : List Int) : D := .tup (r.map D.int)
def sortedRD : List D → (D → Prop) → Prop
  | [.lst ds], k => ∃ (rows : List (List Int)) (d : Nat), ds = rows.map rowD ∧ (1 ≤ d ∧ d ≤ 3 ∧ ∀ r ∈ rows, r.length = d) ∧ ∀ out : List (List Int), out.Perm rows → out.Pairwise (fun x y => lex3 (key3 y) (key3 x) = false) → k (.lst (out.map rowD))
  | [.tup ds], k => ∃ (rows : List (List Int)) (d : Nat), ds = rows.map rowD ∧ (1 ≤ d ∧ d ≤ 3 ∧ ∀ r ∈ rows, r.length = d) ∧ ∀ out : List (List Int), out.Perm rows → out.Pairwise (fun x y => lex3 (key3 y) (key3 x) = false) → k (.lst (out.map rowD))
  | _, _ => False
theorem rows_is {K : PySem.W.Frag} {S H : Hp} {d : Nat} (e : Sub S H) : ∀ {rows : List (List Int)} {vs : List V}, IsL K S (rows.map rowD) vs → (∀ r ∈ rows, r.length = d) →
    Paired (fun (x : V) (r : List Int) => r.length = d ∧ ∃ t, x = V.ref t ∧ SqT K H t (r.map V.int)) vs rows ∧ ∀ p ∈ vs.zip rows, Is K S (rowD p.2) p.1
  | [], vs, h, _ => by
    have h' : vs = [] := h
    subst h'
    exact ⟨.nil, fun p hp => by simp at hp⟩
  | r :: rows, vs, h, hd => by
    obtain ⟨v, us, rfl, h1, h2⟩ := h
    obtain ⟨i1, i2⟩ := rows_is e h2 fun r hr => hd r (List.mem_cons_of_mem _ hr)
    have h1' := h1
    obtain ⟨a, ws, rfl, hs, is⟩ := h1
    have e2 := IsL.ints is
    subst e2
    refine ⟨.cons ⟨hd r List.mem_cons_self, a, rfl, e.t hs⟩ i1, fun p hp => ?_⟩
    rw [List.zip_cons_cons] at hp
    rcases List.mem_cons.mp hp with rfl | hp
    · exact h1'
    · exact i2 p hp
theorem isL_out {K : PySem.W.Frag} {S : Hp} : ∀ {out : List (V × List Int)}, (∀ p ∈ out, Is K S (rowD p.2) p.1) → IsL K S ((out.map (·.2)).map rowD) (out.map (·.1))
  | [], _ => rfl
  | p :: out, h => ⟨p.1, out.map (·.1), rfl, h p List.mem_cons_self, isL_out fun q hq => h q (List.mem_cons_of_mem _ hq)⟩
theorem zip_snd : ∀ {xs : List V} {rows : List (List Int)}, xs.length = rows.length → (xs.zip rows).map (·.2) = rows
  | [], [], _ => rfl
  | x :: xs, r :: rows, h => by
    rw [List.zip_cons_cons, List.map_cons, zip_snd (by simpa using h)]
  | [], _ :: _, h => by simp at h
  | _ :: _, [], h => by simp at h
theorem c_sortedR {K : PySem.W.Frag} : Cl K (rSortedR K) sortedRD := by
  intro S H as cs ds vs k Q r hv h q
  have go : ∀ (a : Addr) (us : List V) (rows : List (List Int)) (d : Nat), (SqL K H a us ∨ SqT K H a us) → IsL K S (rows.map rowD) us → (1 ≤ d ∧ d ≤ 3 ∧ ∀ r ∈ rows, r.length = d) → (∀ out : List (List Int), out.Perm rows → out.Pairwise (fun x y => lex3 (key3 y) (key3 x) = false) → k (.lst (out.map rowD))) → rSortedR K [V.ref a] H Q := fun a us rows d hs is ⟨d1, d3, hd⟩ hk => by
    obtain ⟨i1, i2⟩ := rows_is r.sub is hd
    have hlen : us.length = rows.length := by
      have := is.len
      rw [List.length_map] at this
      exact this
    refine ⟨a, us, rows, d, rfl, hs, ⟨d1, d3⟩, i1, fun out p hp hw hpn => ?_⟩
    have iso := isL_out (K := K) (S := S) (out := out) fun z hz => i2 z (hp.mem_iff.mp hz)
    have hn := Sub.new (o := .lst (out.map (·.1))) (r.sub.free hpn)
    refine q (.lst _) _ _ _ hn (r.lay hpn _) ⟨p, _, rfl, upd_same, IsL.mono hn _ _ iso⟩ (hk _ ?_ (List.pairwise_map.mpr hw))
    have := hp.map (·.2)
    rwa [zip_snd hlen] at this
  unfold sortedRD at h
  split at h
  · obtain ⟨v, rfl, a, us, rfl, hs, is⟩ := shL_one hv
    obtain ⟨rows, d, rfl, hd, hk⟩ := h
    exact go a us rows d (.inl (SqL.of hs)) is hd hk
  · obtain ⟨v, rfl, a, us, rfl, hs, is⟩ := shL_one hv
    obtain ⟨rows, d, rfl, hd, hk⟩ := h
    exact go a us rows d (.inr (r.sub.t hs)) is hd hk
  · exact h.elim
theorem e_srtl (ds : List D) (k : D → Prop) : sortedRD [.lst ds] k = ∃ (rows : List (List Int)) (d : Nat), ds = rows.map rowD ∧ (1 ≤ d ∧ d ≤ 3 ∧ ∀ r ∈ rows, r.length = d) ∧ ∀ out : List (List Int), out.Perm rows → out.Pairwise (fun x y => lex3 (key3 y) (key3 x) = false) → k (.lst (out.map rowD)) := rfl
theorem e_srtt (ds : List D) (k : D → Prop) : sortedRD [.tup ds] k = ∃ (rows : List (List Int)) (d : Nat), ds = rows.map rowD ∧ (1 ≤ d ∧ d ≤ 3 ∧ ∀ r ∈ rows, r.length = d) ∧ ∀ out : List (List Int), out.Perm rows → out.Pairwise (fun x y => lex3 (key3 y) (key3 x) = false) → k (.lst (out.map rowD)) := rfl
end DL
set_option Elab.async false
set_option linter.all false
set_option maxRecDepth 100000
set_option maxHeartbeats 2000000
set_option autoImplicit false
namespace K01
open PySem L2 DL
local macro_rules | `(tactic| walk_at "dl") => `(tactic| simp only [dSeq, dNext, dBreak, dCont, dDrop, dRet, dRetN, dIfS, dNever, dAsg, dPar, dPutK, dAppend, dExtend, dCall, dVar, dC, dOp, dChain, dUn, dB, dNot, dAnd, dOr, dAndV, dOrV, dNotV, dIf, dNil, dCons, dTup, dLst, dLstC, dCB, dInK, dGetK, dDicC, dNoPart, dPart, dSl, dBits, dRev,
  dgName, dgsNil, dgsCons, dgTup, dgSet, diSeq, diR1, e_diR2, e_r2, diEnum, startD, endD, finZ_d, finD, finC, List.take_length, dYes, wipeD, ix0, ix1, ix2, get_snoc, set_snoc, take_snoc,
  dOpC, dSlC, dListC, e_addC, e_mulC, e_loCl, e_loCt, e_loCs, e_wd, e_wc0, e_wcs, e_wsn, e_wc1, e_wc2, e_wl0, e_wl1, e_dl0, e_dl1, e_sl, e_st, e_ss, e_addi, e_adds, e_addt, e_addl, e_sub, e_muli, e_mult, e_mull, e_fdiv, e_mod, e_pow, e_neg, e_lt, e_le, e_gt, e_ge, e_eqi, e_eqs, e_eql, e_eqt, e_eqb, e_eqn, e_nei, e_nes, e_nel, e_net, e_neb, e_nen, e_isb, e_isn, e_inb, e_inn, e_in1, e_in2, e_in3, e_in4, e_in5,
  e_ixt, e_ixl, e_ixs, e_at0, e_at1, e_at2, e_at3, e_at4, e_at5, e_atl, e_keyi, e_keys, e_lenl, e_lent, e_lens, e_lend, e_maxi, e_mini, e_maxl, e_minl, e_sum, e_all, e_any, e_inti, e_intb, e_abs, e_tol, e_tot, e_tos, e_lol, e_lot, e_los, e_sll, e_slt, e_rvl, e_rvt, e_repr, e_isi, e_srtl, e_srtt,
  List.map_cons, List.map_nil, List.length_cons, List.length_nil, List.cons_append, List.nil_append, List.flatten_cons, List.flatten_nil, List.append_nil, List.replicate_succ, List.replicate_zero, List.getElem?_cons_zero, List.getElem?_cons_succ, List.set_cons_zero, List.set_cons_succ, Nat.reduceSub, Nat.reduceAdd, Int.reduceToNat, Int.reduceLE, Int.reduceLT, Int.reduceNeg, Nat.reduceLeDiff, Nat.reduceLT, Nat.zero_add, Option.some.injEq, Z.d.injEq, Z.c.injEq, D.bl.injEq, D.int.injEq, D.tup.injEq, D.lst.injEq,
  List.take_succ_cons, List.take_zero, exists_eq_left', exists_eq_left, true_and, and_true, if_true, Bool.not_true, Bool.not_false, Bool.false_eq_true, if_false, decide_true, decide_false])
/-! ### checks -/
def sp_is_int : DSpec := fun zs cs k => match zs with
  | [.d x] => pyOk x = true ∧ k (.d (.bl (isInt x))) cs
  | _ => False
theorem len_is_int : ∀ zs cs q, sp_is_int zs cs q → zs.length = (["value"] : List Str).length := fun zs cs q h => by
  unfold sp_is_int at h
  split at h
  · rfl
  · exact h.elim
def t_is_int : DS :=
  (dRet (dAndV (dCB (isiN "int") (dCons (dVar 0) (dCons (dC (.ty "int")) dNil))) (dNotV (dCB (isiN "bool") (dCons (dVar 0) (dCons (dC (.ty "bool")) dNil))))))
theorem rd_is_int : ∀ zs cs q, sp_is_int zs cs q → t_is_int (endD cs.length q) (startD ["value"] zs) cs := fun zs cs q h => by
  unfold sp_is_int at h
  split at h
  · rename_i x
    obtain ⟨hx, h⟩ := h
    unfold t_is_int
    walk_at "dl"
    rw [kit_int hx, kit_bool hx]
    simp only [Option.some.injEq, exists_eq_left']
    cases x <;> simp_all [isInt, tyD]
  · exact h.elim
def inRange (x : D) (lo hi : Int) : Bool := match x with
  | .int i => decide (lo ≤ i) && decide (i ≤ hi)
  | _ => false
def sp_in_range : DSpec := fun zs cs k => match zs with
  | [.d x, .d (.int lo), .d (.int hi)] => pyOk x = true ∧ k (.d (.bl (inRange x lo hi))) cs
  | _ => False
theorem len_in_range : ∀ zs cs q, sp_in_range zs cs q → zs.length = (["value", "low", "high"] : List Str).length := fun zs cs q h => by
  unfold sp_in_range at h
  split at h
  · rfl
  · exact h.elim
def t_in_range : DS :=
  (dRet (dAndV (dCall sp_is_int (dCons (dVar 0) dNil)) (dChain leD leD (dVar 1) (dVar 0) (dVar 2))))
theorem rd_in_range : ∀ zs cs q, sp_in_range zs cs q → t_in_range (endD cs.length q) (startD ["value", "low", "high"] zs) cs := fun zs cs q h => by
  unfold sp_in_range at h
  split at h
  · rename_i x lo hi
    obtain ⟨hx, h⟩ := h
    unfold t_in_range
    walk_at "dl"
    simp only [sp_is_int]
    refine ⟨hx, ?_⟩
    cases x <;> simp_all [isInt, inRange, e_le]
    rename_i i
    by_cases h1 : lo ≤ i
    · simp_all
    · simp_all
  · exact h.elim
def sp_require_cycle : DSpec := fun zs cs k => match zs with
  | [.d x] => (pyOk x = true ∧ inRange x 1 (10 ^ 30) = true) ∧ k (.d .non) cs
  | _ => False
theorem len_require_cycle : ∀ zs cs q, sp_require_cycle zs cs q → zs.length = (["value"] : List Str).length := fun zs cs q h => by
  unfold sp_require_cycle at h
  split at h
  · rfl
  · exact h.elim
def t_require_cycle : DS :=
  (dIfS (dNot (dB (dCall sp_in_range (dCons (dVar 0) (dCons (dC (.int 1)) (dCons (dC (.int 1000000000000000000000000000000)) dNil)))))) dNever dNext)
theorem rd_require_cycle : ∀ zs cs q, sp_require_cycle zs cs q → t_require_cycle (endD cs.length q) (startD ["value"] zs) cs := fun zs cs q h => by
  unfold sp_require_cycle at h
  split at h
  · rename_i x
    obtain ⟨⟨hx, h1⟩, h⟩ := h
    unfold t_require_cycle
    walk_at "dl"
    simp only [sp_in_range]
    refine ⟨hx, ?_⟩
    rw [show (10 ^ 30 : Int) = 1000000000000000000000000000000 from by decide] at h1
    simp_all
  · exact h.elim
def sp_require_moment : DSpec := fun zs cs k => match zs with
  | [.d (.int _)] => k (.d .non) cs
  | _ => False
theorem len_require_moment : ∀ zs cs q, sp_require_moment zs cs q → zs.length = (["value"] : List Str).length := fun zs cs q h => by
  unfold sp_require_moment at h
  split at h
  · rfl
  · exact h.elim
def t_require_moment : DS :=
  (dIfS (dNot (dB (dCall sp_is_int (dCons (dVar 0) dNil)))) dNever dNext)
theorem rd_require_moment : ∀ zs cs q, sp_require_moment zs cs q → t_require_moment (endD cs.length q) (startD ["value"] zs) cs := fun zs cs q h => by
  unfold sp_require_moment at h
  split at h
  · unfold t_require_moment
    walk_at "dl"
    simp only [sp_is_int]
    simp_all [isInt, pyOk]
  · exact h.elim
def isStretch (c : Int) (x : D) : Bool := match x with
  | .tup [a, b] => inRange a 0 (c - 1) && inRange b 1 c
  | _ => false
def sp_is_stretch : DSpec := fun zs cs k => match zs with
  | [.d (.int c), .d x] => pyOk x = true ∧ k (.d (.bl (isStretch c x))) cs
  | _ => False
theorem len_is_stretch : ∀ zs cs q, sp_is_stretch zs cs q → zs.length = (["cycle", "value"] : List Str).length := fun zs cs q h => by
  unfold sp_is_stretch at h
  split at h
  · rfl
  · exact h.elim
def t_is_stretch : DS :=
  (dSeq (dIfS (dOr (dNot (dB (dCB (isiN "tuple") (dCons (dVar 1) (dCons (dC (.ty "tuple")) dNil))))) (dB (dOp neUD (dCB lenD (dCons (dVar 1) dNil)) (dC (.int 2))))) (dRet (dC (.bl false))) dNext)
  (dRet (dAndV (dCall sp_in_range (dCons (dOp ixD (dVar 1) (dC (.int 0))) (dCons (dC (.int 0)) (dCons (dOp subD (dVar 0) (dC (.int 1))) dNil)))) (dCall sp_in_range (dCons (dOp ixD (dVar 1) (dC (.int 1))) (dCons (dC (.int 1)) (dCons (dVar 0) dNil)))))))
theorem rd_is_stretch : ∀ zs cs q, sp_is_stretch zs cs q → t_is_stretch (endD cs.length q) (startD ["cycle", "value"] zs) cs := fun zs cs q h => by
  unfold sp_is_stretch at h
  split at h
  · rename_i c x
    obtain ⟨hx, h⟩ := h
    unfold t_is_stretch
    walk_at "dl"
    simp only [kit_tup hx, Option.some.injEq, exists_eq_left']
    have ht : isTup x = false → isStretch c x = false := fun e => by
      cases x <;> first | rfl | exact Bool.noConfusion e
    cases e : isTup x with
    | false =>
      rw [ht e] at h
      simp_all
    | true =>
      cases x with
      | tup ds =>
        match ds, hx, h with
        | [a, b], hx, h =>
          have o := pyOk_mem (ds := [a, b]) hx
          have o1 := o a (by simp)
          have o2 := o b (by simp)
          walk_at "dl"
          simp only [sp_in_range]
          simp only [isStretch] at h
          cases q1 : inRange a 0 (c - 1) <;> simp_all [finZ_self]
        | [], hx, h => simp_all [isStretch, e_lent, e_nei]
        | [a], hx, h => simp_all [isStretch, e_lent, e_nei]
        | a :: b :: d :: r, hx, h =>
          have n : ¬ ((r.length : Int) + 1 + 1 + 1 = 2) := by omega
          simp_all [isStretch, e_lent, e_nei]
      | _ => exact Bool.noConfusion e
  · exact h.elim
/-! ### signals -/
def areGreens (c : Int) (x : D) : Bool := match x with
  | .tup ds => decide (1 ≤ ds.length) && decide (ds.length ≤ 6) && ds.all (isStretch c)
  | _ => false
def sp_are_greens : DSpec := fun zs cs k => match zs with
  | [.d (.int c), .d x] => pyOk x = true ∧ k (.d (.bl (areGreens c x))) cs
  | _ => False
theorem len_are_greens : ∀ zs cs q, sp_are_greens zs cs q → zs.length = (["cycle", "value"] : List Str).length := fun zs cs q h => by
  unfold sp_are_greens at h
  split at h
  · rfl
  · exact h.elim
def t_are_greens : DS :=
  (dSeq (dIfS (dOr (dNot (dB (dCB (isiN "tuple") (dCons (dVar 1) (dCons (dC (.ty "tuple")) dNil))))) (dNot (dB (dChain leD leD (dC (.int 1)) (dCB lenD (dCons (dVar 1) dNil)) (dC (.int 6)))))) (dRet (dC (.bl false))) dNext)
  (dRet (dCB allD (dCons (dLc (diSeq (dVar 1)) (dgName 2) dYes (dCall sp_is_stretch (dCons (dVar 0) (dCons (dVar 2) dNil))) [2]) dNil))))
theorem rd_are_greens : ∀ zs cs q, sp_are_greens zs cs q → t_are_greens (endD cs.length q) (startD ["cycle", "value", "one"] zs) cs := fun zs cs q h => by
  unfold sp_are_greens at h
  split at h
  rotate_left
  · exact h.elim
  rename_i c x
  obtain ⟨hx, h⟩ := h
  unfold t_are_greens
  walk_at "dl"
  simp only [kit_tup hx, Option.some.injEq, exists_eq_left']
  have ht : isTup x = false → areGreens c x = false := fun e => by
    cases x <;> first | rfl | exact Bool.noConfusion e
  cases e : isTup x with
  | false =>
    rw [ht e] at h
    simp_all
  | true =>
    cases x with
    | tup ds =>
      have go : 1 ≤ ds.length → ds.length ≤ 6 → ∀ K : Z → Cs → Prop, K (.d (.lst ((ds.map (isStretch c)).map D.bl))) cs → dLcG finD (diSeq (dVar 1)) (dgName 2) dYes (dCall sp_is_stretch (dCons (dVar 0) (dCons (dVar 2) dNil))) [2] (startD ["cycle", "value", "one"] [.d (.int c), .d (.tup ds)]) cs K := fun h1 h2 K hK => by
        refine dLc_mk ds yes cs (fun K h => by walk_at "dl"; exact h) (fun d => .bl (isStretch c d)) (by omega) (fun i d acc hd P hP => ?_) ?_ (fun _ => trivial)
        · walk_at "dl"
          simp only [sp_is_stretch]
          exact ⟨pyOk_mem hx d (List.mem_of_getElem? hd), hP⟩
        · rw [map_bls _ (isStretch c) ds fun _ _ => rfl]
          exact hK
      simp only [areGreens] at h
      walk_at "dl"
      by_cases h1 : 1 ≤ ds.length
      · by_cases h2 : ds.length ≤ 6
        · have g1 : (1 : Int) ≤ (ds.length : Int) := by omega
          have g2 : (ds.length : Int) ≤ 6 := by omega
          simp only [g1, g2, h1, h2, decide_true, Bool.true_and] at h ⊢
          walk_at "dl"
          refine go h1 h2 _ ?_
          walk_at "dl"
          refine ⟨_, rfl, ?_⟩
          rw [List.all_map] 
          simpa using h
        · have g1 : (1 : Int) ≤ (ds.length : Int) := by omega
          have g2 : ¬ (ds.length : Int) ≤ 6 := by omega
          simp_all
      · have g1 : ¬ (1 : Int) ≤ (ds.length : Int) := by omega
        simp_all
    | _ => exact Bool.noConfusion e
end K01
set_option Elab.async false
set_option linter.all false
set_option maxRecDepth 100000
set_option maxHeartbeats 2000000
set_option autoImplicit false
namespace K01
open PySem L2 DL
local macro_rules | `(tactic| walk_at "dl") => `(tactic| simp only [dSeq, dNext, dBreak, dCont, dDrop, dRet, dRetN, dIfS, dNever, dAsg, dPar, dPutK, dAppend, dExtend, dCall, dVar, dC, dOp, dChain, dUn, dB, dNot, dAnd, dOr, dAndV, dOrV, dNotV, dIf, dNil, dCons, dTup, dLst, dLstC, dCB, dInK, dGetK, dDicC, dNoPart, dPart, dSl, dBits, dRev,
  dgName, dgsNil, dgsCons, dgTup, dgSet, diSeq, diR1, e_diR2, e_r2, diEnum, startD, endD, finZ_d, finD, finC, List.take_length, dYes, wipeD, ix0, ix1, ix2, get_snoc, set_snoc, take_snoc,
  dOpC, dSlC, dListC, e_addC, e_mulC, e_loCl, e_loCt, e_loCs, e_wd, e_wc0, e_wcs, e_wsn, e_wc1, e_wc2, e_wl0, e_wl1, e_dl0, e_dl1, e_sl, e_st, e_ss, e_addi, e_adds, e_addt, e_addl, e_sub, e_muli, e_mult, e_mull, e_fdiv, e_mod, e_pow, e_neg, e_lt, e_le, e_gt, e_ge, e_eqi, e_eqs, e_eql, e_eqt, e_eqb, e_eqn, e_nei, e_nes, e_nel, e_net, e_neb, e_nen, e_isb, e_isn, e_inb, e_inn, e_in1, e_in2, e_in3, e_in4, e_in5,
  e_ixt, e_ixl, e_ixs, e_at0, e_at1, e_at2, e_at3, e_at4, e_at5, e_atl, e_keyi, e_keys, e_lenl, e_lent, e_lens, e_lend, e_maxi, e_mini, e_maxl, e_minl, e_sum, e_all, e_any, e_inti, e_intb, e_abs, e_tol, e_tot, e_tos, e_lol, e_lot, e_los, e_sll, e_slt, e_rvl, e_rvt, e_repr, e_isi, e_srtl, e_srtt,
  List.map_cons, List.map_nil, List.length_cons, List.length_nil, List.cons_append, List.nil_append, List.flatten_cons, List.flatten_nil, List.append_nil, List.replicate_succ, List.replicate_zero, List.getElem?_cons_zero, List.getElem?_cons_succ, List.set_cons_zero, List.set_cons_succ, Nat.reduceSub, Nat.reduceAdd, Int.reduceToNat, Int.reduceLE, Int.reduceLT, Int.reduceNeg, Nat.reduceLeDiff, Nat.reduceLT, Nat.zero_add, Option.some.injEq, Z.d.injEq, Z.c.injEq, D.bl.injEq, D.int.injEq, D.tup.injEq, D.lst.injEq,
  List.take_succ_cons, List.take_zero, exists_eq_left', exists_eq_left, true_and, and_true, if_true, Bool.not_true, Bool.not_false, Bool.false_eq_true, if_false, decide_true, decide_false])
def prD (g : Int × Int) : D := .tup [.int g.1, .int g.2]
def grD (gs : List (Int × Int)) : List D := gs.map prD
theorem ok_prD (g : Int × Int) : pyOk (prD g) = true := rfl
theorem ok_grD (gs : List (Int × Int)) : pyOk (.tup (grD gs)) = true := pyOk_of_mem fun d hd => by
  obtain ⟨g, _, rfl⟩ := List.mem_map.mp hd
  rfl
theorem len_grD (gs : List (Int × Int)) : (grD gs).length = gs.length := List.length_map _
theorem get_grD {gs : List (Int × Int)} {i : Nat} {d : D} (h : (grD gs)[i]? = some d) : ∃ g, gs[i]? = some g ∧ d = prD g := by
  unfold grD at h
  rw [List.getElem?_map] at h
  cases q : gs[i]? with
  | none => rw [q] at h; cases h
  | some g =>
    rw [q] at h
    exact ⟨g, rfl, (Option.some.inj h).symm⟩
def StOk (c : Int) (g : Int × Int) : Prop := 0 ≤ g.1 ∧ g.1 < c ∧ 1 ≤ g.2 ∧ g.2 ≤ c
theorem str_ok {c : Int} {g : Int × Int} (h : StOk c g) : isStretch c (prD g) = true := by
  obtain ⟨a, b, d, e⟩ := h
  have e1 : g.1 ≤ c - 1 := by omega
  simp only [isStretch, prD, inRange, a, e1, d, e, decide_true, Bool.and_self]
structure GrOk (c : Int) (gs : List (Int × Int)) : Prop where
  lo : 1 ≤ gs.length
  hi : gs.length ≤ 6
  st : ∀ g ∈ gs, StOk c g
theorem areG_ok {c : Int} {gs : List (Int × Int)} (h : GrOk c gs) : areGreens c (.tup (grD gs)) = true := by
  have h1 := h.lo
  have h2 := h.hi
  have h3 : (grD gs).all (isStretch c) = true := List.all_eq_true.mpr fun d hd => by
    obtain ⟨g, hg, rfl⟩ := List.mem_map.mp hd
    exact str_ok (h.st g hg)
  simp only [areGreens, len_grD, h1, h2, h3, decide_true, Bool.and_self]
def sp_is_signal : DSpec := fun zs cs k => match zs with
  | [.d x, .d (.int c)] => (pyOk x = true ∧ 1 ≤ c ∧ c ≤ 10 ^ 30) ∧ k (.d (.bl (areGreens c x))) cs
  | _ => False
theorem len_is_signal : ∀ zs cs q, sp_is_signal zs cs q → zs.length = (["value", "cycle"] : List Str).length := fun zs cs q h => by
  unfold sp_is_signal at h
  split at h
  · rfl
  · exact h.elim
def t_is_signal : DS :=
  (dSeq (dDrop (dCall sp_require_cycle (dCons (dVar 1) dNil)))
  (dRet (dCall sp_are_greens (dCons (dVar 1) (dCons (dVar 0) dNil)))))
theorem rd_is_signal : ∀ zs cs q, sp_is_signal zs cs q → t_is_signal (endD cs.length q) (startD ["value", "cycle"] zs) cs := fun zs cs q h => by
  unfold sp_is_signal at h
  split at h
  rotate_left
  · exact h.elim
  rename_i x c
  obtain ⟨⟨hx, h1, h2⟩, h⟩ := h
  unfold t_is_signal
  walk_at "dl"
  simp only [sp_require_cycle, sp_are_greens]
  refine ⟨⟨rfl, ?_⟩, hx, ?_⟩
  · simp only [inRange, h1, h2, decide_true, Bool.and_self]
  · simp_all [finZ_self]
def sp_require_signal : DSpec := fun zs cs k => match zs with
  | [.d (.int c), .d x] => (pyOk x = true ∧ 1 ≤ c ∧ c ≤ 10 ^ 30 ∧ areGreens c x = true) ∧ k (.d .non) cs
  | _ => False
theorem len_require_signal : ∀ zs cs q, sp_require_signal zs cs q → zs.length = (["cycle", "value"] : List Str).length := fun zs cs q h => by
  unfold sp_require_signal at h
  split at h
  · rfl
  · exact h.elim
def t_require_signal : DS :=
  (dSeq (dDrop (dCall sp_require_cycle (dCons (dVar 0) dNil)))
  (dIfS (dNot (dB (dCall sp_are_greens (dCons (dVar 0) (dCons (dVar 1) dNil))))) dNever dNext))
theorem rd_require_signal : ∀ zs cs q, sp_require_signal zs cs q → t_require_signal (endD cs.length q) (startD ["cycle", "value"] zs) cs := fun zs cs q h => by
  unfold sp_require_signal at h
  split at h
  rotate_left
  · exact h.elim
  rename_i c x
  obtain ⟨⟨hx, h1, h2, h3⟩, h⟩ := h
  unfold t_require_signal
  walk_at "dl"
  simp only [sp_require_cycle, sp_are_greens]
  refine ⟨⟨rfl, ?_⟩, hx, ?_⟩
  · simp only [inRange, h1, h2, decide_true, Bool.and_self]
  · simp_all [finZ_self]
def litB (c : Int) (gs : List (Int × Int)) (t : Int) : Bool := gs.any fun g => decide ((t - g.1) % c < g.2)
def sp_green_at : DSpec := fun zs cs k => match zs with
  | [.d (.int c), .d (.tup xs), .d (.int t)] => ∃ gs, xs = grD gs ∧ (gs.length ≤ 1000 ∧ 0 < c ∧ c ≤ 10 ^ 30) ∧ k (.d (.bl (litB c gs t))) cs
  | _ => False
theorem len_green_at : ∀ zs cs q, sp_green_at zs cs q → zs.length = (["cycle", "signal", "moment"] : List Str).length := fun zs cs q h => by
  unfold sp_green_at at h
  split at h
  · rfl
  · exact h.elim
def t_green_at : DS :=
  (dRet (dCB anyD (dCons (dLc (diSeq (dVar 1)) (dgTup 2 (dgsCons (dgName 3) (dgsCons (dgName 4) dgsNil))) dYes (dOp ltD (dOp modD (dOp subD (dVar 2) (dVar 3)) (dVar 0)) (dVar 4)) [3, 4]) dNil)))
theorem rd_green_at : ∀ zs cs q, sp_green_at zs cs q → t_green_at (endD cs.length q) (startD ["cycle", "signal", "moment", "offset", "length"] zs) cs := fun zs cs q h => by
  unfold sp_green_at at h
  split at h
  rotate_left
  · exact h.elim
  rename_i c xs t
  obtain ⟨gs, rfl, ⟨h1, h2, h3⟩, h⟩ := h
  unfold t_green_at
  walk_at "dl"
  refine dLc_mk (grD gs) yes cs (fun K h => by walk_at "dl"; exact h) (fun d => match d with
    | .tup [.int a, .int b] => .bl (decide ((t - a) % c < b))
    | _ => .non) (by rw [len_grD]; omega) (fun i d acc hd P hP => ?_) ?_ (fun _ => trivial)
  · obtain ⟨g, hg, rfl⟩ := get_grD hd
    simp only [prD] at hP ⊢
    walk_at "dl"
    exact ⟨h2, hP⟩
  · walk_at "dl"
    refine ⟨gs.map fun g => decide ((t - g.1) % c < g.2), ?_, ?_⟩
    · rw [grD, List.map_map, List.map_map]
      rfl
    · rw [List.any_map]
      exact h
def sp_is_green : DSpec := fun zs cs k => match zs with
  | [.d (.int c), .d (.tup xs), .d (.int t)] => ∃ gs, xs = grD gs ∧ (GrOk c gs ∧ 1 ≤ c ∧ c ≤ 10 ^ 30) ∧ k (.d (.bl (litB c gs t))) cs
  | _ => False
theorem len_is_green : ∀ zs cs q, sp_is_green zs cs q → zs.length = (["cycle", "signal", "moment"] : List Str).length := fun zs cs q h => by
  unfold sp_is_green at h
  split at h
  · rfl
  · exact h.elim
def t_is_green : DS :=
  (dSeq (dDrop (dCall sp_require_signal (dCons (dVar 0) (dCons (dVar 1) dNil))))
  (dSeq (dDrop (dCall sp_require_moment (dCons (dVar 2) dNil)))
  (dRet (dCall sp_green_at (dCons (dVar 0) (dCons (dVar 1) (dCons (dVar 2) dNil)))))))
theorem rd_is_green : ∀ zs cs q, sp_is_green zs cs q → t_is_green (endD cs.length q) (startD ["cycle", "signal", "moment"] zs) cs := fun zs cs q h => by
  unfold sp_is_green at h
  split at h
  rotate_left
  · exact h.elim
  rename_i c xs t
  obtain ⟨gs, rfl, ⟨h1, h2, h3⟩, h⟩ := h
  unfold t_is_green
  walk_at "dl"
  simp only [sp_require_signal, sp_require_moment, sp_green_at]
  refine ⟨⟨ok_grD gs, h2, h3, areG_ok h1⟩, gs, rfl, ⟨Nat.le_trans h1.hi (by decide), by omega, h3⟩, ?_⟩
  exact fz _ _ _ _ rfl h
end K01
set_option Elab.async false
set_option linter.all false
set_option maxRecDepth 100000
set_option maxHeartbeats 2000000
set_option autoImplicit false
namespace K01
open PySem L2 DL
local macro_rules | `(tactic| walk_at "dl") => `(tactic| simp only [dSeq, dNext, dBreak, dCont, dDrop, dRet, dRetN, dIfS, dNever, dAsg, dPar, dPutK, dAppend, dExtend, dCall, dVar, dC, dOp, dChain, dUn, dB, dNot, dAnd, dOr, dAndV, dOrV, dNotV, dIf, dNil, dCons, dTup, dLst, dLstC, dCB, dInK, dGetK, dDicC, dNoPart, dPart, dSl, dBits, dRev,
  dgName, dgsNil, dgsCons, dgTup, dgSet, diSeq, diR1, e_diR2, e_r2, diEnum, startD, endD, finZ_d, finD, finC, List.take_length, dYes, wipeD, ix0, ix1, ix2, get_snoc, set_snoc, take_snoc,
  dOpC, dSlC, dListC, e_addC, e_mulC, e_loCl, e_loCt, e_loCs, e_wd, e_wc0, e_wcs, e_wsn, e_wc1, e_wc2, e_wl0, e_wl1, e_dl0, e_dl1, e_sl, e_st, e_ss, e_addi, e_adds, e_addt, e_addl, e_sub, e_muli, e_mult, e_mull, e_fdiv, e_mod, e_pow, e_neg, e_lt, e_le, e_gt, e_ge, e_eqi, e_eqs, e_eql, e_eqt, e_eqb, e_eqn, e_nei, e_nes, e_nel, e_net, e_neb, e_nen, e_isb, e_isn, e_inb, e_inn, e_in1, e_in2, e_in3, e_in4, e_in5,
  e_ixt, e_ixl, e_ixs, e_at0, e_at1, e_at2, e_at3, e_at4, e_at5, e_atl, e_keyi, e_keys, e_lenl, e_lent, e_lens, e_lend, e_maxi, e_mini, e_maxl, e_minl, e_sum, e_all, e_any, e_inti, e_intb, e_abs, e_tol, e_tot, e_tos, e_lol, e_lot, e_los, e_sll, e_slt, e_rvl, e_rvt, e_repr, e_isi, e_srtl, e_srtt,
  List.map_cons, List.map_nil, List.length_cons, List.length_nil, List.cons_append, List.nil_append, List.flatten_cons, List.flatten_nil, List.append_nil, List.replicate_succ, List.replicate_zero, List.getElem?_cons_zero, List.getElem?_cons_succ, List.set_cons_zero, List.set_cons_succ, Nat.reduceSub, Nat.reduceAdd, Int.reduceToNat, Int.reduceLE, Int.reduceLT, Int.reduceNeg, Nat.reduceLeDiff, Nat.reduceLT, Nat.zero_add, Option.some.injEq, Z.d.injEq, Z.c.injEq, D.bl.injEq, D.int.injEq, D.tup.injEq, D.lst.injEq,
  List.take_succ_cons, List.take_zero, exists_eq_left', exists_eq_left, true_and, and_true, if_true, Bool.not_true, Bool.not_false, Bool.false_eq_true, if_false, decide_true, decide_false])
/-! ### the pond -/
def Pond (L : Nat) (x : D) : Prop := ∃ d m c : Int, x = .lst [.int d, .int m, .int c] ∧ 0 ≤ d ∧ 0 ≤ m ∧ m < 10 ^ 50 ∧ 0 ≤ c ∧ c ≤ (L : Int)
theorem Pond.le {L M : Nat} {x : D} (h : Pond L x) (l : L ≤ M) : Pond M x :=
  let ⟨d, m, c, a, b, e, f, g, i⟩ := h
  ⟨d, m, c, a, b, e, f, g, by omega⟩
def sp_l_pond : DSpec := fun zs cs k => match zs with
  | [.d (.scr ns), .d (.int j)] => (0 ≤ j ∧ j < 1000) ∧ ∀ x, Pond 0 x → k (.c cs.length) (cs ++ [x])
  | _ => False
theorem len_l_pond : ∀ zs cs q, sp_l_pond zs cs q → zs.length = (["_law_script", "_law_k"] : List Str).length := fun zs cs q h => by
  unfold sp_l_pond at h
  split at h
  · rfl
  · exact h.elim
def t_l_pond : DS :=
  (dSeq (dAsg (dC (.int 0)) (dgName 2))
  (dSeq (dIfS (dB (dOp ltD (dVar 1) (dCB lenD (dCons (dVar 0) dNil)))) (dAsg (dOp ixD (dVar 0) (dVar 1)) (dgName 2)) dNext)
  (dLock (dRet (dLstC (dCons (dCB maxD (dCons (dC (.int 0)) (dCons (dOp subD (dVar 2) (dOp powD (dC (.int 10)) (dC (.int 18)))) dNil))) (dCons (dOp addD (dOp modD (dVar 2) (dOp addD (dOp powD (dC (.int 10)) (dC (.int 38))) (dC (.int 133)))) (dOp mulD (dC (.int 15487469)) (dVar 1))) (dCons (dC (.int 0)) dNil))))))))
theorem rd_l_pond : ∀ zs cs q, sp_l_pond zs cs q → t_l_pond (endD cs.length q) (startD ["_law_script", "_law_k", "_law_cell"] zs) cs := fun zs cs q h => by
  unfold sp_l_pond at h
  split at h
  rotate_left
  · exact h.elim
  rename_i ns j
  obtain ⟨⟨h1, h2⟩, h⟩ := h
  have fin : ∀ c : Int, FinZ cs.length q (.c cs.length) (cs ++ [.lst [.int (max 0 (c - 10 ^ 18)), .int (c % (10 ^ 38 + 133) + 15487469 * j), .int 0]]) := fun c => by
    refine finZ_new (Nat.le_refl _) (get_snoc _ _) ?_
    rw [List.take_left]
    refine h _ ⟨_, _, _, rfl, Int.le_max_left _ _, ?_, ?_, by decide, by decide⟩
    · have := Int.emod_nonneg c (show (10 ^ 38 + 133 : Int) ≠ 0 from by decide)
      omega
    · have := Int.emod_lt_of_pos c (show (0 : Int) < 10 ^ 38 + 133 from by decide)
      omega
  have s10 : Sm 10 := Sm.of (by decide) (by decide)
  have s1 : Sm 15487469 := Sm.of (by decide) (by decide)
  have s2 : Sm j := Sm.of (by omega) (by omega)
  unfold t_l_pond dLock
  by_cases hc : j < (ns.length : Int)
  · obtain ⟨c, e⟩ : ∃ c, atI ns j = some c := ⟨_, at_int h1 (List.getElem?_eq_getElem (by omega))⟩
    walk_at "dl"
    simp only [hc, decide_true, if_true]
    refine ⟨c, e, ?_⟩
    refine ⟨s10, s10, by decide, ⟨s1, s2⟩, ?_⟩
    exact fin c
  · walk_at "dl"
    simp only [hc, decide_false, Bool.false_eq_true, if_false]
    refine ⟨s10, s10, by decide, ⟨s1, s2⟩, ?_⟩
    exact fin 0
def sp_l_fish_1 : DSpec := fun zs cs k => match zs, cs with
  | [.c 0, .d (.int b)], x :: rest => ∃ L, Pond L x ∧ (0 < b ∧ b ≤ 10 ^ 30 ∧ L ≤ 10 ^ 12) ∧ ∀ r x', 0 ≤ r → r < b → Pond (L + 1) x' → k (.d (.int r)) (x' :: rest)
  | _, _ => False
theorem len_l_fish_1 : ∀ zs cs q, sp_l_fish_1 zs cs q → zs.length = (["_law_pond_here", "_law_bound"] : List Str).length := fun zs cs q h => by
  unfold sp_l_fish_1 at h
  split at h
  · rfl
  · exact h.elim
def t_l_fish_1 : DS :=
  (dSeq (dIfS (dB (dOp gtD (dVar 1) (dOp powD (dC (.int 10)) (dC (.int 30))))) dNever dNext)
  (dSeq (dIfS (dB (dOp gtD (dOp ixD (dVar 0) (dC (.int 0))) (dC (.int 0)))) (dSeq (dAsg (dOp modD (dOp ixD (dVar 0) (dC (.int 0))) (dVar 1)) (dgName 2))
  (dSeq (dAsg (dOp fdivD (dOp ixD (dVar 0) (dC (.int 0))) (dVar 1)) (dgSet (dVar 0) (dC (.int 0))))
  (dRet (dVar 2)))) dNext)
  (dSeq (dAsg (dOp addD (dOp ixD (dVar 0) (dC (.int 2))) (dC (.int 1))) (dgSet (dVar 0) (dC (.int 2))))
  (dSeq (dAsg (dOp modD (dOp powD (dOp addD (dOp ixD (dVar 0) (dC (.int 1))) (dOp mulD (dC (.int 49979687)) (dOp ixD (dVar 0) (dC (.int 2))))) (dC (.int 3))) (dOp addD (dOp powD (dC (.int 10)) (dC (.int 42))) (dC (.int 63)))) (dgName 4))
  (dSeq (dAsg (dOp modD (dOp powD (dOp addD (dVar 4) (dOp mulD (dC (.int 67867967)) (dOp ixD (dVar 0) (dC (.int 2))))) (dC (.int 3))) (dOp addD (dOp powD (dC (.int 10)) (dC (.int 44))) (dC (.int 57)))) (dgName 4))
  (dRet (dOp modD (dOp fdivD (dVar 4) (dC (.int 786433))) (dVar 1))))))))
theorem rd_l_fish_1 : ∀ zs cs q, sp_l_fish_1 zs cs q → t_l_fish_1 (endD cs.length q) (startD ["_law_pond_here", "_law_bound", "_law_found", "_law_turn", "_law_mixed"] zs) cs := fun zs cs q h => by
  unfold sp_l_fish_1 at h
  split at h
  rotate_left
  · exact h.elim
  rename_i b x rest
  obtain ⟨L, ⟨d, m, c, rfl, d0, m0, m1, c0, c1⟩, ⟨b0, b1, hL⟩, h⟩ := h
  unfold t_l_fish_1
  walk_at "dl"
  have s10 : Sm 10 := Sm.of (by decide) (by decide)
  have s1 : Sm 49979687 := Sm.of (by decide) (by decide)
  have s2 : Sm 67867967 := Sm.of (by decide) (by decide)
  have s3 : Sm (c + 1) := Sm.of (by omega) (by omega)
  have s4 : Sm (m + 49979687 * (c + 1)) := Sm.of (by omega) (by omega)
  refine ⟨s10, ?_⟩
  rw [if_neg (by simpa using b1)]
  by_cases hd : 0 < d
  · rw [if_pos (by simpa using hd)]
    exact ⟨b0, Dv.of b0 (by omega), h _ _ (Int.emod_nonneg _ (by omega)) (Int.emod_lt_of_pos _ b0) ⟨_, _, _, rfl, Int.ediv_nonneg d0 (by omega), m0, m1, c0, by omega⟩⟩
  · rw [if_neg (by simpa using hd)]
    refine ⟨⟨s1, s3⟩, s4, s10, by decide, ⟨s2, s3⟩, ?_, s10, by decide, Dv.of (by decide) (by decide), b0, h _ _ (Int.emod_nonneg _ (by omega)) (Int.emod_lt_of_pos _ b0) ⟨_, _, _, rfl, d0, m0, m1, by omega, by omega⟩⟩
    have g1 := Int.emod_nonneg ((m + 49979687 * (c + 1)) ^ 3) (show (10 ^ 42 + 63 : Int) ≠ 0 from by decide)
    have g2 := Int.emod_lt_of_pos ((m + 49979687 * (c + 1)) ^ 3) (show (0 : Int) < 10 ^ 42 + 63 from by decide)
    generalize (m + 49979687 * (c + 1)) ^ 3 % (10 ^ 42 + 63) = y at g1 g2
    exact Sm.of (by omega) (by omega)
theorem bits_le {b : Int} (h0 : 0 < b) (h : b ≤ 10 ^ 100) : Builtin.Int.intBits b ≤ 340 := by
  unfold Builtin.Int.intBits
  have h2 : b.natAbs < 2 ^ 340 := Nat.lt_of_le_of_lt (show b.natAbs ≤ 10 ^ 100 by omega) (by decide +kernel)
  have h3 := lt_pow_log2 (k := 340) (by decide) h2
  split <;> omega
def sp_l_fish : DSpec := fun zs cs k => match zs, cs with
  | [.c 0, .d (.int b)], x :: rest => ∃ L, Pond L x ∧ (0 < b ∧ b ≤ 10 ^ 100 ∧ L ≤ 10 ^ 11) ∧ ∀ r x', 0 ≤ r → r < b → Pond (L + 10) x' → k (.d (.int r)) (x' :: rest)
  | _, _ => False
theorem len_l_fish : ∀ zs cs q, sp_l_fish zs cs q → zs.length = (["_law_pond_here", "_law_bound"] : List Str).length := fun zs cs q h => by
  unfold sp_l_fish at h
  split at h
  · rfl
  · exact h.elim
def t_l_fish : DS :=
  (dSeq (dIfS (dB (dOp gtD (dVar 1) (dOp powD (dC (.int 10)) (dC (.int 30))))) (dSeq (dAsg (dC (.int 0)) (dgName 2))
  (dSeq (dFor (diR1 (dOp addD (dC (.int 1)) (dOp fdivD (dBits (dVar 1)) (dC (.int 90))))) (dgName 3) (dAsg (dOp addD (dOp mulD (dVar 2) (dOp powD (dC (.int 10)) (dC (.int 30)))) (dCall sp_l_fish_1 (dCons (dVar 0) (dCons (dOp powD (dC (.int 10)) (dC (.int 30))) dNil)))) (dgName 2)))
  (dRet (dOp modD (dVar 2) (dVar 1))))) dNext)
  (dSeq (dIfS (dB (dOp gtD (dOp ixD (dVar 0) (dC (.int 0))) (dC (.int 0)))) (dSeq (dAsg (dOp modD (dOp ixD (dVar 0) (dC (.int 0))) (dVar 1)) (dgName 2))
  (dSeq (dAsg (dOp fdivD (dOp ixD (dVar 0) (dC (.int 0))) (dVar 1)) (dgSet (dVar 0) (dC (.int 0))))
  (dRet (dVar 2)))) dNext)
  (dSeq (dAsg (dOp addD (dOp ixD (dVar 0) (dC (.int 2))) (dC (.int 1))) (dgSet (dVar 0) (dC (.int 2))))
  (dSeq (dAsg (dOp modD (dOp powD (dOp addD (dOp ixD (dVar 0) (dC (.int 1))) (dOp mulD (dC (.int 49979687)) (dOp ixD (dVar 0) (dC (.int 2))))) (dC (.int 3))) (dOp addD (dOp powD (dC (.int 10)) (dC (.int 42))) (dC (.int 63)))) (dgName 4))
  (dSeq (dAsg (dOp modD (dOp powD (dOp addD (dVar 4) (dOp mulD (dC (.int 67867967)) (dOp ixD (dVar 0) (dC (.int 2))))) (dC (.int 3))) (dOp addD (dOp powD (dC (.int 10)) (dC (.int 44))) (dC (.int 57)))) (dgName 4))
  (dRet (dOp modD (dOp fdivD (dVar 4) (dC (.int 786433))) (dVar 1))))))))
theorem rd_l_fish : ∀ zs cs q, sp_l_fish zs cs q → t_l_fish (endD cs.length q) (startD ["_law_pond_here", "_law_bound", "_law_found", "_law_turn", "_law_mixed"] zs) cs := fun zs cs q h => by
  unfold sp_l_fish at h
  split at h
  rotate_left
  · exact h.elim
  rename_i b x rest
  obtain ⟨L, hP, ⟨b0, b1, hL⟩, h⟩ := h
  obtain ⟨d, m, c, rfl, d0, m0, m1, c0, c1⟩ := id hP
  have s10 : Sm 10 := Sm.of (by decide) (by decide)
  by_cases hb : b ≤ 10 ^ 30
  · have key := rd_l_fish_1 [.c 0, .d (.int b)] (.lst [.int d, .int m, .int c] :: rest) q ⟨L, hP, ⟨b0, hb, by omega⟩, fun r x' r0 r1 p => h r x' r0 r1 (p.le (by omega))⟩
    revert key
    have e : decide (10 ^ 30 < b) = false := decide_eq_false (by omega)
    unfold t_l_fish_1 t_l_fish
    walk_at "dl"
    simp only [e, Bool.false_eq_true, if_false]
    exact id
  · have s10 : Sm 10 := Sm.of (by decide) (by decide)
    have sp30 : Sm (10 ^ 30) := Sm.of (by decide) (by decide)
    have bl := bits_le b0 b1
    unfold t_l_fish
    walk_at "dl"
    refine ⟨s10, ?_⟩
    rw [if_pos (by simpa using hb)]
    refine dFor_mk (rgD 0 (1 + (Builtin.Int.intBits b : Int) / 90).toNat) yes (.lst [.int d, .int m, .int c] :: rest) (fun K h => ?_) (fun i en cs => ∃ (f : Int) (x : D) (o3 o4 : Option Z), en = [some (.c 0), some (.d (.int b)), some (.d (.int f)), o3, o4] ∧ cs = x :: rest ∧ 0 ≤ f ∧ f < (10 ^ 30) ^ i ∧ Pond (L + i) x) ?_ (fun i d en cs hd hI => ?_) (fun en cs hI => ?_) (fun _ _ _ _ => trivial)
    · walk_at "dl"
      exact ⟨Dv.of (by decide) (by decide), ⟨by omega, by omega⟩, h⟩
    · exact ⟨0, _, _, _, rfl, rfl, by decide, by decide, hP⟩
    · obtain ⟨hi, rfl⟩ := rgD_get hd
      obtain ⟨f, x, o3, o4, rfl, rfl, f0, f1, hp⟩ := hI
      have hi2 : i ≤ 4 := by omega
      have f2 : f < 10 ^ 120 := Int.lt_of_lt_of_le f1 (by
        have : i = 0 ∨ i = 1 ∨ i = 2 ∨ i = 3 ∨ i = 4 := by omega
        rcases this with rfl | rfl | rfl | rfl | rfl <;> decide)
      walk_at "dl"
      refine ⟨s10, ⟨Sm.of (by omega) (by omega), sp30⟩, s10, ?_⟩
      simp only [sp_l_fish_1]
      refine ⟨L + i, hp, ⟨by decide, by decide, by omega⟩, fun r x' r0 r1 p => ?_⟩
      refine .inl ⟨_, _, _, _, rfl, rfl, by omega, ?_, p⟩
      rw [show (10 ^ 30 : Int) ^ (i + 1) = (10 ^ 30) ^ i * 10 ^ 30 from Int.pow_succ _ _]
      generalize (10 ^ 30 : Int) ^ i = y at f1 ⊢
      omega
    · obtain ⟨f, x, o3, o4, rfl, rfl, f0, f1, hp⟩ := hI
      walk_at "dl"
      rw [rgD_len] at hp
      exact ⟨b0, h _ _ (Int.emod_nonneg _ (by omega)) (Int.emod_lt_of_pos _ b0) (hp.le (by omega))⟩
theorem fish_use {L : Nat} {x : D} {rest : Cs} {b : Int} {k : Z → Cs → Prop} (hp : Pond L x) (hb : 0 < b ∧ b ≤ 10 ^ 100 ∧ L ≤ 10 ^ 11) (h : ∀ r x', 0 ≤ r → r < b → Pond (L + 10) x' → k (.d (.int r)) (x' :: rest)) :
    sp_l_fish [.c 0, .d (.int b)] (x :: rest) k := ⟨L, hp, hb, h⟩
end K01
set_option Elab.async false
set_option linter.all false
set_option maxRecDepth 100000
set_option maxHeartbeats 2000000
set_option autoImplicit false
namespace K01
open PySem L2 DL
local macro_rules | `(tactic| walk_at "dl") => `(tactic| simp only [dSeq, dNext, dBreak, dCont, dDrop, dRet, dRetN, dIfS, dNever, dAsg, dPar, dPutK, dAppend, dExtend, dCall, dVar, dC, dOp, dChain, dUn, dB, dNot, dAnd, dOr, dAndV, dOrV, dNotV, dIf, dNil, dCons, dTup, dLst, dLstC, dCB, dInK, dGetK, dDicC, dNoPart, dPart, dSl, dBits, dRev,
  dgName, dgsNil, dgsCons, dgTup, dgSet, diSeq, diR1, e_diR2, e_r2, diEnum, startD, endD, finZ_d, finD, finC, List.take_length, dYes, wipeD, ix0, ix1, ix2, get_snoc, set_snoc, take_snoc,
  dOpC, dSlC, dListC, e_addC, e_mulC, e_loCl, e_loCt, e_loCs, e_wd, e_wc0, e_wcs, e_wsn, e_wc1, e_wc2, e_wl0, e_wl1, e_dl0, e_dl1, e_sl, e_st, e_ss, e_addi, e_adds, e_addt, e_addl, e_sub, e_muli, e_mult, e_mull, e_fdiv, e_mod, e_pow, e_neg, e_lt, e_le, e_gt, e_ge, e_eqi, e_eqs, e_eql, e_eqt, e_eqb, e_eqn, e_nei, e_nes, e_nel, e_net, e_neb, e_nen, e_isb, e_isn, e_inb, e_inn, e_in1, e_in2, e_in3, e_in4, e_in5,
  e_ixt, e_ixl, e_ixs, e_at0, e_at1, e_at2, e_at3, e_at4, e_at5, e_atl, e_keyi, e_keys, e_lenl, e_lent, e_lens, e_lend, e_maxi, e_mini, e_maxl, e_minl, e_sum, e_all, e_any, e_inti, e_intb, e_abs, e_tol, e_tot, e_tos, e_lol, e_lot, e_los, e_sll, e_slt, e_rvl, e_rvt, e_repr, e_isi, e_srtl, e_srtt,
  List.map_cons, List.map_nil, List.length_cons, List.length_nil, List.cons_append, List.nil_append, List.flatten_cons, List.flatten_nil, List.append_nil, List.replicate_succ, List.replicate_zero, List.getElem?_cons_zero, List.getElem?_cons_succ, List.set_cons_zero, List.set_cons_succ, Nat.reduceSub, Nat.reduceAdd, Int.reduceToNat, Int.reduceLE, Int.reduceLT, Int.reduceNeg, Nat.reduceLeDiff, Nat.reduceLT, Nat.zero_add, Option.some.injEq, Z.d.injEq, Z.c.injEq, D.bl.injEq, D.int.injEq, D.tup.injEq, D.lst.injEq,
  List.take_succ_cons, List.take_zero, exists_eq_left', exists_eq_left, true_and, and_true, if_true, Bool.not_true, Bool.not_false, Bool.false_eq_true, if_false, decide_true, decide_false])
def sp_l_scaled : DSpec := fun zs cs k => match zs with
  | [.d (.tup xs), .d (.int f)] => ∃ gs, xs = grD gs ∧ (Sm f ∧ gs.length ≤ 1000 ∧ ∀ g ∈ gs, Sm g.1 ∧ Sm g.2) ∧ k (.d (.tup (grD (gs.map fun g => (g.1 * f, g.2 * f))))) cs
  | _ => False
theorem len_l_scaled : ∀ zs cs q, sp_l_scaled zs cs q → zs.length = (["_law_greens_here", "_law_factor"] : List Str).length := fun zs cs q h => by
  unfold sp_l_scaled at h
  split at h
  · rfl
  · exact h.elim
def t_l_scaled : DS :=
  (dRet (dCB tupOfD (dCons (dLc (diSeq (dVar 0)) (dgTup 2 (dgsCons (dgName 2) (dgsCons (dgName 3) dgsNil))) dYes (dTup (dCons (dOp mulD (dVar 2) (dVar 1)) (dCons (dOp mulD (dVar 3) (dVar 1)) dNil))) [2, 3]) dNil)))
theorem rd_l_scaled : ∀ zs cs q, sp_l_scaled zs cs q → t_l_scaled (endD cs.length q) (startD ["_law_greens_here", "_law_factor", "_law_place", "_law_size"] zs) cs := fun zs cs q h => by
  unfold sp_l_scaled at h
  split at h
  rotate_left
  · exact h.elim
  rename_i xs f
  obtain ⟨gs, rfl, ⟨hf, hl, hg⟩, h⟩ := h
  unfold t_l_scaled
  walk_at "dl"
  refine dLc_mk (grD gs) yes cs (fun K h => by walk_at "dl"; exact h) (fun d => match d with
    | .tup [.int a, .int b] => .tup [.int (a * f), .int (b * f)]
    | _ => .non) (by rw [len_grD]; omega) (fun i d acc hd P hP => ?_) ?_ (fun _ => trivial)
  · obtain ⟨g, hq, rfl⟩ := get_grD hd
    have hm := hg g (List.mem_of_getElem? hq)
    simp only [prD] at hP ⊢
    walk_at "dl"
    exact ⟨⟨hm.1, hf⟩, ⟨hm.2, hf⟩, hP⟩
  · walk_at "dl"
    have e : (grD gs).map (fun d => match d with
      | .tup [.int a, .int b] => .tup [.int (a * f), .int (b * f)]
      | _ => .non) = grD (gs.map fun g => (g.1 * f, g.2 * f)) := by
      rw [grD, grD, List.map_map, List.map_map]
      rfl
    rw [e]
    exact h
theorem mod_key {c p t j : Int} (t0 : 0 ≤ t) (t1 : t < c) (j0 : 0 ≤ j) (j1 : j < c) : (t - p) % c = j ↔ t = (p + j) % c := by
  constructor
  · intro h
    have e := Int.mul_ediv_add_emod (t - p) c
    have e2 : p + j = t + c * (-((t - p) / c)) := by
      rw [Int.mul_neg]
      omega
    rw [e2, Int.add_mul_emod_self_left, Int.emod_eq_of_lt t0 t1]
  · intro h
    have e := Int.mul_ediv_add_emod (p + j) c
    have e2 : t - p = j + c * (-((p + j) / c)) := by
      rw [Int.mul_neg]
      omega
    rw [e2, Int.add_mul_emod_self_left, Int.emod_eq_of_lt j0 j1]
theorem setK_len (kvs : List (Key × D)) (k : Key) (d : D) : (setK kvs k d).length ≤ kvs.length + 1 := by
  unfold setK
  split
  · rw [List.length_map]; omega
  · rw [List.length_append]; exact Nat.le_refl _
theorem litB_snoc (c : Int) (gs : List (Int × Int)) (g : Int × Int) (t : Int) : litB c (gs ++ [g]) t = (litB c gs t || decide ((t - g.1) % c < g.2)) := by
  unfold litB
  rw [List.any_append, List.any_cons, List.any_nil, Bool.or_false]
def sp_l_rests : DSpec := fun zs cs k => match zs with
  | [.d (.int c), .d (.tup xs)] => ∃ gs, xs = grD gs ∧ (GrOk c gs ∧ c ≤ 40) ∧ ∀ kvs, (∀ t, 0 ≤ t → t < c → (getK kvs (.inl t)).isSome = litB c gs t) → k (.d (.dic kvs)) cs
  | _ => False
theorem len_l_rests : ∀ zs cs q, sp_l_rests zs cs q → zs.length = (["_law_span", "_law_greens_here"] : List Str).length := fun zs cs q h => by
  unfold sp_l_rests at h
  split at h
  · rfl
  · exact h.elim
def t_l_rests : DS :=
  (dSeq (dAsg dDicC (dgName 2))
  (dSeq (dFor (diSeq (dVar 1)) (dgTup 2 (dgsCons (dgName 3) (dgsCons (dgName 4) dgsNil))) (dFor (diR1 (dVar 4)) (dgName 5) (dPutK (dVar 2) (dOp modD (dOp addD (dVar 3) (dVar 5)) (dVar 0)) (dC (.bl true)))))
  (dRet (dVar 2))))
theorem rd_l_rests : ∀ zs cs q, sp_l_rests zs cs q → t_l_rests (endD cs.length q) (startD ["_law_span", "_law_greens_here", "_law_found", "_law_place", "_law_size", "_law_j"] zs) cs := fun zs cs q h => by
  unfold sp_l_rests at h
  split at h
  rotate_left
  · exact h.elim
  rename_i c xs
  obtain ⟨gs, rfl, ⟨hg, hc⟩, h⟩ := h
  unfold t_l_rests
  walk_at "dl"
  refine dFor_mk (grD gs) yes (cs ++ [.dic []]) (fun K h => by walk_at "dl"; exact h) (fun i en c1 => ∃ (kvs : List (Key × D)) (o3 o4 o5 : Option Z), en = [some (.d (.int c)), some (.d (.tup (grD gs))), some (.c cs.length), o3, o4, o5] ∧ c1 = cs ++ [.dic kvs] ∧ kvs.length ≤ i * 100 ∧
    ∀ t, 0 ≤ t → t < c → (getK kvs (.inl t)).isSome = litB c (gs.take i) t) ⟨[], _, _, _, rfl, rfl, Nat.le_refl _, fun t _ _ => rfl⟩ (fun i d en c1 hd hI => ?_) (fun en c1 hI => ?_) (fun _ _ _ _ => trivial)
  · obtain ⟨kvs, o3, o4, o5, rfl, rfl, hl, ht⟩ := hI
    obtain ⟨⟨p, n⟩, hq, rfl⟩ := get_grD hd
    have hi : i < gs.length := (List.getElem?_eq_some_iff.mp hq).1
    have h6 := hg.hi
    obtain ⟨p0, p1, n0, n1⟩ := hg.st _ (List.mem_of_getElem? hq)
    simp only at p0 p1 n0 n1
    have tk : gs.take (i + 1) = gs.take i ++ [(p, n)] := by
      rw [List.take_add_one, hq]
      rfl
    simp only [prD]
    walk_at "dl"
    refine dFor_mk (rgD 0 n.toNat) yes (cs ++ [.dic kvs]) (fun K h => by walk_at "dl"; exact ⟨⟨by omega, by omega⟩, h⟩) (fun j en c1 => ∃ (kvs : List (Key × D)) (o5 : Option Z), en = [some (.d (.int c)), some (.d (.tup (grD gs))), some (.c cs.length), some (.d (.int p)), some (.d (.int n)), o5] ∧ c1 = cs ++ [.dic kvs] ∧ kvs.length ≤ i * 100 + j ∧
      ∀ t, 0 ≤ t → t < c → (getK kvs (.inl t)).isSome = (litB c (gs.take i) t || decide ((t - p) % c < (j : Int)))) ⟨kvs, _, rfl, rfl, hl, fun t t0 t1 => ?_⟩ (fun j d en c1 hd hI => ?_) (fun en c1 hI => ?_) (fun _ _ _ _ => trivial)
    · rw [ht t t0 t1, decide_eq_false (by have := Int.emod_nonneg (t - p) (show c ≠ 0 by omega); omega), Bool.or_false]
    · obtain ⟨hj, rfl⟩ := rgD_get hd
      obtain ⟨kvs, o5, rfl, rfl, hl, ht⟩ := hI
      walk_at "dl"
      refine ⟨by omega, by omega, .inl ⟨_, _, rfl, rfl, ?_, fun t t0 t1 => ?_⟩⟩
      · have := setK_len kvs (.inl ((p + (j : Int)) % c)) (.bl true)
        simp only [Int.zero_add]
        omega
      · rw [getK_set]
        have mk := mod_key (p := p) t0 t1 (j := (j : Int)) (by omega) (by omega)
        simp only [Int.zero_add]
        by_cases e : t = (p + (j : Int)) % c
        · have e2 := mk.mpr e
          rw [if_pos (by rw [← e]), decide_eq_true (show (t - p) % c < ((j + 1 : Nat) : Int) by omega), Bool.or_true]
          rfl
        · have e2 : ¬ (t - p) % c = (j : Int) := fun z => e (mk.mp z)
          rw [if_neg (fun z => e (Sum.inl.inj z)), ht t t0 t1]
          congr 1
          rw [decide_eq_decide]
          omega
    · obtain ⟨kvs, o5, rfl, rfl, hl, ht⟩ := hI
      rw [rgD_len] at hl ht
      refine .inl ⟨kvs, _, _, _, rfl, rfl, by omega, fun t t0 t1 => ?_⟩
      rw [ht t t0 t1, tk, litB_snoc, Int.toNat_of_nonneg (by omega)]
  · obtain ⟨kvs, o3, o4, o5, rfl, rfl, hl, ht⟩ := hI
    rw [len_grD, List.take_length] at ht
    walk_at "dl"
    refine finZ_froz (Nat.le_refl _) (get_snoc _ _) ?_
    rw [take_snoc]
    exact h kvs ht
end K01
set_option Elab.async false
set_option linter.all false
set_option maxRecDepth 100000
set_option maxHeartbeats 2000000
set_option autoImplicit false
namespace K01
open PySem L2 DL
local macro_rules | `(tactic| walk_at "dl") => `(tactic| simp only [dSeq, dNext, dBreak, dCont, dDrop, dRet, dRetN, dIfS, dNever, dAsg, dPar, dPutK, dAppend, dExtend, dCall, dVar, dC, dOp, dChain, dUn, dB, dNot, dAnd, dOr, dAndV, dOrV, dNotV, dIf, dNil, dCons, dTup, dLst, dLstC, dCB, dInK, dGetK, dDicC, dNoPart, dPart, dSl, dBits, dRev,
  dgName, dgsNil, dgsCons, dgTup, dgSet, diSeq, diR1, e_diR2, e_r2, diEnum, startD, endD, finZ_d, finD, finC, List.take_length, dYes, wipeD, ix0, ix1, ix2, get_snoc, set_snoc, take_snoc,
  dOpC, dSlC, dListC, e_addC, e_mulC, e_loCl, e_loCt, e_loCs, e_wd, e_wc0, e_wcs, e_wsn, e_wc1, e_wc2, e_wl0, e_wl1, e_dl0, e_dl1, e_sl, e_st, e_ss, e_addi, e_adds, e_addt, e_addl, e_sub, e_muli, e_mult, e_mull, e_fdiv, e_mod, e_pow, e_neg, e_lt, e_le, e_gt, e_ge, e_eqi, e_eqs, e_eql, e_eqt, e_eqb, e_eqn, e_nei, e_nes, e_nel, e_net, e_neb, e_nen, e_isb, e_isn, e_inb, e_inn, e_in1, e_in2, e_in3, e_in4, e_in5,
  e_ixt, e_ixl, e_ixs, e_at0, e_at1, e_at2, e_at3, e_at4, e_at5, e_atl, e_keyi, e_keys, e_lenl, e_lent, e_lens, e_lend, e_maxi, e_mini, e_maxl, e_minl, e_sum, e_all, e_any, e_inti, e_intb, e_abs, e_tol, e_tot, e_tos, e_lol, e_lot, e_los, e_sll, e_slt, e_rvl, e_rvt, e_repr, e_isi, e_srtl, e_srtt,
  List.map_cons, List.map_nil, List.length_cons, List.length_nil, List.cons_append, List.nil_append, List.flatten_cons, List.flatten_nil, List.append_nil, List.replicate_succ, List.replicate_zero, List.getElem?_cons_zero, List.getElem?_cons_succ, List.set_cons_zero, List.set_cons_succ, Nat.reduceSub, Nat.reduceAdd, Int.reduceToNat, Int.reduceLE, Int.reduceLT, Int.reduceNeg, Nat.reduceLeDiff, Nat.reduceLT, Nat.zero_add, Option.some.injEq, Z.d.injEq, Z.c.injEq, D.bl.injEq, D.int.injEq, D.tup.injEq, D.lst.injEq,
  List.take_succ_cons, List.take_zero, exists_eq_left', exists_eq_left, true_and, and_true, if_true, Bool.not_true, Bool.not_false, Bool.false_eq_true, if_false, decide_true, decide_false])
theorem eqN_grD (gs : List (Int × Int)) : EqN 2 (.lst (grD gs)) := EqN.lst fun d hd => by
  obtain ⟨g, _, rfl⟩ := List.mem_map.mp hd
  exact EqN.tup fun x hx => by
    rcases List.mem_cons.mp hx with e | hx
    · rw [e]; exact EqN.int _
    · have e : x = .int g.2 := by simpa using hx
      rw [e]; exact EqN.int _
theorem grD_snoc (gs : List (Int × Int)) (g : Int × Int) : grD (gs ++ [g]) = grD gs ++ [prD g] := by
  unfold grD
  rw [List.map_append]
  rfl
def sp_l_greens : DSpec := fun zs cs k => match zs, cs with
  | [.c 0, .d (.int s)], x :: rest => ∃ L, Pond L x ∧ (1 ≤ s ∧ s ≤ 10 ^ 30 ∧ L ≤ 10 ^ 10) ∧ ∀ gs x', GrOk s gs → Pond (L + 1000) x' → k (.d (.tup (grD gs))) (x' :: rest)
  | _, _ => False
theorem len_l_greens : ∀ zs cs q, sp_l_greens zs cs q → zs.length = (["_law_pond_here", "_law_span"] : List Str).length := fun zs cs q h => by
  unfold sp_l_greens at h
  split at h
  · rfl
  · exact h.elim
def t_l_greens : DS :=
  (dSeq (dAsg (dLstC dNil) (dgName 2))
  (dSeq (dFor (diR1 (dOp ixD (dLst (dCons (dC (.int 1)) (dCons (dC (.int 1)) (dCons (dC (.int 2)) (dCons (dC (.int 3)) (dCons (dC (.int 6)) (dCons (dOp addD (dC (.int 1)) (dCall sp_l_fish (dCons (dVar 0) (dCons (dC (.int 6)) dNil)))) dNil))))))) (dCall sp_l_fish (dCons (dVar 0) (dCons (dC (.int 6)) dNil))))) (dgName 3) (dSeq (dAsg (dCall sp_l_fish (dCons (dVar 0) (dCons (dVar 1) dNil))) (dgName 4))
  (dSeq (dIfS (dAnd (dB (dOp neUD (dVar 2) (dLst dNil))) (dB (dOp eqUD (dCall sp_l_fish (dCons (dVar 0) (dCons (dC (.int 3)) dNil))) (dC (.int 0))))) (dAsg (dOp modD (dOp addD (dOp ixD (dOp ixD (dVar 2) (dUn negD (dC (.int 1)))) (dC (.int 0))) (dOp ixD (dOp ixD (dVar 2) (dUn negD (dC (.int 1)))) (dC (.int 1)))) (dVar 1)) (dgName 4)) dNext)
  (dLock (dSeq (dAsg (dOp addD (dC (.int 1)) (dCall sp_l_fish (dCons (dVar 0) (dCons (dCB minD (dCons (dVar 1) (dCons (dC (.int 4)) dNil))) dNil)))) (dgName 5))
  (dSeq (dAsg (dOp ixD (dLst (dCons (dVar 5) (dCons (dOp addD (dC (.int 1)) (dCall sp_l_fish (dCons (dVar 0) (dCons (dOp addD (dOp fdivD (dVar 1) (dC (.int 2))) (dC (.int 1))) dNil)))) (dCons (dOp addD (dC (.int 1)) (dCall sp_l_fish (dCons (dVar 0) (dCons (dVar 1) dNil)))) dNil)))) (dCall sp_l_fish (dCons (dVar 0) (dCons (dC (.int 3)) dNil)))) (dgName 6))
  (dDrop (dAppend (dVar 2) (dTup (dCons (dVar 4) (dCons (dIf (dB (dOp eqUD (dOp modD (dVar 3) (dC (.int 2))) (dC (.int 1)))) (dVar 5) (dVar 6)) dNil)))))))))))
  (dRet (dCB tupOfD (dCons (dVar 2) dNil)))))
theorem rd_l_greens : ∀ zs cs q, sp_l_greens zs cs q → t_l_greens (endD cs.length q) (startD ["_law_pond_here", "_law_span", "_law_found", "_law_turn", "_law_place", "_law_few", "_law_many"] zs) cs := fun zs cs q h => by
  unfold sp_l_greens at h
  split at h
  rotate_left
  · exact h.elim
  rename_i s x rest
  obtain ⟨L, hP, ⟨s0, s1, hL⟩, h⟩ := h
  unfold t_l_greens
  walk_at "dl"
  refine dFor_it ?_
  walk_at "dl"
  refine fish_use hP ⟨by decide, by decide, by omega⟩ fun r1 x1 r1a r1b p1 => ?_
  walk_at "dl"
  refine fish_use p1 ⟨by decide, by decide, by omega⟩ fun r2 x2 r2a r2b p2 => ?_
  walk_at "dl"
  have pick : ∃ v : Int, 1 ≤ v ∧ v ≤ 6 ∧ atI [D.int 1, .int 1, .int 2, .int 3, .int 6, .int (1 + r1)] r2 = some (.int v) := by
    have : r2 = 0 ∨ r2 = 1 ∨ r2 = 2 ∨ r2 = 3 ∨ r2 = 4 ∨ r2 = 5 := by omega
    rcases this with rfl | rfl | rfl | rfl | rfl | rfl
    · exact ⟨1, by decide, by decide, at0⟩
    · exact ⟨1, by decide, by decide, at1⟩
    · exact ⟨2, by decide, by decide, at2⟩
    · exact ⟨3, by decide, by decide, at3⟩
    · exact ⟨6, by decide, by decide, at4⟩
    · exact ⟨1 + r1, by omega, by omega, at5⟩
  obtain ⟨v, v1, v6, pick⟩ := pick
  rw [e_at pick]
  refine ⟨v, rfl, ⟨by omega, by omega⟩, ?_⟩
  refine dForB_mk (fun i en c1 => ∃ (gs : List (Int × Int)) (x : D) (o3 o4 o5 o6 : Option Z), en = [some (.c 0), some (.d (.int s)), some (.c (rest.length + 1)), o3, o4, o5, o6] ∧ c1 = x :: (rest ++ [.lst (grD gs)]) ∧ gs.length = i ∧ (∀ g ∈ gs, StOk s g) ∧ Pond (L + 20 + i * 70) x)
    ⟨[], x2, _, _, _, _, rfl, rfl, rfl, fun g hg => by simp at hg, p2.le (by omega)⟩ (fun i d en c1 hd hI => ?_) (fun en c1 hI => ?_) (fun _ _ _ _ => trivial)
  · obtain ⟨hi, rfl⟩ := rgD_get hd
    obtain ⟨gs, x, o3, o4, o5, o6, rfl, rfl, hl, hg, hp⟩ := hI
    have hL2 : L + 20 + i * 70 ≤ 10 ^ 10 + 600 := by omega
    walk_at "dl"
    refine fish_use hp ⟨by omega, by omega, by omega⟩ fun pl x1 pl0 pl1 hp1 => ?_
    walk_at "dl"
    generalize hT : dLock _ _ = T
    have tail : ∀ (pl : Int) (x1 : D) (o5 o6 : Option Z), 0 ≤ pl → pl < s → Pond (L + 20 + i * 70 + 20) x1 → T [some (.c 0), some (.d (.int s)), some (.c (rest.length + 1)), some (.d (.int (0 + (i : Int)))), some (.d (.int pl)), o5, o6] (x1 :: (rest ++ [.lst (grD gs)])) := by
      subst hT
      intro pl x1 o5 o6 pl0 pl1 hp1
      unfold dLock
      walk_at "dl"
      refine fish_use hp1 ⟨by omega, by omega, by omega⟩ fun r3 x3 r3a r3b hp3 => ?_
      walk_at "dl"
      refine ⟨Dv.of (by decide) (by decide), ?_⟩
      refine fish_use hp3 ⟨by omega, by omega, by omega⟩ fun r4 x4 r4a r4b hp4 => ?_
      walk_at "dl"
      refine fish_use hp4 ⟨by omega, by omega, by omega⟩ fun r5 x5 r5a r5b hp5 => ?_
      walk_at "dl"
      refine fish_use hp5 ⟨by omega, by omega, by omega⟩ fun r6 x6 r6a r6b hp6 => ?_
      walk_at "dl"
      have pick2 : ∃ m : Int, 1 ≤ m ∧ m ≤ s ∧ atI [D.int (1 + r3), .int (1 + r4), .int (1 + r5)] r6 = some (.int m) := by
        have : r6 = 0 ∨ r6 = 1 ∨ r6 = 2 := by omega
        rcases this with rfl | rfl | rfl
        · exact ⟨1 + r3, by omega, by omega, at0⟩
        · exact ⟨1 + r4, by omega, by omega, at1⟩
        · exact ⟨1 + r5, by omega, by omega, at2⟩
      obtain ⟨m, m0, m1, pick2⟩ := pick2
      rw [e_at pick2]
      have fin : ∀ e : Int, 1 ≤ e → e ≤ s → ∀ (o6 : Option Z), (grD gs).length < 100000 ∧ Wkn ((rest ++ [D.lst []]).length + 1) (fun en c1 => ∃ (gs : List (Int × Int)) (x : D) (o3 o4 o5 o6 : Option Z), en = [some (.c 0), some (.d (.int s)), some (.c (rest.length + 1)), o3, o4, o5, o6] ∧ c1 = x :: (rest ++ [.lst (grD gs)]) ∧ gs.length = i + 1 ∧ (∀ g ∈ gs, StOk s g) ∧ Pond (L + 20 + (i + 1) * 70) x)
          [some (.c 0), some (.d (.int s)), some (.c (rest.length + 1)), some (.d (.int (0 + (i : Int)))), some (.d (.int pl)), some (.d (.int (1 + r3))), o6] (x6 :: (rest ++ [.lst (grD gs ++ [.tup [.int pl, .int e]])])) := fun e e0 e1 o6 => by
        refine ⟨by rw [len_grD]; omega, .inl ⟨gs ++ [(pl, e)], x6, _, _, _, _, rfl, by rw [grD_snoc]; rfl, by simp [hl], fun g hg' => ?_, hp6.le (by omega)⟩⟩
        rcases List.mem_append.mp hg' with q | q
        · exact hg g q
        · have : g = (pl, e) := by simpa using q
          subst this
          exact ⟨pl0, pl1, e0, e1⟩
      by_cases hodd : (0 + (i : Int)) % 2 = 1
      · simp only [hodd, decide_true, if_true]
        exact fin (1 + r3) (by omega) (by omega) _
      · simp only [hodd, decide_false, Bool.false_eq_true, if_false]
        exact fin m m0 m1 _
    refine ⟨⟨(eqN_grD gs).eq (by decide), (EqN.lst (e := 0) (ds := []) (fun d hd => by simp at hd)).eq (by decide)⟩, ?_⟩
    rw [eqv_nil]
    rcases List.eq_nil_or_concat gs with rfl | ⟨gs', g, rfl⟩
    · exact tail pl x1 _ _ pl0 pl1 (hp1.le (by omega))
    · have ne : (grD (gs'.concat g)).isEmpty = false := by
        rw [List.concat_eq_append, grD_snoc]
        simp
      rw [ne, Bool.not_false, if_pos rfl]
      refine fish_use hp1 ⟨by decide, by decide, by omega⟩ fun r7 x7 r7a r7b hp7 => ?_
      rw [List.concat_eq_append, grD_snoc] at *
      walk_at "dl"
      by_cases h7 : r7 = 0
      · simp only [h7, decide_true, if_true, prD]
        walk_at "dl"
        exact ⟨by omega, tail _ x7 _ _ (Int.emod_nonneg _ (by omega)) (Int.emod_lt_of_pos _ (by omega)) hp7⟩
      · simp only [h7, decide_false, Bool.false_eq_true, if_false]
        exact tail pl x7 _ _ pl0 pl1 hp7
  · obtain ⟨gs, x, o3, o4, o5, o6, rfl, rfl, hl, hg, hp⟩ := hI
    rw [rgD_len] at hl hp
    walk_at "dl"
    exact h gs x ⟨by omega, by omega, hg⟩ (hp.le (by omega))
end K01
set_option Elab.async false
set_option linter.all false
set_option maxRecDepth 100000
set_option maxHeartbeats 2000000
set_option autoImplicit false
namespace K01
open PySem L2 DL
local macro_rules | `(tactic| walk_at "dl") => `(tactic| simp only [dSeq, dNext, dBreak, dCont, dDrop, dRet, dRetN, dIfS, dNever, dAsg, dPar, dPutK, dAppend, dExtend, dCall, dVar, dC, dOp, dChain, dUn, dB, dNot, dAnd, dOr, dAndV, dOrV, dNotV, dIf, dNil, dCons, dTup, dLst, dLstC, dCB, dInK, dGetK, dDicC, dNoPart, dPart, dSl, dBits, dRev,
  dgName, dgsNil, dgsCons, dgTup, dgSet, diSeq, diR1, e_diR2, e_r2, diEnum, startD, endD, finZ_d, finD, finC, List.take_length, dYes, wipeD, ix0, ix1, ix2, get_snoc, set_snoc, take_snoc,
  dOpC, dSlC, dListC, e_addC, e_mulC, e_loCl, e_loCt, e_loCs, e_wd, e_wc0, e_wcs, e_wsn, e_wc1, e_wc2, e_wl0, e_wl1, e_dl0, e_dl1, e_sl, e_st, e_ss, e_addi, e_adds, e_addt, e_addl, e_sub, e_muli, e_mult, e_mull, e_fdiv, e_mod, e_pow, e_neg, e_lt, e_le, e_gt, e_ge, e_eqi, e_eqs, e_eql, e_eqt, e_eqb, e_eqn, e_nei, e_nes, e_nel, e_net, e_neb, e_nen, e_isb, e_isn, e_inb, e_inn, e_in1, e_in2, e_in3, e_in4, e_in5,
  e_ixt, e_ixl, e_ixs, e_at0, e_at1, e_at2, e_at3, e_at4, e_at5, e_atl, e_keyi, e_keys, e_lenl, e_lent, e_lens, e_lend, e_maxi, e_mini, e_maxl, e_minl, e_sum, e_all, e_any, e_inti, e_intb, e_abs, e_tol, e_tot, e_tos, e_lol, e_lot, e_los, e_sll, e_slt, e_rvl, e_rvt, e_repr, e_isi, e_srtl, e_srtt,
  List.map_cons, List.map_nil, List.length_cons, List.length_nil, List.cons_append, List.nil_append, List.flatten_cons, List.flatten_nil, List.append_nil, List.replicate_succ, List.replicate_zero, List.getElem?_cons_zero, List.getElem?_cons_succ, List.set_cons_zero, List.set_cons_succ, Nat.reduceSub, Nat.reduceAdd, Int.reduceToNat, Int.reduceLE, Int.reduceLT, Int.reduceNeg, Nat.reduceLeDiff, Nat.reduceLT, Nat.zero_add, Option.some.injEq, Z.d.injEq, Z.c.injEq, D.bl.injEq, D.int.injEq, D.tup.injEq, D.lst.injEq,
  List.take_succ_cons, List.take_zero, exists_eq_left', exists_eq_left, true_and, and_true, if_true, Bool.not_true, Bool.not_false, Bool.false_eq_true, if_false, decide_true, decide_false])
theorem litB_per (c : Int) (gs : List (Int × Int)) (t k : Int) : litB c gs (t + k * c) = litB c gs t := by
  unfold litB
  congr 1
  funext g
  rw [show t + k * c - g.1 = (t - g.1) + k * c from by omega, Int.add_mul_emod_self_right]
theorem litB_mod (c : Int) (gs : List (Int × Int)) (t : Int) : litB c gs (t % c) = litB c gs t := by
  unfold litB
  congr 1
  funext g
  rw [Int.emod_sub_emod]
def scG (f : Int) (gs : List (Int × Int)) : List (Int × Int) := gs.map fun g => (g.1 * f, g.2 * f)
/-- in the cycle f times as long a moment's block is the moment -/
theorem lit_scaled {c f o l t r : Int} (hf : 0 < f) (hc : 0 < c) (r0 : 0 ≤ r) (r1 : r < f) : (t * f + r - o * f) % (c * f) < l * f ↔ (t - o) % c < l := by
  have e : t * f + r - o * f = (t - o) * f + r := by rw [Int.sub_mul]; omega
  have e2 : ((t - o) * f + r) % (c * f) = ((t - o) % c) * f + r := by
    have d := Int.mul_ediv_add_emod (t - o) c
    have e3 : (t - o) * f + r = (((t - o) % c) * f + r) + (c * f) * ((t - o) / c) := by
      have : (t - o) * f = (c * ((t - o) / c) + (t - o) % c) * f := by rw [d]
      rw [this, Int.add_mul, Int.mul_right_comm]
      omega
    rw [e3, Int.add_mul_emod_self_left]
    have h0 := Int.emod_nonneg (t - o) (show c ≠ 0 by omega)
    have h1 := Int.emod_lt_of_pos (t - o) hc
    refine Int.emod_eq_of_lt ?_ ?_
    · have := Int.mul_nonneg h0 (show 0 ≤ f by omega)
      omega
    · have := Int.mul_le_mul_of_nonneg_right (show (t - o) % c ≤ c - 1 by omega) (show 0 ≤ f by omega)
      rw [Int.sub_mul] at this
      omega
  rw [e, e2]
  generalize (t - o) % c = u
  constructor
  · intro h
    refine Int.lt_of_not_ge fun q => ?_
    have := Int.mul_le_mul_of_nonneg_right q (show 0 ≤ f by omega)
    omega
  · intro h
    have := Int.mul_le_mul_of_nonneg_right (show u ≤ l - 1 by omega) (show 0 ≤ f by omega)
    rw [Int.sub_mul] at this
    omega
theorem litB_sc {c f : Int} {gs : List (Int × Int)} {t r : Int} (hf : 0 < f) (hc : 0 < c) (r0 : 0 ≤ r) (r1 : r < f) : litB (c * f) (scG f gs) (t * f + r) = litB c gs t := by
  unfold litB scG
  rw [List.any_map]
  congr 1
  funext g
  show decide _ = decide _
  rw [decide_eq_decide]
  exact lit_scaled hf hc r0 r1
theorem gr_scaled {c f : Int} {gs : List (Int × Int)} (h : GrOk c gs) (hf : 0 < f) : GrOk (c * f) (scG f gs) := by
  refine ⟨by rw [scG, List.length_map]; exact h.lo, by rw [scG, List.length_map]; exact h.hi, fun g hg => ?_⟩
  obtain ⟨g0, h0, rfl⟩ := List.mem_map.mp hg
  obtain ⟨a, b, d, e⟩ := h.st g0 h0
  refine ⟨Int.mul_nonneg a (by omega), Int.mul_lt_mul_of_pos_right b hf, ?_, Int.mul_le_mul_of_nonneg_right e (by omega)⟩
  show 1 ≤ g0.2 * f
  have := Int.mul_le_mul_of_nonneg_right d (show 0 ≤ f by omega)
  omega
end K01
set_option Elab.async false
set_option linter.all false
set_option maxRecDepth 100000
set_option maxHeartbeats 2000000
set_option autoImplicit false
/-! arcs of a circle: the longest stretches -/
namespace K03
/-- t is in [b, e), up to whole cycles -/
def In (c : Int) (x : Int × Int) (t : Int) : Prop := ∃ k : Int, x.1 ≤ t + k * c ∧ t + k * c < x.2
theorem in_iff {c o l t : Int} (hc : 0 < c) (h0 : 1 ≤ l) (hl : l ≤ c) : (t - o) % c < l ↔ In c (o, o + l) t := by
  have m0 := Int.emod_nonneg (t - o) (show c ≠ 0 by omega)
  have d := Int.mul_ediv_add_emod (t - o) c
  constructor
  · intro h
    refine ⟨-((t - o) / c), ?_, ?_⟩
    · show o ≤ t + -((t - o) / c) * c
      rw [Int.neg_mul, Int.mul_comm]
      omega
    · show t + -((t - o) / c) * c < o + l
      rw [Int.neg_mul, Int.mul_comm]
      omega
  · rintro ⟨k, h1, h2⟩
    simp only at h1 h2
    have e : t - o = (t + k * c - o) + c * (-k) := by
      rw [Int.mul_neg, Int.mul_comm c k]
      omega
    rw [e, Int.add_mul_emod_self_left, Int.emod_eq_of_lt (by omega) (by omega)]
    omega
def Cov (c : Int) (xs : List (Int × Int)) (t : Int) : Prop := ∃ x ∈ xs, In c x t
/-- the longest stretches of B, by their starts -/
structure Arcs (c : Int) (B : Int → Prop) (rs : List (Int × Int)) : Prop where
  some_off : ∃ t, ¬ B t
  asc : rs.Pairwise fun x y => x.1 < y.1
  starts : ∀ t, (∃ l, (t, l) ∈ rs) ↔ (0 ≤ t ∧ t < c ∧ B t ∧ ¬ B (t - 1))
  runs : ∀ x ∈ rs, 1 ≤ x.2 ∧ (∀ j, 0 ≤ j → j < x.2 → B (x.1 + j)) ∧ ¬ B (x.1 + x.2)
def ArcP (c : Int) (B : Int → Prop) (rs : List (Int × Int)) : Prop := (rs = [(0, c)] ∧ ∀ t, B t) ∨ Arcs c B rs
theorem Arcs.mem {c : Int} {B : Int → Prop} {rs rs' : List (Int × Int)} (h : Arcs c B rs) (h' : Arcs c B rs') {x : Int × Int} (hx : x ∈ rs) : x ∈ rs' := by
  obtain ⟨t, l⟩ := x
  obtain ⟨l', hl'⟩ := (h'.starts t).mpr ((h.starts t).mp ⟨l, hx⟩)
  obtain ⟨a1, a2, a3⟩ := h.runs _ hx
  obtain ⟨b1, b2, b3⟩ := h'.runs _ hl'
  simp only at a1 a2 a3 b1 b2 b3
  have e : l = l' := by
    rcases Int.lt_trichotomy l l' with g | g | g
    · exact absurd (b2 l (by omega) g) a3
    · exact g
    · exact absurd (a2 l' (by omega) g) b3
  rw [e]
  exact hl'
theorem asc_ext : ∀ {xs ys : List (Int × Int)}, xs.Pairwise (fun x y => x.1 < y.1) → ys.Pairwise (fun x y => x.1 < y.1) → (∀ x, x ∈ xs ↔ x ∈ ys) → xs = ys
  | [], [], _, _, _ => rfl
  | [], y :: ys, _, _, h => absurd ((h y).mpr List.mem_cons_self) (by simp)
  | x :: xs, [], _, _, h => absurd ((h x).mp List.mem_cons_self) (by simp)
  | x :: xs, y :: ys, hx, hy, h => by
    obtain ⟨x1, x2⟩ := List.pairwise_cons.mp hx
    obtain ⟨y1, y2⟩ := List.pairwise_cons.mp hy
    have e : x = y := by
      rcases List.mem_cons.mp ((h x).mp List.mem_cons_self) with e | m
      · exact e
      · rcases List.mem_cons.mp ((h y).mpr List.mem_cons_self) with e | m'
        · exact e.symm
        · have := y1 x m
          have := x1 y m'
          omega
    subst e
    rw [asc_ext x2 y2 fun z => ?_]
    constructor
    · intro hz
      rcases List.mem_cons.mp ((h z).mp (List.mem_cons_of_mem _ hz)) with e | m
      · have := x1 z hz
        rw [e] at this
        omega
      · exact m
    · intro hz
      rcases List.mem_cons.mp ((h z).mpr (List.mem_cons_of_mem _ hz)) with e | m
      · have := y1 z hz
        rw [e] at this
        omega
      · exact m
theorem arcP_uniq {c : Int} {B : Int → Prop} {rs rs' : List (Int × Int)} (h : ArcP c B rs) (h' : ArcP c B rs') : rs = rs' := by
  rcases h with ⟨rfl, h⟩ | h
  · rcases h' with ⟨rfl, _⟩ | h'
    · rfl
    · obtain ⟨t, ht⟩ := h'.some_off
      exact absurd (h t) ht
  · rcases h' with ⟨rfl, h'⟩ | h'
    · obtain ⟨t, ht⟩ := h.some_off
      exact absurd (h' t) ht
    · exact asc_ext h.asc h'.asc fun x => ⟨fun hx => h.mem h' hx, fun hx => h'.mem h hx⟩
theorem ArcP.congr {c : Int} {B B' : Int → Prop} {rs : List (Int × Int)} (h : ArcP c B rs) (e : ∀ t, B t ↔ B' t) : ArcP c B' rs := by
  have : B = B' := funext fun t => propext (e t)
  rwa [this] at h
/-! stretches on the line -/
structure Gaps (c : Int) (xs : List (Int × Int)) : Prop where
  gap : xs.Pairwise fun x y => x.2 < y.1
  ok : ∀ x ∈ xs, 0 ≤ x.1 ∧ x.1 < c ∧ x.1 < x.2
/-- around the circle too -/
theorem arcs_of {c : Int} {xs : List (Int × Int)} {B : Int → Prop} (hc : 0 < c) (g : Gaps c xs) (ne : xs ≠ []) (hB : ∀ t, B t ↔ Cov c xs t) (wrap : ∀ x ∈ xs, ∀ y ∈ xs, y.2 < x.1 + c) : Arcs c B (xs.map fun x => (x.1, x.2 - x.1)) := by
  have far : ∀ x ∈ xs, ∀ y ∈ xs, x = y ∨ x.2 < y.1 ∨ y.2 < x.1 := by
    have := g.gap
    clear hB wrap ne g
    induction xs with
    | nil => intro x hx; simp at hx
    | cons z zs ih =>
      obtain ⟨h1, h2⟩ := List.pairwise_cons.mp this
      intro x hx y hy
      rcases List.mem_cons.mp hx with e1 | hx'
      · rcases List.mem_cons.mp hy with e2 | hy'
        · exact .inl (e1.trans e2.symm)
        · exact .inr (.inl (by rw [e1]; exact h1 y hy'))
      · rcases List.mem_cons.mp hy with e2 | hy'
        · exact .inr (.inr (by rw [e2]; exact h1 x hx'))
        · exact ih h2 x hx' y hy'
  have off : ∀ x ∈ xs, ¬ B x.2 := fun x hx hb => by
    obtain ⟨y, hy, k, h1, h2⟩ := (hB _).mp hb
    obtain ⟨x0, x1, x2⟩ := g.ok x hx
    obtain ⟨y0, y1, y2⟩ := g.ok y hy
    have w1 := wrap x hx y hy
    have w2 := wrap y hy x hx
    rcases Int.lt_trichotomy k 0 with hk | hk | hk
    · have : k * c ≤ -1 * c := Int.mul_le_mul_of_nonneg_right (by omega) (by omega)
      omega
    · subst hk
      rcases far x hx y hy with e | e | e
      · rw [e] at h2; omega
      · omega
      · omega
    · have : 1 * c ≤ k * c := Int.mul_le_mul_of_nonneg_right (by omega) (by omega)
      omega
  have off1 : ∀ x ∈ xs, ¬ B (x.1 - 1) := fun x hx hb => by
    obtain ⟨y, hy, k, h1, h2⟩ := (hB _).mp hb
    obtain ⟨x0, x1, x2⟩ := g.ok x hx
    obtain ⟨y0, y1, y2⟩ := g.ok y hy
    have w1 := wrap x hx y hy
    have w2 := wrap y hy x hx
    rcases Int.lt_trichotomy k 0 with hk | hk | hk
    · have : k * c ≤ -1 * c := Int.mul_le_mul_of_nonneg_right (by omega) (by omega)
      omega
    · subst hk
      rcases far x hx y hy with e | e | e
      · rw [e] at h1; omega
      · omega
      · omega
    · have : 1 * c ≤ k * c := Int.mul_le_mul_of_nonneg_right (by omega) (by omega)
      omega
  obtain ⟨z, hz⟩ : ∃ z, z ∈ xs := by
    cases xs with
    | nil => exact absurd rfl ne
    | cons z zs => exact ⟨z, List.mem_cons_self⟩
  refine ⟨⟨_, off z hz⟩, ?_, fun t => ⟨?_, ?_⟩, fun r hr => ?_⟩
  · rw [List.pairwise_map]
    exact g.gap.imp_of_mem fun {x y} hx hy h => by
      have := (g.ok x hx).2.2
      show x.1 < y.1
      omega
  · rintro ⟨l, hl⟩
    obtain ⟨x, hx, e⟩ := List.mem_map.mp hl
    cases e
    obtain ⟨x0, x1, x2⟩ := g.ok x hx
    exact ⟨x0, x1, (hB _).mpr ⟨x, hx, 0, by omega, by omega⟩, off1 x hx⟩
  · rintro ⟨t0, t1, hb, hn⟩
    obtain ⟨y, hy, k, h1, h2⟩ := (hB _).mp hb
    obtain ⟨y0, y1, y2⟩ := g.ok y hy
    have e : y.1 = t + k * c := by
      refine Classical.byContradiction fun ne => hn ((hB _).mpr ⟨y, hy, k, by omega, by omega⟩)
    have hk : k = 0 := by
      rcases Int.lt_trichotomy k 0 with hk | hk | hk
      · have : k * c ≤ -1 * c := Int.mul_le_mul_of_nonneg_right (by omega) (by omega)
        omega
      · exact hk
      · have : 1 * c ≤ k * c := Int.mul_le_mul_of_nonneg_right (by omega) (by omega)
        omega
    subst hk
    exact ⟨y.2 - y.1, List.mem_map.mpr ⟨y, hy, by rw [show y.1 = t by omega]⟩⟩
  · obtain ⟨x, hx, rfl⟩ := List.mem_map.mp hr
    obtain ⟨x0, x1, x2⟩ := g.ok x hx
    refine ⟨by simp only; omega, fun j j0 j1 => (hB _).mpr ⟨x, hx, 0, by simp only at j1 ⊢; omega, by simp only at j1 ⊢; omega⟩, ?_⟩
    have := off x hx
    rwa [show (x.1, x.2 - x.1).1 + (x.1, x.2 - x.1).2 = x.2 by simp only; omega]
/-- two that meet around the circle are one -/
theorem cov_wrap {c : Int} {f l : Int × Int} {mid : List (Int × Int)} (hc : 0 < c) (g : Gaps c (f :: (mid ++ [l]))) (h : f.1 + c ≤ l.2) : Gaps c (mid ++ [(l.1, max l.2 (f.2 + c))]) ∧ ∀ t, Cov c (mid ++ [(l.1, max l.2 (f.2 + c))]) t ↔ Cov c (f :: (mid ++ [l])) t := by
  obtain ⟨f0, f1, f2⟩ := g.ok f List.mem_cons_self
  obtain ⟨l0, l1, l2⟩ := g.ok l (by simp)
  obtain ⟨g1, g2⟩ := List.pairwise_cons.mp g.gap
  have gl := g1 l (by simp)
  refine ⟨⟨?_, fun x hx => ?_⟩, fun t => ⟨?_, ?_⟩⟩
  · obtain ⟨a, b, d⟩ := List.pairwise_append.mp g2
    refine List.pairwise_append.mpr ⟨a, List.pairwise_singleton _ _, fun x hx y hy => ?_⟩
    have e : y = (l.1, max l.2 (f.2 + c)) := by simpa using hy
    rw [e]
    exact d x hx l (by simp)
  · rcases List.mem_append.mp hx with hx | hx
    · exact g.ok x (by simp [hx])
    · have e : x = (l.1, max l.2 (f.2 + c)) := by simpa using hx
      rw [e]
      exact ⟨l0, l1, by show l.1 < max l.2 (f.2 + c); omega⟩
  · rintro ⟨x, hx, k, h1, h2⟩
    rcases List.mem_append.mp hx with hx | hx
    · exact ⟨x, by simp [hx], k, h1, h2⟩
    · have e : x = (l.1, max l.2 (f.2 + c)) := by simpa using hx
      subst e
      simp only at h1 h2
      by_cases q : t + k * c < l.2
      · exact ⟨l, by simp, k, h1, q⟩
      · have e2 : t + (k - 1) * c = t + k * c - c := by rw [Int.sub_mul]; omega
        exact ⟨f, List.mem_cons_self, k - 1, by omega, by omega⟩
  · rintro ⟨x, hx, k, h1, h2⟩
    rcases List.mem_cons.mp hx with e | hx
    · subst e
      have e2 : t + (k + 1) * c = t + k * c + c := by rw [Int.add_mul]; omega
      exact ⟨(l.1, max l.2 (x.2 + c)), by simp, k + 1, by simp only; omega, by simp only; omega⟩
    · rcases List.mem_append.mp hx with hx | hx
      · exact ⟨x, by simp [hx], k, h1, h2⟩
      · have e : x = l := by simpa using hx
        subst e
        exact ⟨(x.1, max x.2 (f.2 + c)), by simp, k, by simp only; omega, by simp only; omega⟩
/-- one that is a cycle long is all -/
theorem cov_all {c : Int} {xs : List (Int × Int)} {x : Int × Int} (hc : 0 < c) (hx : x ∈ xs) (h : x.1 + c ≤ x.2) (t : Int) : Cov c xs t := by
  have m0 := Int.emod_nonneg (t - x.1) (show c ≠ 0 by omega)
  have m1 := Int.emod_lt_of_pos (t - x.1) hc
  have d := Int.mul_ediv_add_emod (t - x.1) c
  refine ⟨x, hx, -((t - x.1) / c), ?_, ?_⟩ <;> (rw [Int.neg_mul, Int.mul_comm]; omega)
/-- stretches as they are laid, one by one, by their begins -/
structure Laid (pre xs : List (Int × Int)) : Prop where
  gap : xs.Pairwise fun x y => x.2 < y.1
  cov : ∀ t : Int, (∃ x ∈ xs, x.1 ≤ t ∧ t < x.2) ↔ ∃ g ∈ pre, g.1 ≤ t ∧ t < g.1 + g.2
  beg : ∀ x ∈ xs, x.1 < x.2 ∧ ∃ g ∈ pre, g.1 = x.1
  ne : pre ≠ [] → xs ≠ []
theorem laid_new {pre xs : List (Int × Int)} {o l : Int} (h : Laid pre xs) (hl : 1 ≤ l) (hf : ∀ x ∈ xs, x.2 < o) : Laid (pre ++ [(o, l)]) (xs ++ [(o, o + l)]) := by
  refine ⟨List.pairwise_append.mpr ⟨h.gap, List.pairwise_singleton _ _, fun x hx y hy => ?_⟩, fun t => ⟨?_, ?_⟩, fun x hx => ?_, fun _ => by simp⟩
  · have e : y = (o, o + l) := by simpa using hy
    rw [e]
    exact hf x hx
  · rintro ⟨x, hx, h1, h2⟩
    rcases List.mem_append.mp hx with hx | hx
    · obtain ⟨g, hg, h3⟩ := (h.cov t).mp ⟨x, hx, h1, h2⟩
      exact ⟨g, List.mem_append_left _ hg, h3⟩
    · have e : x = (o, o + l) := by simpa using hx
      subst e
      exact ⟨(o, l), by simp, h1, h2⟩
  · rintro ⟨g, hg, h1, h2⟩
    rcases List.mem_append.mp hg with hg | hg
    · obtain ⟨x, hx, h3⟩ := (h.cov t).mpr ⟨g, hg, h1, h2⟩
      exact ⟨x, List.mem_append_left _ hx, h3⟩
    · have e : g = (o, l) := by simpa using hg
      subst e
      exact ⟨(o, o + l), by simp, h1, h2⟩
  · rcases List.mem_append.mp hx with hx | hx
    · obtain ⟨a, g, hg, e⟩ := h.beg x hx
      exact ⟨a, g, List.mem_append_left _ hg, e⟩
    · have e : x = (o, o + l) := by simpa using hx
      subst e
      exact ⟨by simp only; omega, (o, l), by simp, rfl⟩
theorem laid_more {pre xs : List (Int × Int)} {b e o l : Int} (h : Laid pre (xs ++ [(b, e)])) (hl : 1 ≤ l) (h1 : o ≤ e) (h2 : b ≤ o) : Laid (pre ++ [(o, l)]) (xs ++ [(b, max e (o + l))]) := by
  obtain ⟨g1, g2, g3⟩ := List.pairwise_append.mp h.gap
  have hbe := (h.beg (b, e) (by simp)).1
  simp only at hbe
  refine ⟨List.pairwise_append.mpr ⟨g1, List.pairwise_singleton _ _, fun x hx y hy => ?_⟩, fun t => ⟨?_, ?_⟩, fun x hx => ?_, fun _ => by simp⟩
  · have q : y = (b, max e (o + l)) := by simpa using hy
    rw [q]
    exact g3 x hx (b, e) (by simp)
  · rintro ⟨x, hx, t1, t2⟩
    rcases List.mem_append.mp hx with hx | hx
    · obtain ⟨g, hg, t3⟩ := (h.cov t).mp ⟨x, List.mem_append_left _ hx, t1, t2⟩
      exact ⟨g, List.mem_append_left _ hg, t3⟩
    · have q : x = (b, max e (o + l)) := by simpa using hx
      subst q
      simp only at t1 t2
      by_cases te : t < e
      · obtain ⟨g, hg, t3⟩ := (h.cov t).mp ⟨(b, e), by simp, t1, te⟩
        exact ⟨g, List.mem_append_left _ hg, t3⟩
      · exact ⟨(o, l), by simp, by simp only; omega, by simp only; omega⟩
  · rintro ⟨g, hg, t1, t2⟩
    rcases List.mem_append.mp hg with hg | hg
    · obtain ⟨x, hx, t3, t4⟩ := (h.cov t).mpr ⟨g, hg, t1, t2⟩
      rcases List.mem_append.mp hx with hx | hx
      · exact ⟨x, List.mem_append_left _ hx, t3, t4⟩
      · have q : x = (b, e) := by simpa using hx
        subst q
        exact ⟨(b, max e (o + l)), by simp, t3, by simp only at t4 ⊢; omega⟩
    · have q : g = (o, l) := by simpa using hg
      subst q
      simp only at t1 t2
      exact ⟨(b, max e (o + l)), by simp, by simp only; omega, by simp only; omega⟩
  · rcases List.mem_append.mp hx with hx | hx
    · obtain ⟨a, g, hg, q⟩ := h.beg x (List.mem_append_left _ hx)
      exact ⟨a, g, List.mem_append_left _ hg, q⟩
    · have q : x = (b, max e (o + l)) := by simpa using hx
      subst q
      obtain ⟨_, g, hg, q⟩ := h.beg (b, e) (by simp)
      exact ⟨by simp only; omega, g, List.mem_append_left _ hg, q⟩
end K03
set_option Elab.async false
set_option linter.all false
set_option maxRecDepth 100000
set_option maxHeartbeats 2000000
set_option autoImplicit false
namespace K03
open PySem L2 DL K01
local macro_rules | `(tactic| walk_at "dl") => `(tactic| simp only [dSeq, dNext, dBreak, dCont, dDrop, dRet, dRetN, dIfS, dNever, dAsg, dPar, dPutK, dAppend, dExtend, dCall, dVar, dC, dOp, dChain, dUn, dB, dNot, dAnd, dOr, dAndV, dOrV, dNotV, dIf, dNil, dCons, dTup, dLst, dLstC, dCB, dInK, dGetK, dDicC, dNoPart, dPart, dSl, dBits, dRev,
  dgName, dgsNil, dgsCons, dgTup, dgSet, diSeq, diR1, e_diR2, e_r2, diEnum, startD, endD, finZ_d, finD, finC, List.take_length, dYes, wipeD, ix0, ix1, ix2, get_snoc, set_snoc, take_snoc,
  dOpC, dSlC, dListC, e_addC, e_mulC, e_loCl, e_loCt, e_loCs, e_wd, e_wc0, e_wcs, e_wsn, e_wc1, e_wc2, e_wl0, e_wl1, e_dl0, e_dl1, e_sl, e_st, e_ss, e_addi, e_adds, e_addt, e_addl, e_sub, e_muli, e_mult, e_mull, e_fdiv, e_mod, e_pow, e_neg, e_lt, e_le, e_gt, e_ge, e_eqi, e_eqs, e_eql, e_eqt, e_eqb, e_eqn, e_nei, e_nes, e_nel, e_net, e_neb, e_nen, e_isb, e_isn, e_inb, e_inn, e_in1, e_in2, e_in3, e_in4, e_in5,
  e_ixt, e_ixl, e_ixs, e_at0, e_at1, e_at2, e_at3, e_at4, e_at5, e_atl, e_keyi, e_keys, e_lenl, e_lent, e_lens, e_lend, e_maxi, e_mini, e_maxl, e_minl, e_sum, e_all, e_any, e_inti, e_intb, e_abs, e_tol, e_tot, e_tos, e_lol, e_lot, e_los, e_sll, e_slt, e_rvl, e_rvt, e_repr, e_isi, e_srtl, e_srtt,
  List.map_cons, List.map_nil, List.length_cons, List.length_nil, List.cons_append, List.nil_append, List.flatten_cons, List.flatten_nil, List.append_nil, List.replicate_succ, List.replicate_zero, List.getElem?_cons_zero, List.getElem?_cons_succ, List.set_cons_zero, List.set_cons_succ, Nat.reduceSub, Nat.reduceAdd, Int.reduceToNat, Int.reduceLE, Int.reduceLT, Int.reduceNeg, Nat.reduceLeDiff, Nat.reduceLT, Nat.zero_add, Option.some.injEq, Z.d.injEq, Z.c.injEq, D.bl.injEq, D.int.injEq, D.tup.injEq, D.lst.injEq,
  List.take_succ_cons, List.take_zero, exists_eq_left', exists_eq_left, true_and, and_true, if_true, Bool.not_true, Bool.not_false, Bool.false_eq_true, if_false, decide_true, decide_false])
theorem e_sc {cs : Cs} {n : Nat} {ds : List D} {K : List D → (Cs → Prop) → Prop} (h : cs[n]? = some (D.lst ds)) : seqD cs (.c n) K = K ds (fun c : Cs => c[n]? = some (D.lst ds)) := by
  unfold seqD
  simp only [h]
theorem keep_snoc (cs : Cs) (x y : D) : (cs ++ [x] ++ [y])[cs.length]? = some x := by
  rw [List.append_assoc, List.getElem?_append_right (Nat.le_refl _), Nat.sub_self]
  rfl
theorem ix_last (l : List D) (a : D) : ixN (l ++ [a]).length (-1) = some l.length := by
  unfold ixN
  rw [if_neg (by decide), if_pos (by simp only [List.length_append, List.length_cons, List.length_nil]; omega)]
  simp only [List.length_append, List.length_cons, List.length_nil, Option.some.injEq]
  omega
theorem at_m1 (xs : List (Int × Int)) (l : Int × Int) : atI (grD (xs ++ [l])) (-1) = some (prD l) := by
  rw [grD_snoc]
  exact at_last
theorem at_f0 (f : Int × Int) (xs : List (Int × Int)) : atI (grD (f :: xs)) 0 = some (prD f) := at0
theorem cut_mid (f : Int × Int) (mid : List (Int × Int)) (l : Int × Int) : cutG (grD (f :: (mid ++ [l]))) (some 1) (some (-1)) = grD mid := by
  have e1 : HT.sIx (grD (f :: (mid ++ [l]))).length 0 (some 1) = 1 := by
    have := HT.sIx_nat (grD (f :: (mid ++ [l]))).length 0 1
    rw [len_grD] at this ⊢
    simp only [List.length_cons, List.length_append, List.length_nil] at this ⊢
    rw [show (some (1 : Int)) = some ((1 : Nat) : Int) from rfl, this]
    omega
  have e2 : HT.sIx (grD (f :: (mid ++ [l]))).length (grD (f :: (mid ++ [l]))).length (some (-1)) = mid.length + 1 := by
    show (if (-1 : Int) < 0 then ((-1 : Int) + ((grD (f :: (mid ++ [l]))).length : Int)).toNat else min (-1 : Int).toNat (grD (f :: (mid ++ [l]))).length) = _
    rw [if_pos (by decide), len_grD]
    simp only [List.length_cons, List.length_append, List.length_nil]
    omega
  unfold cutG
  rw [e1, e2]
  show ((grD (mid ++ [l]))).take (mid.length + 1 - 1) = grD mid
  rw [grD_snoc, Nat.add_sub_cancel]
  have : (grD mid).length = mid.length := len_grD mid
  rw [← this, List.take_left]
def row2 (g : Int × Int) : List Int := [g.1, g.2]
def unrow : List Int → Int × Int
  | [a, b] => (a, b)
  | _ => (0, 0)
theorem rows_out {gs : List (Int × Int)} {out : List (List Int)} (hp : out.Perm (gs.map row2)) (hs : out.Pairwise (fun x y => lex3 (key3 y) (key3 x) = false)) : ∃ ps : List (Int × Int), out = ps.map row2 ∧ ps.Perm gs ∧ ps.Pairwise fun x y => x.1 ≤ y.1 := by
  have e : out = (out.map unrow).map row2 := by
    rw [List.map_map]
    refine (List.map_id' out).symm.trans (List.map_congr_left fun r hr => ?_)
    obtain ⟨g, _, rfl⟩ := List.mem_map.mp (hp.mem_iff.mp hr)
    rfl
  refine ⟨out.map unrow, e, ?_, ?_⟩
  · have := hp.map unrow
    rw [List.map_map, show (unrow ∘ row2) = id from rfl, List.map_id] at this
    exact this
  · rw [e, List.pairwise_map] at hs
    exact hs.imp fun {x y} h => by
      have := lex3_no.mp h
      simp only [row2, key3] at this
      omega
theorem rowD_row2 (g : Int × Int) : rowD (row2 g) = prD g := rfl
theorem grD_rows (gs : List (Int × Int)) : (gs.map row2).map rowD = grD gs := by
  unfold grD
  rw [List.map_map]
  rfl
def ArcL (c : Int) (gs rs : List (Int × Int)) : Prop := ArcP c (fun t => litB c gs t = true) rs
theorem lit_cov {c : Int} {gs : List (Int × Int)} (hc : 0 < c) (hg : ∀ g ∈ gs, StOk c g) (t : Int) : litB c gs t = true ↔ Cov c (gs.map fun g => (g.1, g.1 + g.2)) t := by
  unfold litB Cov
  rw [List.any_eq_true]
  constructor
  · rintro ⟨g, hgm, h⟩
    obtain ⟨a, b, d, e⟩ := hg g hgm
    exact ⟨(g.1, g.1 + g.2), List.mem_map.mpr ⟨g, hgm, rfl⟩, (in_iff hc d e).mp (of_decide_eq_true h)⟩
  · rintro ⟨x, hx, h⟩
    obtain ⟨g, hgm, rfl⟩ := List.mem_map.mp hx
    obtain ⟨a, b, d, e⟩ := hg g hgm
    exact ⟨g, hgm, decide_eq_true ((in_iff hc d e).mpr h)⟩
theorem cov_lines {c : Int} {xs ys : List (Int × Int)} (h : ∀ t : Int, (∃ x ∈ xs, x.1 ≤ t ∧ t < x.2) ↔ ∃ y ∈ ys, y.1 ≤ t ∧ t < y.1 + y.2) (t : Int) : Cov c (ys.map fun g => (g.1, g.1 + g.2)) t ↔ Cov c xs t := by
  constructor
  · rintro ⟨x, hx, k, h1, h2⟩
    obtain ⟨g, hg, rfl⟩ := List.mem_map.mp hx
    obtain ⟨y, hy, h3, h4⟩ := (h _).mpr ⟨g, hg, h1, h2⟩
    exact ⟨y, hy, k, h3, h4⟩
  · rintro ⟨x, hx, k, h1, h2⟩
    obtain ⟨g, hg, h3, h4⟩ := (h _).mp ⟨x, hx, h1, h2⟩
    exact ⟨(g.1, g.1 + g.2), List.mem_map.mpr ⟨g, hg, rfl⟩, k, h3, h4⟩
def sp_merged_greens : DSpec := fun zs cs k => match zs with
  | [.d (.int c), .d (.tup xs)] => ∃ gs, xs = grD gs ∧ (0 < c ∧ 1 ≤ gs.length ∧ gs.length ≤ 1000 ∧ ∀ g ∈ gs, StOk c g) ∧ ∀ rs, ArcL c gs rs → rs.length ≤ gs.length → (∀ x ∈ rs, StOk c x) → 1 ≤ rs.length → k (.d (.tup (grD rs))) cs
  | _ => False
theorem len_merged_greens : ∀ zs cs q, sp_merged_greens zs cs q → zs.length = (["cycle", "signal"] : List Str).length := fun zs cs q h => by
  unfold sp_merged_greens at h
  split at h
  · rfl
  · exact h.elim
def t_merged_greens : DS :=
  (dSeq (dAsg (dLstC dNil) (dgName 2))
  (dSeq (dFor (diSeq (dCB sortedRD (dCons (dVar 1) dNil))) (dgTup 2 (dgsCons (dgName 3) (dgsCons (dgName 4) dgsNil))) (dIfS (dAnd (dB (dOp neUD (dVar 2) (dLst dNil))) (dB (dOp leD (dVar 3) (dOp ixD (dOp ixD (dVar 2) (dUn negD (dC (.int 1)))) (dC (.int 1)))))) (dAsg (dTup (dCons (dOp ixD (dOp ixD (dVar 2) (dUn negD (dC (.int 1)))) (dC (.int 0))) (dCons (dCB maxD (dCons (dOp ixD (dOp ixD (dVar 2) (dUn negD (dC (.int 1)))) (dC (.int 1))) (dCons (dOp addD (dVar 3) (dVar 4)) dNil))) dNil))) (dgSet (dVar 2) (dUn negD (dC (.int 1))))) (dDrop (dAppend (dVar 2) (dTup (dCons (dVar 3) (dCons (dOp addD (dVar 3) (dVar 4)) dNil)))))))
  (dSeq (dWhile (dAnd (dB (dOp gtD (dCB lenD (dCons (dVar 2) dNil)) (dC (.int 1)))) (dB (dOp geD (dOp ixD (dOp ixD (dVar 2) (dUn negD (dC (.int 1)))) (dC (.int 1))) (dOp addD (dOp ixD (dOp ixD (dVar 2) (dC (.int 0))) (dC (.int 0))) (dVar 0))))) (dAsg (dOpC addC (dSl (dVar 2) (dPart (dC (.int 1))) (dPart (dUn negD (dC (.int 1))))) (dLst (dCons (dTup (dCons (dOp ixD (dOp ixD (dVar 2) (dUn negD (dC (.int 1)))) (dC (.int 0))) (dCons (dCB maxD (dCons (dOp ixD (dOp ixD (dVar 2) (dUn negD (dC (.int 1)))) (dC (.int 1))) (dCons (dOp addD (dOp ixD (dOp ixD (dVar 2) (dC (.int 0))) (dC (.int 1))) (dVar 0)) dNil))) dNil))) dNil))) (dgName 2)))
  (dLock (dSeq (dIfS (dB (dOp geD (dOp subD (dOp ixD (dOp ixD (dVar 2) (dUn negD (dC (.int 1)))) (dC (.int 1))) (dOp ixD (dOp ixD (dVar 2) (dUn negD (dC (.int 1)))) (dC (.int 0)))) (dVar 0))) (dRet (dTup (dCons (dTup (dCons (dC (.int 0)) (dCons (dVar 0) dNil))) dNil))) dNext)
  (dRet (dCB tupOfD (dCons (dLc (diSeq (dVar 2)) (dgTup 2 (dgsCons (dgName 5) (dgsCons (dgName 6) dgsNil))) dYes (dTup (dCons (dVar 5) (dCons (dOp subD (dVar 6) (dVar 5)) dNil))) [5, 6]) dNil))))))))
theorem rd_merged_greens : ∀ zs cs q, sp_merged_greens zs cs q → t_merged_greens (endD cs.length q) (startD ["cycle", "signal", "found", "offset", "length", "begin", "end"] zs) cs := fun zs cs q h => by
  unfold sp_merged_greens at h
  split at h
  rotate_left
  · exact h.elim
  rename_i c xs
  obtain ⟨gs, rfl, ⟨hc, l1, l2, hg⟩, h⟩ := h
  unfold t_merged_greens
  try walk_at "dl"
  refine dFor_it ?_
  try walk_at "dl"
  refine ⟨gs.map row2, 2, (grD_rows gs).symm, ⟨by decide, by decide, fun r hr => ?_⟩, fun out hp hs => ?_⟩
  · obtain ⟨g, _, rfl⟩ := List.mem_map.mp hr
    rfl
  obtain ⟨ps, rfl, hpp, hps⟩ := rows_out hp hs
  have lps : ps.length = gs.length := hpp.length_eq
  have hgp : ∀ g ∈ ps, StOk c g := fun g hgm => hg g (hpp.mem_iff.mp hgm)
  rw [grD_rows]
  try walk_at "dl"
  refine dForB_mk (fun i en cx => ∃ (xs : List (Int × Int)) (o3 o4 o5 o6 : Option Z), en = [some (.d (.int c)), some (.d (.tup (grD gs))), some (.c cs.length), o3, o4, o5, o6] ∧ cx = cs ++ [.lst (grD xs)] ∧ Laid (ps.take i) xs ∧ xs.length ≤ i)
    ⟨[], _, _, _, _, rfl, rfl, ⟨List.Pairwise.nil, fun t => by simp, fun x hx => by simp at hx, fun h => by simp at h⟩, Nat.le_refl _⟩ (fun i d en cx hd hI => ?_) (fun en cx hI => ?_) (fun _ _ _ _ => trivial)
  · obtain ⟨xs, o3, o4, o5, o6, rfl, rfl, hl, hxl⟩ := hI
    obtain ⟨⟨o, l⟩, hq, rfl⟩ := get_grD hd
    have hil := (List.getElem?_eq_some_iff.mp hq).1
    obtain ⟨a0, a1, a2, a3⟩ := hgp _ (List.mem_of_getElem? hq)
    simp only at a0 a1 a2 a3
    have tk : ps.take (i + 1) = ps.take i ++ [(o, l)] := by
      rw [List.take_add_one, hq]
      rfl
    simp only [prD]
    try walk_at "dl"
    refine ⟨⟨(eqN_grD xs).eq (by decide), (EqN.lst (e := 0) (ds := []) (fun d hd => by simp at hd)).eq (by decide)⟩, ?_⟩
    rw [eqv_nil]
    rcases List.eq_nil_or_concat xs with rfl | ⟨xs', be, rfl⟩
    · rw [show (!(grD ([] : List (Int × Int))).isEmpty) = false from rfl]
      try walk_at "dl"
      refine ⟨by rw [len_grD]; omega, .inl ⟨[(o, o + l)], _, _, _, _, rfl, rfl, ?_, by simp⟩⟩
      rw [tk]
      exact laid_new hl a2 fun x hx => by simp at hx
    · obtain ⟨b, e⟩ := be
      rw [List.concat_eq_append] at *
      have bo : b ≤ o := by
        obtain ⟨_, g, hgm, hgb⟩ := hl.beg (b, e) (by simp)
        simp only at hgb
        have hsp : (ps.take i ++ ps.drop i).Pairwise fun x y => x.1 ≤ y.1 := by rw [List.take_append_drop]; exact hps
        obtain ⟨_, _, h3⟩ := List.pairwise_append.mp hsp
        have := h3 g hgm (o, l) (List.mem_of_getElem? (i := 0) (by rw [List.getElem?_drop]; simpa using hq))
        simp only at this
        omega
      have hbe := (hl.beg (b, e) (by simp)).1
      simp only at hbe
      rw [show (!(grD (xs' ++ [(b, e)])).isEmpty) = true by rw [grD_snoc]; simp, if_pos rfl]
      rw [e_at (at_m1 xs' (b, e))]
      simp only [prD]
      try walk_at "dl"
      by_cases hoe : o ≤ e
      · simp only [hoe]
        try walk_at "dl"
        rw [e_at (at_m1 xs' (b, e))]
        simp only [prD]
        try walk_at "dl"
        try rw [e_at (at_m1 xs' (b, e))]
        try simp only [prD]
        try walk_at "dl"
        refine ⟨(grD xs').length, by rw [grD_snoc]; exact ix_last _ _, .inl ⟨xs' ++ [(b, max e (o + l))], _, _, _, _, rfl, ?_, ?_, ?_⟩⟩
        · rw [grD_snoc, set_snoc, grD_snoc]
          rfl
        · rw [tk]
          exact laid_more hl a2 hoe bo
        · rw [List.length_append] at hxl ⊢
          simp only [List.length_cons, List.length_nil] at hxl ⊢
          omega
      · simp only [hoe]
        try walk_at "dl"
        refine ⟨by rw [len_grD]; omega, .inl ⟨xs' ++ [(b, e)] ++ [(o, o + l)], _, _, _, _, rfl, ?_, ?_, ?_⟩⟩
        · rw [grD_snoc (xs' ++ [(b, e)])]
          rfl
        · rw [tk]
          refine laid_new hl a2 fun x hx => ?_
          rcases List.mem_append.mp hx with hx | hx
          · have := (List.pairwise_append.mp hl.gap).2.2 x hx (b, e) (by simp)
            simp only at this
            omega
          · have q1 : x = (b, e) := by simpa using hx
            rw [q1]
            show e < o
            omega
        · rw [List.length_append]
          simp only [List.length_cons, List.length_nil]
          omega
  · obtain ⟨xs, o3, o4, o5, o6, rfl, rfl, hl, hxl⟩ := hI
    rw [len_grD, List.take_of_length_le (Nat.le_refl _)] at hl
    have ne : xs ≠ [] := hl.ne (fun z => by rw [z] at lps; simp only [List.length_nil] at lps; omega)
    have g0 : Gaps c xs := ⟨hl.gap, fun x hx => by
      obtain ⟨h1, g, hgm, h2⟩ := hl.beg x hx
      obtain ⟨a, b, _, _⟩ := hgp g hgm
      exact ⟨by omega, by omega, h1⟩⟩
    have cov0 : ∀ t, litB c gs t = true ↔ Cov c xs t := fun t => by
      have e1 : litB c gs t = true ↔ litB c ps t = true := by
        unfold litB
        rw [List.any_eq_true, List.any_eq_true]
        exact ⟨fun ⟨g, h1, h2⟩ => ⟨g, hpp.mem_iff.mpr h1, h2⟩, fun ⟨g, h1, h2⟩ => ⟨g, hpp.mem_iff.mp h1, h2⟩⟩
      rw [e1, lit_cov hc hgp, cov_lines hl.cov]
    rw [len_grD] at hxl
    have lx : xs.length ≤ gs.length := by rw [← lps]; exact hxl
    try walk_at "dl"
    generalize hT : dLock _ _ = T
    have fin : ∀ (junk : Cs) (ys : List (Int × Int)) (l : Int × Int) (o3 o4 o5 o6 : Option Z), Gaps c (ys ++ [l]) → (∀ t, litB c gs t = true ↔ Cov c (ys ++ [l]) t) → (ys ++ [l]).length ≤ gs.length → (l.2 < l.1 + c → ∀ x ∈ ys ++ [l], ∀ y ∈ ys ++ [l], y.2 < x.1 + c) →
        T [some (.d (.int c)), some (.d (.tup (grD gs))), some (.c (cs ++ junk).length), o3, o4, o5, o6] (cs ++ junk ++ [.lst (grD (ys ++ [l]))]) := by
      subst hT
      intro junk ys l o3 o4 o5 o6 g cov lx wrap
      have tkc : (cs ++ junk ++ [D.lst (grD (ys ++ [l]))]).take cs.length = cs := by rw [List.append_assoc, List.take_left]
      unfold dLock
      try walk_at "dl"
      rw [e_at (at_m1 ys l)]
      simp only [prD]
      try walk_at "dl"
      rw [e_at (at_m1 ys l)]
      simp only [prD]
      try walk_at "dl"
      by_cases hfull : c ≤ l.2 - l.1
      · simp only [hfull]
        try walk_at "dl"
        rw [tkc]
        exact h [(0, c)] (.inl ⟨rfl, fun t => (cov t).mpr (cov_all hc (x := l) (by simp) (by omega) t)⟩) (by simp only [List.length_cons, List.length_nil]; omega) (fun x hx => by
          have q1 : x = (0, c) := by simpa using hx
          rw [q1]
          exact ⟨by show (0 : Int) ≤ 0; omega, by show 0 < c; omega, by show 1 ≤ c; omega, by show c ≤ c; omega⟩) (by simp)
      · simp only [hfull]
        try walk_at "dl"
        have w := wrap (by omega)
        have arcs := arcs_of hc g (by simp) cov w
        refine dLc_it ?_
        try walk_at "dl"
        rw [e_sc (get_snoc _ _)]
        refine dLc_mk (grD (ys ++ [l])) (fun cx : Cs => cx[(cs ++ junk).length]? = some (D.lst (grD (ys ++ [l])))) _ (fun K h => h) (fun d => match d with
          | .tup [.int a, .int b] => .tup [.int a, .int (b - a)]
          | _ => .non) (by rw [len_grD]; omega) (fun i d acc hd P hP => ?_) ?_ (fun acc => keep_snoc _ _ _)
        · obtain ⟨g', hq, rfl⟩ := get_grD hd
          simp only [prD] at hP ⊢
          try walk_at "dl"
          exact hP
        · rw [show (grD (ys ++ [l])).map (fun d => match d with
            | .tup [.int a, .int b] => .tup [.int a, .int (b - a)]
            | _ => .non) = grD ((ys ++ [l]).map fun x => (x.1, x.2 - x.1)) by
              rw [grD, grD, List.map_map, List.map_map]
              rfl]
          try walk_at "dl"
          rw [tkc]
          exact h _ (.inr arcs) (by rw [List.length_map]; exact lx) (fun x hx => by
            obtain ⟨y, hy, rfl⟩ := List.mem_map.mp hx
            obtain ⟨a, b, d⟩ := g.ok y hy
            have := w y hy y hy
            exact ⟨a, b, by show 1 ≤ y.2 - y.1; omega, by show y.2 - y.1 ≤ c; omega⟩) (by rw [List.length_map, List.length_append]; simp)
    refine ⟨fun m en cx => ∃ (junk : Cs) (xs : List (Int × Int)) (o3 o4 o5 o6 : Option Z), en = [some (.d (.int c)), some (.d (.tup (grD gs))), some (.c (cs ++ junk).length), o3, o4, o5, o6] ∧ cx = (cs ++ junk) ++ [.lst (grD xs)] ∧ xs ≠ [] ∧ Gaps c xs ∧ (∀ t, litB c gs t = true ↔ Cov c xs t) ∧ xs.length ≤ m ∧ xs.length ≤ gs.length,
      ⟨xs.length, [], xs, _, _, _, _, by rw [List.append_nil], by rw [List.append_nil], ne, g0, cov0, Nat.le_refl _, lx⟩, fun m en cx hI => ?_⟩
    obtain ⟨junk, xs, o3, o4, o5, o6, rfl, rfl, ne, g, cov, hm, lx⟩ := hI
    obtain ⟨ys, l, rfl⟩ : ∃ ys l, xs = ys ++ [l] := by
      rcases List.eq_nil_or_concat xs with e | ⟨a, b, e⟩
      · exact absurd e ne
      · exact ⟨a, b, by rw [e, List.concat_eq_append]⟩
    try walk_at "dl"
    rcases ys with _ | ⟨f, mid⟩
    · have hl1 : ¬ (1 : Int) < ((grD ([] ++ [l])).length : Int) := by rw [len_grD]; simp
      simp only [hl1]
      try walk_at "dl"
      refine fin junk [] l _ _ _ _ g cov lx fun hw x hx y hy => ?_
      have q1 : x = l := by simpa using hx
      have q2 : y = l := by simpa using hy
      rw [q1, q2]
      exact hw
    · have hl1 : (1 : Int) < ((grD (f :: mid ++ [l])).length : Int) := by
        rw [len_grD, List.length_append, List.length_cons, List.length_cons, List.length_nil]
        omega
      simp only [hl1]
      try walk_at "dl"
      have am : atI (grD (f :: (mid ++ [l]))) (-1) = some (prD l) := at_m1 (f :: mid) l
      have af : atI (grD (f :: (mid ++ [l]))) 0 = some (prD f) := at_f0 f (mid ++ [l])
      have gl : Gaps c (f :: (mid ++ [l])) := g
      have lx2 : mid.length + 2 ≤ gs.length := by
        rw [List.length_append, List.length_cons, List.length_cons, List.length_nil] at lx
        omega
      have hm2 : mid.length + 2 ≤ m := by
        rw [List.length_append, List.length_cons, List.length_cons, List.length_nil] at hm
        omega
      rw [e_at am]
      simp only [prD]
      try walk_at "dl"
      rw [e_at af]
      simp only [prD]
      try walk_at "dl"
      by_cases hge : f.1 + c ≤ l.2
      · simp only [hge]
        try walk_at "dl"
        rw [e_at am]
        simp only [prD]
        try walk_at "dl"
        try rw [e_at am]
        try simp only [prD]
        try walk_at "dl"
        try rw [e_at af]
        try simp only [prD]
        try walk_at "dl"
        rw [cut_mid]
        obtain ⟨g2, cov2⟩ := cov_wrap hc gl hge
        refine ⟨by rw [len_grD]; omega, .inl ⟨mid.length + 1, by omega, junk ++ [.lst (grD (f :: (mid ++ [l])))], mid ++ [(l.1, max l.2 (f.2 + c))], _, _, _, _, by rw [List.append_assoc], ?_, by simp, g2, fun t => (cov t).trans (cov2 t).symm, ?_, ?_⟩⟩
        · rw [grD_snoc, List.append_assoc cs junk]
          rfl
        · rw [List.length_append]
          simp
        · rw [List.length_append]
          simp only [List.length_cons, List.length_nil]
          omega
      · simp only [hge]
        try walk_at "dl"
        refine fin junk (f :: mid) l _ _ _ _ g cov lx fun _ x hx y hy => ?_
        obtain ⟨p1, p2⟩ := List.pairwise_cons.mp gl.gap
        obtain ⟨_, _, p3⟩ := List.pairwise_append.mp g.gap
        have fx : f.1 ≤ x.1 := by
          rcases List.mem_cons.mp hx with q1 | q1
          · rw [q1]
            exact Int.le_refl _
          · have := p1 x q1
            have := (gl.ok f List.mem_cons_self).2.2
            omega
        have yl : y.2 ≤ l.2 := by
          rcases List.mem_append.mp hy with q1 | q1
          · have := p3 y q1 l (by simp)
            have := (gl.ok l (by simp)).2.2
            omega
          · have q2 : y = l := by simpa using q1
            rw [q2]
            exact Int.le_refl _
        omega
def sp_shortest_greens : DSpec := fun zs cs k => match zs with
  | [.d (.int c), .d (.tup xs)] => ∃ gs, xs = grD gs ∧ (GrOk c gs ∧ 1 ≤ c ∧ c ≤ 10 ^ 30) ∧ ∀ rs, ArcL c gs rs → rs.length ≤ gs.length → (∀ x ∈ rs, StOk c x) → 1 ≤ rs.length → k (.d (.tup (grD rs))) cs
  | _ => False
theorem len_shortest_greens : ∀ zs cs q, sp_shortest_greens zs cs q → zs.length = (["cycle", "signal"] : List Str).length := fun zs cs q h => by
  unfold sp_shortest_greens at h
  split at h
  · rfl
  · exact h.elim
def t_shortest_greens : DS :=
  (dSeq (dDrop (dCall sp_require_signal (dCons (dVar 0) (dCons (dVar 1) dNil))))
  (dRet (dCall sp_merged_greens (dCons (dVar 0) (dCons (dVar 1) dNil)))))
theorem rd_shortest_greens : ∀ zs cs q, sp_shortest_greens zs cs q → t_shortest_greens (endD cs.length q) (startD ["cycle", "signal"] zs) cs := fun zs cs q h => by
  unfold sp_shortest_greens at h
  split at h
  rotate_left
  · exact h.elim
  rename_i c xs
  obtain ⟨gs, rfl, ⟨hg, c1, c2⟩, h⟩ := h
  unfold t_shortest_greens
  try walk_at "dl"
  refine ⟨⟨ok_grD gs, c1, c2, areG_ok hg⟩, gs, rfl, ⟨by omega, hg.lo, Nat.le_trans hg.hi (by decide), hg.st⟩, fun rs h1 h2 h3 h4 => ?_⟩
  exact fz _ _ _ _ rfl (h rs h1 h2 h3 h4)
end K03
set_option Elab.async false
set_option linter.all false
set_option maxRecDepth 100000
set_option maxHeartbeats 2000000
set_option autoImplicit false
namespace K03
open PySem L2 DL K01
/-- so many that all are there -/
theorem cnt_all : ∀ (n : Nat) (L : List Int), L.Nodup → (∀ t ∈ L, 0 ≤ t ∧ t < (n : Int)) → L.length ≤ n ∧ (L.length = n ↔ ∀ t, 0 ≤ t → t < (n : Int) → t ∈ L)
  | 0, L, _, h => by
    have e : L = [] := by
      cases L with
      | nil => rfl
      | cons x L =>
        have := h x List.mem_cons_self
        omega
    subst e
    exact ⟨Nat.le_refl _, fun _ t h0 h1 => by omega, fun _ => rfl⟩
  | n + 1, L, nd, h => by
    by_cases hm : (n : Int) ∈ L
    · have nd2 := nd.erase (n : Int)
      have h2 : ∀ t ∈ L.erase (n : Int), 0 ≤ t ∧ t < (n : Int) := fun t ht => by
        obtain ⟨q1, q2⟩ := (nd.mem_erase_iff).mp ht
        have := h t q2
        omega
      obtain ⟨i1, i2⟩ := cnt_all n _ nd2 h2
      have l := List.length_erase_of_mem hm
      have pos : 0 < L.length := List.length_pos_of_mem hm
      refine ⟨by omega, fun hl t h0 h1 => ?_, fun ha => ?_⟩
      · by_cases e : t = n
        · rw [e]; exact hm
        · exact List.mem_of_mem_erase (i2.mp (by omega) t h0 (by omega))
      · have := i2.mpr fun t h0 h1 => (nd.mem_erase_iff).mpr ⟨by omega, ha t h0 (by omega)⟩
        omega
    · have h2 : ∀ t ∈ L, 0 ≤ t ∧ t < (n : Int) := fun t ht => by
        have := h t ht
        have : t ≠ n := fun e => hm (e ▸ ht)
        omega
      obtain ⟨i1, i2⟩ := cnt_all n L nd h2
      exact ⟨by omega, fun hl => by omega, fun ha => absurd (ha n (by omega) (by omega)) hm⟩
/-- a stretch parted in two -/
theorem lit_part {c p s l t : Int} (hc : 0 < c) (l1 : 1 ≤ l) (ls : l < s) (sc : s ≤ c) : (t - p) % c < s ↔ ((t - (p + l) % c) % c < s - l ∨ (t - p) % c < l) := by
  have e : (t - (p + l) % c) % c = ((t - p) % c - l) % c := by
    rw [Int.sub_emod_emod, Int.emod_sub_emod]
    congr 1
    omega
  rw [e]
  have m0 := Int.emod_nonneg (t - p) (show c ≠ 0 by omega)
  have m1 := Int.emod_lt_of_pos (t - p) hc
  generalize (t - p) % c = u at m0 m1
  by_cases h : l ≤ u
  · rw [Int.emod_eq_of_lt (by omega) (by omega)]
    omega
  · have e2 : (u - l) % c = u - l + c := by
      have : u - l = (u - l + c) + c * (-1) := by omega
      rw [this, Int.add_mul_emod_self_left, Int.emod_eq_of_lt (by omega) (by omega)]
      omega
    rw [e2]
    omega
/-- the longest stretches light what B lights -/
theorem arcs_lit {c : Int} {B : Int → Prop} {rs : List (Int × Int)} (hc : 0 < c) (per : ∀ t k, B (t + k * c) ↔ B t) (h : ArcP c B rs) (t : Int) : litB c rs t = true ↔ B t := by
  unfold litB
  rw [List.any_eq_true]
  rcases h with ⟨rfl, h⟩ | h
  · refine ⟨fun _ => h t, fun _ => ⟨(0, c), by simp, decide_eq_true ?_⟩⟩
    exact Int.emod_lt_of_pos _ hc
  · have red : ∀ a : Int, B (a % c) ↔ B a := fun a => by
      have d := Int.mul_ediv_add_emod a c
      have e : a = a % c + (a / c) * c := by rw [Int.mul_comm]; omega
      have := per (a % c) (a / c)
      rw [← e] at this
      exact this.symm
    constructor
    · rintro ⟨x, hx, hlt⟩
      have hlt := of_decide_eq_true hlt
      obtain ⟨_, h2, _⟩ := h.runs x hx
      have m0 := Int.emod_nonneg (t - x.1) (show c ≠ 0 by omega)
      have b := h2 _ m0 hlt
      have d := Int.mul_ediv_add_emod (t - x.1) c
      have e : x.1 + (t - x.1) % c = t + (-((t - x.1) / c)) * c := by
        rw [Int.neg_mul, Int.mul_comm]
        omega
      rw [e] at b
      exact (per t _).mp b
    · intro hb
      obtain ⟨z, hz⟩ := h.some_off
      -- the nearest moment behind t that is off
      have ex : ∃ j : Nat, ¬ B (t - 1 - (j : Int)) := by
        have m0 := Int.emod_nonneg (t - 1 - z) (show c ≠ 0 by omega)
        refine ⟨((t - 1 - z) % c).toNat, fun q => hz ?_⟩
        rw [Int.toNat_of_nonneg m0] at q
        have d := Int.mul_ediv_add_emod (t - 1 - z) c
        have e : t - 1 - (t - 1 - z) % c = z + ((t - 1 - z) / c) * c := by
          rw [Int.mul_comm]
          omega
        rw [e] at q
        exact (per z _).mp q
      have least : ∃ j : Nat, ¬ B (t - 1 - (j : Int)) ∧ ∀ i : Nat, i < j → B (t - 1 - (i : Int)) := by
        obtain ⟨j, hj⟩ := ex
        induction j using Nat.strongRecOn with
        | ind j ih =>
          by_cases hall : ∀ i : Nat, i < j → B (t - 1 - (i : Int))
          · exact ⟨j, hj, hall⟩
          · have ⟨i, hi⟩ := Classical.not_forall.mp hall
            have ⟨hij, hni⟩ := Classical.not_imp.mp hi
            exact ih i hij hni
      obtain ⟨j, hj, hall⟩ := least
      have lit : ∀ a : Int, t - j ≤ a → a ≤ t → B a := fun a h1 h2 => by
        by_cases e : a = t
        · rw [e]; exact hb
        · have := hall (t - 1 - a).toNat (by omega)
          rwa [show t - 1 - ((t - 1 - a).toNat : Int) = a by omega] at this
      have s0 := Int.emod_nonneg (t - j) (show c ≠ 0 by omega)
      have s1 := Int.emod_lt_of_pos (t - j) hc
      have ds := Int.mul_ediv_add_emod (t - j) c
      obtain ⟨l, hl⟩ := (h.starts ((t - j) % c)).mpr ⟨s0, s1, (red _).mpr (lit _ (Int.le_refl _) (by omega)), fun q => hj (by
        have e : t - 1 - (j : Int) = ((t - j) % c - 1) + ((t - j) / c) * c := by
          rw [Int.mul_comm]
          omega
        rw [e]
        exact (per _ _).mpr q)⟩
      obtain ⟨r1, r2, r3⟩ := h.runs _ hl
      simp only at r1 r2 r3
      have jl : (j : Int) < l := by
        refine Classical.byContradiction fun q => r3 ?_
        have b := lit (t - j + l) (by omega) (by omega)
        have e : t - j + l = ((t - j) % c + l) + ((t - j) / c) * c := by
          rw [Int.mul_comm]
          omega
        rw [e] at b
        exact (per _ _).mp b
      have lc : l ≤ c := by
        refine Classical.byContradiction fun q => hj ?_
        have b := r2 (c - 1) (by omega) (by omega)
        have e : t - 1 - (j : Int) = ((t - j) % c + (c - 1)) + ((t - j) / c - 1) * c := by
          rw [Int.sub_mul, Int.mul_comm, Int.one_mul]
          omega
        rw [e]
        exact (per _ _).mpr b
      refine ⟨_, hl, decide_eq_true ?_⟩
      show (t - (t - j) % c) % c < l
      have e : t - (t - j) % c = j + c * ((t - j) / c) := by omega
      rw [e, Int.add_mul_emod_self_left, Int.emod_eq_of_lt (by omega) (by omega)]
      exact jl
/-- in the cycle f times as long -/
theorem arcs_sc {c f : Int} {B B' : Int → Prop} {rs : List (Int × Int)} (hc : 0 < c) (hf : 0 < f) (hB : ∀ t r, 0 ≤ r → r < f → (B' (t * f + r) ↔ B t)) (h : ArcP c B rs) : ArcP (c * f) B' (scG f rs) := by
  have all : ∀ T : Int, B' T ↔ B (T / f) := fun T => by
    have m0 := Int.emod_nonneg T (show f ≠ 0 by omega)
    have m1 := Int.emod_lt_of_pos T hf
    have d := Int.mul_ediv_add_emod T f
    have := hB (T / f) (T % f) m0 m1
    rwa [Int.mul_comm, d] at this
  have at0 : ∀ t : Int, B' (t * f) ↔ B t := fun t => by
    have := hB t 0 (Int.le_refl _) hf
    rwa [Int.add_zero] at this
  have at1 : ∀ t : Int, B' (t * f - 1) ↔ B (t - 1) := fun t => by
    have := hB (t - 1) (f - 1) (by omega) (by omega)
    rwa [show (t - 1) * f + (f - 1) = t * f - 1 by rw [Int.sub_mul]; omega] at this
  rcases h with ⟨rfl, h⟩ | h
  · exact .inl ⟨by simp [scG], fun T => (all T).mpr (h _)⟩
  · refine .inr ⟨?_, ?_, fun T => ⟨?_, ?_⟩, fun x hx => ?_⟩
    · obtain ⟨t, ht⟩ := h.some_off
      exact ⟨t * f, fun q => ht ((at0 t).mp q)⟩
    · unfold scG
      rw [List.pairwise_map]
      exact h.asc.imp fun {x y} q => Int.mul_lt_mul_of_pos_right q hf
    · rintro ⟨L, hL⟩
      obtain ⟨x, hx, e⟩ := List.mem_map.mp hL
      cases e
      obtain ⟨a, b, d, e⟩ := (h.starts x.1).mp ⟨x.2, hx⟩
      exact ⟨Int.mul_nonneg a (by omega), Int.mul_lt_mul_of_pos_right b hf, (at0 _).mpr d, fun q => e ((at1 _).mp q)⟩
    · rintro ⟨t0, t1, b, nb⟩
      have m0 := Int.emod_nonneg T (show f ≠ 0 by omega)
      have m1 := Int.emod_lt_of_pos T hf
      have d := Int.mul_ediv_add_emod T f
      rw [Int.mul_comm] at d
      have z : T % f = 0 := by
        refine Classical.byContradiction fun q => nb ?_
        have := hB (T / f) (T % f - 1) (by omega) (by omega)
        rw [show T / f * f + (T % f - 1) = T - 1 by omega] at this
        exact this.mpr ((all T).mp b)
      have eT : T = T / f * f := by omega
      rw [eT] at b nb
      have q0 : 0 ≤ T / f := Int.ediv_nonneg t0 (by omega)
      have q1 : T / f < c := Int.ediv_lt_of_lt_mul hf t1
      obtain ⟨l, hl⟩ := (h.starts (T / f)).mpr ⟨q0, q1, (at0 _).mp b, fun q => nb ((at1 _).mpr q)⟩
      exact ⟨l * f, List.mem_map.mpr ⟨_, hl, by simp only; rw [← eT]⟩⟩
    · obtain ⟨y, hy, rfl⟩ := List.mem_map.mp hx
      obtain ⟨r1, r2, r3⟩ := h.runs y hy
      refine ⟨?_, fun j j0 j1 => ?_, ?_⟩
      · have := Int.mul_le_mul_of_nonneg_right r1 (show 0 ≤ f by omega)
        simp only
        omega
      · simp only at j1 ⊢
        have m0 := Int.emod_nonneg j (show f ≠ 0 by omega)
        have m1 := Int.emod_lt_of_pos j hf
        have d := Int.mul_ediv_add_emod j f
        rw [Int.mul_comm] at d
        have := hB (y.1 + j / f) (j % f) m0 m1
        rw [show (y.1 + j / f) * f + j % f = y.1 * f + j by rw [Int.add_mul]; omega] at this
        exact this.mpr (r2 _ (Int.ediv_nonneg j0 (by omega)) (Int.ediv_lt_of_lt_mul hf j1))
      · simp only
        rw [← Int.add_mul]
        exact fun q => r3 ((at0 _).mp q)
end K03
set_option Elab.async false
set_option linter.all false
set_option maxRecDepth 100000
set_option maxHeartbeats 2000000
set_option autoImplicit false
namespace K03
open PySem L2 DL K01
local macro_rules | `(tactic| walk_at "dl") => `(tactic| simp only [dSeq, dNext, dBreak, dCont, dDrop, dRet, dRetN, dIfS, dNever, dAsg, dPar, dPutK, dAppend, dExtend, dCall, dVar, dC, dOp, dChain, dUn, dB, dNot, dAnd, dOr, dAndV, dOrV, dNotV, dIf, dNil, dCons, dTup, dLst, dLstC, dCB, dInK, dGetK, dDicC, dNoPart, dPart, dSl, dBits, dRev,
  dgName, dgsNil, dgsCons, dgTup, dgSet, diSeq, diR1, e_diR2, e_r2, diEnum, startD, endD, finZ_d, finD, finC, List.take_length, dYes, wipeD, ix0, ix1, ix2, get_snoc, set_snoc, take_snoc,
  dOpC, dSlC, dListC, e_addC, e_mulC, e_loCl, e_loCt, e_loCs, e_wd, e_wc0, e_wcs, e_wsn, e_wc1, e_wc2, e_wl0, e_wl1, e_dl0, e_dl1, e_sl, e_st, e_ss, e_addi, e_adds, e_addt, e_addl, e_sub, e_muli, e_mult, e_mull, e_fdiv, e_mod, e_pow, e_neg, e_lt, e_le, e_gt, e_ge, e_eqi, e_eqs, e_eql, e_eqt, e_eqb, e_eqn, e_nei, e_nes, e_nel, e_net, e_neb, e_nen, e_isb, e_isn, e_inb, e_inn, e_in1, e_in2, e_in3, e_in4, e_in5,
  e_ixt, e_ixl, e_ixs, e_at0, e_at1, e_at2, e_at3, e_at4, e_at5, e_atl, e_keyi, e_keys, e_lenl, e_lent, e_lens, e_lend, e_maxi, e_mini, e_maxl, e_minl, e_sum, e_all, e_any, e_inti, e_intb, e_abs, e_tol, e_tot, e_tos, e_lol, e_lot, e_los, e_sll, e_slt, e_rvl, e_rvt, e_repr, e_isi, e_srtl, e_srtt,
  List.map_cons, List.map_nil, List.length_cons, List.length_nil, List.cons_append, List.nil_append, List.flatten_cons, List.flatten_nil, List.append_nil, List.replicate_succ, List.replicate_zero, List.getElem?_cons_zero, List.getElem?_cons_succ, List.set_cons_zero, List.set_cons_succ, Nat.reduceSub, Nat.reduceAdd, Int.reduceToNat, Int.reduceLE, Int.reduceLT, Int.reduceNeg, Nat.reduceLeDiff, Nat.reduceLT, Nat.zero_add, Option.some.injEq, Z.d.injEq, Z.c.injEq, D.bl.injEq, D.int.injEq, D.tup.injEq, D.lst.injEq,
  List.take_succ_cons, List.take_zero, exists_eq_left', exists_eq_left, true_and, and_true, if_true, Bool.not_true, Bool.not_false, Bool.false_eq_true, if_false, decide_true, decide_false])
structure Keys (c : Int) (kvs : List (Key × D)) : Prop where
  nd : (kvs.map (·.1)).Nodup
  inr : ∀ k ∈ kvs.map (·.1), ∃ t, k = Sum.inl t ∧ 0 ≤ t ∧ t < c
theorem getK_key {kvs : List (Key × D)} {k : Key} : (getK kvs k).isSome = true ↔ k ∈ kvs.map (·.1) := by
  unfold getK
  rw [Option.isSome_map, List.find?_isSome]
  constructor
  · rintro ⟨x, hx, e⟩
    exact List.mem_map.mpr ⟨x, hx, of_decide_eq_true e⟩
  · intro h
    obtain ⟨x, hx, e⟩ := List.mem_map.mp h
    exact ⟨x, hx, decide_eq_true e⟩
theorem Keys.put {c : Int} {kvs : List (Key × D)} (h : Keys c kvs) {t : Int} (t0 : 0 ≤ t) (t1 : t < c) (d : D) : Keys c (setK kvs (.inl t) d) := by
  unfold setK
  by_cases ha : (kvs.any fun kv => decide (kv.1 = Sum.inl t)) = true
  · rw [if_pos ha]
    have e : (kvs.map fun kv => if kv.1 = Sum.inl t then (kv.1, d) else kv).map (·.1) = kvs.map (·.1) := by
      rw [List.map_map]
      refine List.map_congr_left fun kv _ => ?_
      show (if kv.1 = Sum.inl t then (kv.1, d) else kv).1 = kv.1
      split <;> rfl
    exact ⟨by rw [e]; exact h.nd, by rw [e]; exact h.inr⟩
  · rw [if_neg ha]
    have hn : Sum.inl t ∉ kvs.map (·.1) := fun hm => ha (by
      obtain ⟨x, hx, e⟩ := List.mem_map.mp hm
      exact List.any_eq_true.mpr ⟨x, hx, decide_eq_true e⟩)
    refine ⟨?_, fun k hk => ?_⟩
    · rw [List.map_append]
      exact List.nodup_append.mpr ⟨h.nd, by simp, fun a ha b hb => by
        have e : b = Sum.inl t := by simpa using hb
        rw [e]
        exact fun q => hn (q ▸ ha)⟩
    · rw [List.map_append] at hk
      rcases List.mem_append.mp hk with hk | hk
      · exact h.inr k hk
      · have e : k = Sum.inl t := by simpa using hk
        exact ⟨t, e, t0, t1⟩
def unk : Key → Int
  | .inl t => t
  | .inr _ => 0
theorem Keys.full {c : Int} {kvs : List (Key × D)} (hc : 0 ≤ c) (h : Keys c kvs) : ((kvs.length : Int) = c ↔ ∀ t, 0 ≤ t → t < c → (getK kvs (.inl t)).isSome = true) := by
  have nd : ((kvs.map (·.1)).map unk).Nodup := by
    have : (kvs.map (·.1)).Pairwise (· ≠ ·) := h.nd
    show List.Pairwise (· ≠ ·) _
    rw [List.pairwise_map]
    exact this.imp_of_mem fun {a b} ha hb hab q => hab (by
      obtain ⟨t, rfl, _⟩ := h.inr a ha
      obtain ⟨u, rfl, _⟩ := h.inr b hb
      have : t = u := q
      rw [this])
  have hin : ∀ t ∈ (kvs.map (·.1)).map unk, 0 ≤ t ∧ t < ((c.toNat : Nat) : Int) := fun t ht => by
    obtain ⟨k, hk, rfl⟩ := List.mem_map.mp ht
    obtain ⟨u, rfl, h1, h2⟩ := h.inr k hk
    exact ⟨h1, by show u < _; omega⟩
  have mem : ∀ t, t ∈ (kvs.map (·.1)).map unk ↔ (getK kvs (.inl t)).isSome = true := fun t => by
    rw [getK_key]
    constructor
    · intro ht
      obtain ⟨k, hk, e⟩ := List.mem_map.mp ht
      obtain ⟨u, rfl, _⟩ := h.inr k hk
      have : u = t := e
      rw [← this]
      exact hk
    · exact fun ht => List.mem_map.mpr ⟨_, ht, rfl⟩
  have := (cnt_all c.toNat _ nd hin).2
  rw [List.length_map, List.length_map] at this
  constructor
  · intro hl t t0 t1
    exact (mem t).mp (this.mp (by omega) t t0 (by omega))
  · intro ha
    have := this.mpr fun t t0 t1 => (mem t).mpr (ha t t0 (by omega))
    omega
def sp_l_rests : DSpec := fun zs cs k => match zs with
  | [.d (.int c), .d (.tup xs)] => ∃ gs, xs = grD gs ∧ (GrOk c gs ∧ c ≤ 40) ∧ ∀ kvs, (∀ t, 0 ≤ t → t < c → (getK kvs (.inl t)).isSome = litB c gs t) → Keys c kvs → k (.d (.dic kvs)) cs
  | _ => False
theorem len_l_rests : ∀ zs cs q, sp_l_rests zs cs q → zs.length = (["_law_span", "_law_greens_here"] : List Str).length := fun zs cs q h => by
  unfold sp_l_rests at h
  split at h
  · rfl
  · exact h.elim
theorem rd_l_rests : ∀ zs cs q, sp_l_rests zs cs q → t_l_rests (endD cs.length q) (startD ["_law_span", "_law_greens_here", "_law_found", "_law_place", "_law_size", "_law_j"] zs) cs := fun zs cs q h => by
  unfold sp_l_rests at h
  split at h
  rotate_left
  · exact h.elim
  rename_i c xs
  obtain ⟨gs, rfl, ⟨hg, hc⟩, h⟩ := h
  unfold t_l_rests
  walk_at "dl"
  refine dFor_mk (grD gs) yes (cs ++ [.dic []]) (fun K h => by walk_at "dl"; exact h) (fun i en c1 => ∃ (kvs : List (Key × D)) (o3 o4 o5 : Option Z), en = [some (.d (.int c)), some (.d (.tup (grD gs))), some (.c cs.length), o3, o4, o5] ∧ c1 = cs ++ [.dic kvs] ∧ kvs.length ≤ i * 100 ∧
    (∀ t, 0 ≤ t → t < c → (getK kvs (.inl t)).isSome = litB c (gs.take i) t) ∧ Keys c kvs) ⟨[], _, _, _, rfl, rfl, Nat.le_refl _, fun t _ _ => rfl, by simp, fun k hk => by simp at hk⟩ (fun i d en c1 hd hI => ?_) (fun en c1 hI => ?_) (fun _ _ _ _ => trivial)
  · obtain ⟨kvs, o3, o4, o5, rfl, rfl, hl, ht, hky⟩ := hI
    obtain ⟨⟨p, n⟩, hq, rfl⟩ := get_grD hd
    have hi : i < gs.length := (List.getElem?_eq_some_iff.mp hq).1
    have h6 := hg.hi
    obtain ⟨p0, p1, n0, n1⟩ := hg.st _ (List.mem_of_getElem? hq)
    simp only at p0 p1 n0 n1
    have tk : gs.take (i + 1) = gs.take i ++ [(p, n)] := by
      rw [List.take_add_one, hq]
      rfl
    simp only [prD]
    walk_at "dl"
    refine dFor_mk (rgD 0 n.toNat) yes (cs ++ [.dic kvs]) (fun K h => by walk_at "dl"; exact ⟨⟨by omega, by omega⟩, h⟩) (fun j en c1 => ∃ (kvs : List (Key × D)) (o5 : Option Z), en = [some (.d (.int c)), some (.d (.tup (grD gs))), some (.c cs.length), some (.d (.int p)), some (.d (.int n)), o5] ∧ c1 = cs ++ [.dic kvs] ∧ kvs.length ≤ i * 100 + j ∧
      (∀ t, 0 ≤ t → t < c → (getK kvs (.inl t)).isSome = (litB c (gs.take i) t || decide ((t - p) % c < (j : Int)))) ∧ Keys c kvs) ⟨kvs, _, rfl, rfl, hl, fun t t0 t1 => ?_, hky⟩ (fun j d en c1 hd hI => ?_) (fun en c1 hI => ?_) (fun _ _ _ _ => trivial)
    · rw [ht t t0 t1, decide_eq_false (by have := Int.emod_nonneg (t - p) (show c ≠ 0 by omega); omega), Bool.or_false]
    · obtain ⟨hj, rfl⟩ := rgD_get hd
      obtain ⟨kvs, o5, rfl, rfl, hl, ht, hky⟩ := hI
      walk_at "dl"
      refine ⟨by omega, by omega, .inl ⟨_, _, rfl, rfl, ?_, fun t t0 t1 => ?_, hky.put (Int.emod_nonneg _ (by omega)) (Int.emod_lt_of_pos _ (by omega)) _⟩⟩
      · have := setK_len kvs (.inl ((p + (j : Int)) % c)) (.bl true)
        simp only [Int.zero_add]
        omega
      · rw [getK_set]
        have mk := mod_key (p := p) t0 t1 (j := (j : Int)) (by omega) (by omega)
        simp only [Int.zero_add]
        by_cases e : t = (p + (j : Int)) % c
        · have e2 := mk.mpr e
          rw [if_pos (by rw [← e]), decide_eq_true (show (t - p) % c < ((j + 1 : Nat) : Int) by omega), Bool.or_true]
          rfl
        · have e2 : ¬ (t - p) % c = (j : Int) := fun z => e (mk.mp z)
          rw [if_neg (fun z => e (Sum.inl.inj z)), ht t t0 t1]
          congr 1
          rw [decide_eq_decide]
          omega
    · obtain ⟨kvs, o5, rfl, rfl, hl, ht, hky⟩ := hI
      rw [rgD_len] at hl ht
      refine .inl ⟨kvs, _, _, _, rfl, rfl, by omega, fun t t0 t1 => ?_, hky⟩
      rw [ht t t0 t1, tk, litB_snoc, Int.toNat_of_nonneg (by omega)]
  · obtain ⟨kvs, o3, o4, o5, rfl, rfl, hl, ht, hky⟩ := hI
    rw [len_grD, List.take_length] at ht
    walk_at "dl"
    refine finZ_froz (Nat.le_refl _) (get_snoc _ _) ?_
    rw [take_snoc]
    exact h kvs ht hky
def sp_l_parted : DSpec := fun zs cs k => match zs, cs with
  | [.c 0, .d (.tup xs), .d (.int c)], x :: rest => ∃ L gs, xs = grD gs ∧ Pond L x ∧ (GrOk c gs ∧ c ≤ 40 ∧ L ≤ 10 ^ 10) ∧ ∀ gs' x', GrOk c gs' → (∀ t, litB c gs' t = litB c gs t) → Pond (L + 10) x' → k (.d (.tup (grD gs'))) (x' :: rest)
  | _, _ => False
theorem litB_rev (c : Int) (gs : List (Int × Int)) (t : Int) : litB c gs.reverse t = litB c gs t := by
  unfold litB
  rw [List.any_reverse]
theorem gr_rev {c : Int} {gs : List (Int × Int)} (h : GrOk c gs) : GrOk c gs.reverse := ⟨by rw [List.length_reverse]; exact h.lo, by rw [List.length_reverse]; exact h.hi, fun g hg => h.st g (List.mem_reverse.mp hg)⟩
theorem grD_rev (gs : List (Int × Int)) : (grD gs).reverse = grD gs.reverse := by
  unfold grD
  rw [List.map_reverse]
theorem grD_app (a b : List (Int × Int)) : grD a ++ grD b = grD (a ++ b) := by
  unfold grD
  rw [List.map_append]
theorem cut_take {α : Type} (xs : List α) (n : Nat) : cutG xs none (some (n : Int)) = xs.take n := by
  unfold cutG
  rw [HT.sIx_none, HT.sIx_nat, List.drop_zero, Nat.sub_zero]
  by_cases h : n ≤ xs.length
  · rw [Nat.min_eq_left h]
  · rw [Nat.min_eq_right (by omega), List.take_length, List.take_of_length_le (by omega)]
theorem cut_drop {α : Type} (xs : List α) (n : Nat) : cutG xs (some (n : Int)) none = xs.drop n := by
  unfold cutG
  rw [HT.sIx_none, HT.sIx_nat]
  by_cases h : n ≤ xs.length
  · rw [Nat.min_eq_left h, List.take_of_length_le (by rw [List.length_drop]; omega)]
  · rw [Nat.min_eq_right (by omega), Nat.sub_self, List.take_zero, List.drop_of_length_le (by omega)]
theorem len_l_parted : ∀ zs cs q, sp_l_parted zs cs q → zs.length = (["_law_pond_here", "_law_greens_here", "_law_span"] : List Str).length := fun zs cs q h => by
  unfold sp_l_parted at h
  split at h
  · rfl
  · exact h.elim
def t_l_parted : DS :=
  (dSeq (dAsg (dOp ixD (dVar 1) (dC (.int 0))) (dgTup 2 (dgsCons (dgName 3) (dgsCons (dgName 4) dgsNil))))
  (dSeq (dIfS (dOr (dB (dOp eqUD (dVar 4) (dC (.int 1)))) (dB (dOp eqUD (dCB lenD (dCons (dVar 1) dNil)) (dC (.int 6))))) (dRet (dRev (dVar 1))) dNext)
  (dSeq (dAsg (dOp addD (dC (.int 1)) (dCall sp_l_fish (dCons (dVar 0) (dCons (dOp subD (dVar 4) (dC (.int 1))) dNil)))) (dgName 5))
  (dRet (dOp addD (dSl (dVar 1) (dPart (dC (.int 1))) dNoPart) (dTup (dCons (dTup (dCons (dOp modD (dOp addD (dVar 3) (dVar 5)) (dVar 2)) (dCons (dOp subD (dVar 4) (dVar 5)) dNil))) (dCons (dTup (dCons (dVar 3) (dCons (dVar 5) dNil))) dNil))))))))
theorem rd_l_parted : ∀ zs cs q, sp_l_parted zs cs q → t_l_parted (endD cs.length q) (startD ["_law_pond_here", "_law_greens_here", "_law_span", "_law_place", "_law_size", "_law_left"] zs) cs := fun zs cs q h => by
  unfold sp_l_parted at h
  split at h
  rotate_left
  · exact h.elim
  rename_i xs c x rest
  obtain ⟨L, gs, rfl, hP, ⟨hg, hc, hL⟩, h⟩ := h
  have g1 := hg.lo
  have g6 := hg.hi
  obtain ⟨⟨p, s⟩, gt, rfl⟩ : ∃ a b, gs = a :: b := by
    cases gs with
    | nil => simp at g1
    | cons a b => exact ⟨a, b, rfl⟩
  obtain ⟨p0, p1, s1, s2⟩ := hg.st (p, s) (by simp)
  simp only at p0 p1 s1 s2
  unfold t_l_parted
  try walk_at "dl"
  rw [e_at (at_f0 (p, s) gt)]
  simp only [prD]
  try walk_at "dl"
  have hrev : q (.d (.tup (grD ((p, s) :: gt)).reverse)) (x :: rest) := by
    rw [grD_rev]
    exact h _ x (gr_rev hg) (fun t => litB_rev c _ t) (hP.le (by omega))
  by_cases hs1 : s = 1
  · simp only [hs1] at hrev ⊢
    try walk_at "dl"
    exact hrev
  · simp only [hs1]
    try walk_at "dl"
    by_cases h6 : ((grD ((p, s) :: gt)).length : Int) = 6
    · simp only [h6]
      try walk_at "dl"
      exact hrev
    · simp only [h6]
      try walk_at "dl"
      rw [len_grD, List.length_cons] at h6
      rw [List.length_cons] at g6
      refine fish_use hP ⟨by omega, by omega, by omega⟩ fun r x2 r0 r1 p2 => ?_
      try walk_at "dl"
      have e1 : cutG (grD ((p, s) :: gt)) (some 1) none = grD gt := by
        have := cut_drop (grD ((p, s) :: gt)) 1
        exact this
      rw [e1]
      have e2 : grD gt ++ [D.tup [.int ((p + (1 + r)) % c), .int (s - (1 + r))], D.tup [.int p, .int (1 + r)]] = grD (gt ++ [((p + (1 + r)) % c, s - (1 + r)), (p, 1 + r)]) := by
        rw [← grD_app]
        rfl
      rw [e2]
      have hc0 : 0 < c := by omega
      refine ⟨hc0, by rw [len_grD]; omega, h _ x2 ⟨by rw [List.length_append]; simp, by rw [List.length_append]; simp only [List.length_cons, List.length_nil]; omega, fun g hgm => ?_⟩ (fun t => ?_) p2⟩
      · rcases List.mem_append.mp hgm with hgm | hgm
        · exact hg.st g (List.mem_cons_of_mem _ hgm)
        · rcases List.mem_cons.mp hgm with e | hgm
          · rw [e]
            exact ⟨Int.emod_nonneg _ (by omega), Int.emod_lt_of_pos _ hc0, by simp only; omega, by simp only; omega⟩
          · have e : g = (p, 1 + r) := by simpa using hgm
            rw [e]
            exact ⟨p0, p1, by simp only; omega, by simp only; omega⟩
      · unfold litB
        rw [List.any_append, List.any_cons, List.any_cons, List.any_nil, List.any_cons, Bool.or_false, Bool.or_comm]
        congr 1
        have := lit_part (t := t) (p := p) (s := s) (l := 1 + r) hc0 (by omega) (by omega) s2
        rw [← Bool.decide_or, decide_eq_decide]
        exact this.symm
def sp_l_arcs : DSpec := fun zs cs k => match zs with
  | [.d (.int c), .d (.dic kvs)] => ∃ B : Int → Bool, (1 ≤ c ∧ c ≤ 40 ∧ (∀ t, B (t % c) = B t) ∧ (∀ t, 0 ≤ t → t < c → (getK kvs (.inl t)).isSome = B t) ∧ Keys c kvs) ∧
      ∀ rs, ArcP c (fun t => B t = true) rs → rs.length ≤ 40 → (∀ x ∈ rs, StOk c x) → k (.d (.tup (grD rs))) cs
  | _ => False
theorem len_l_arcs : ∀ zs cs q, sp_l_arcs zs cs q → zs.length = (["_law_span", "_law_lit"] : List Str).length := fun zs cs q h => by
  unfold sp_l_arcs at h
  split at h
  · rfl
  · exact h.elim
def t_l_arcs : DS :=
  (dSeq (dIfS (dB (dOp eqUD (dCB lenD (dCons (dVar 1) dNil)) (dVar 0))) (dRet (dTup (dCons (dTup (dCons (dC (.int 0)) (dCons (dVar 0) dNil))) dNil))) dNext)
  (dSeq (dAsg (dLstC dNil) (dgName 2))
  (dSeq (dFor (diR1 (dVar 0)) (dgName 3) (dIfS (dAnd (dB (dInK false (dVar 3) (dVar 1))) (dB (dInK true (dOp modD (dOp subD (dVar 3) (dC (.int 1))) (dVar 0)) (dVar 1)))) (dSeq (dAsg (dC (.int 1)) (dgName 4))
  (dSeq (dWhile (dB (dInK false (dOp modD (dOp addD (dVar 3) (dVar 4)) (dVar 0)) (dVar 1))) (dAsg (dOp addD (dVar 4) (dC (.int 1))) (dgName 4)))
  (dDrop (dAppend (dVar 2) (dTup (dCons (dVar 3) (dCons (dVar 4) dNil))))))) dNext))
  (dRet (dCB tupOfD (dCons (dVar 2) dNil))))))
theorem rd_l_arcs : ∀ zs cs q, sp_l_arcs zs cs q → t_l_arcs (endD cs.length q) (startD ["_law_span", "_law_lit", "_law_found", "_law_t", "_law_size"] zs) cs := fun zs cs q h => by
  unfold sp_l_arcs at h
  split at h
  rotate_left
  · exact h.elim
  rename_i c kvs
  obtain ⟨B, ⟨c1, c40, per, hk, hky⟩, h⟩ := h
  have red : ∀ t, (getK kvs (.inl (t % c))).isSome = B t := fun t => by
    rw [hk _ (Int.emod_nonneg _ (by omega)) (Int.emod_lt_of_pos _ (by omega)), per]
  have full := hky.full (by omega)
  unfold t_l_arcs
  try walk_at "dl"
  by_cases hl : (kvs.length : Int) = c
  · simp only [hl]
    try walk_at "dl"
    exact h [(0, c)] (.inl ⟨rfl, fun t => by
      show B t = true
      rw [← red]
      exact full.mp hl _ (Int.emod_nonneg _ (by omega)) (Int.emod_lt_of_pos _ (by omega))⟩) (by simp) (fun x hx => by
        have e : x = (0, c) := by simpa using hx
        rw [e]
        exact ⟨by show (0 : Int) ≤ 0; omega, by show 0 < c; omega, by show 1 ≤ c; omega, by show c ≤ c; omega⟩)
  · simp only [hl]
    try walk_at "dl"
    have off : ∃ t, ¬ B t = true := by
      refine Classical.byContradiction fun hn => hl (full.mpr fun t t0 t1 => ?_)
      rw [hk t t0 t1]
      exact Classical.byContradiction fun q => hn ⟨t, q⟩
    refine dFor_mk (rgD 0 c.toNat) yes (cs ++ [.lst []]) (fun K h => by walk_at "dl"; exact ⟨⟨by omega, by omega⟩, h⟩) (fun i en cx => ∃ (xs : List (Int × Int)) (o3 o4 : Option Z), en = [some (.d (.int c)), some (.d (.dic kvs)), some (.c cs.length), o3, o4] ∧ cx = cs ++ [.lst (grD xs)] ∧ xs.length ≤ i ∧
      (xs.Pairwise fun x y => x.1 < y.1) ∧ (∀ t, (∃ l, (t, l) ∈ xs) ↔ (0 ≤ t ∧ t < (i : Int) ∧ B t = true ∧ ¬ B (t - 1) = true)) ∧ ∀ x ∈ xs, x.2 ≤ c ∧ 1 ≤ x.2 ∧ (∀ j, 0 ≤ j → j < x.2 → B (x.1 + j) = true) ∧ ¬ B (x.1 + x.2) = true)
      ⟨[], _, _, rfl, rfl, Nat.le_refl _, List.Pairwise.nil, fun t => ⟨fun ⟨l, hl⟩ => by simp at hl, fun ⟨a, b, _⟩ => by omega⟩, fun x hx => by simp at hx⟩ (fun i d en cx hd hI => ?_) (fun en cx hI => ?_) (fun _ _ _ _ => trivial)
    · obtain ⟨hi, rfl⟩ := rgD_get hd
      obtain ⟨xs, o3, o4, rfl, rfl, hxl, asc, st, rn⟩ := hI
      have i0 : (0 : Int) + (i : Int) = i := by omega
      rw [i0]
      have skip : ∀ o3 o4 : Option Z, ¬ (B i = true ∧ ¬ B (i - 1) = true) → Wkn (cs ++ [D.lst []]).length (fun en cx => ∃ (xs : List (Int × Int)) (o3 o4 : Option Z), en = [some (.d (.int c)), some (.d (.dic kvs)), some (.c cs.length), o3, o4] ∧ cx = cs ++ [.lst (grD xs)] ∧ xs.length ≤ i + 1 ∧
          (xs.Pairwise fun x y => x.1 < y.1) ∧ (∀ t, (∃ l, (t, l) ∈ xs) ↔ (0 ≤ t ∧ t < ((i + 1 : Nat) : Int) ∧ B t = true ∧ ¬ B (t - 1) = true)) ∧ ∀ x ∈ xs, x.2 ≤ c ∧ 1 ≤ x.2 ∧ (∀ j, 0 ≤ j → j < x.2 → B (x.1 + j) = true) ∧ ¬ B (x.1 + x.2) = true)
          [some (.d (.int c)), some (.d (.dic kvs)), some (.c cs.length), o3, o4] (cs ++ [.lst (grD xs)]) := fun o3 o4 hno => by
        refine .inl ⟨xs, _, _, rfl, rfl, by omega, asc, fun t => (st t).trans ⟨fun ⟨a, b, d⟩ => ⟨a, by omega, d⟩, fun ⟨a, b, d⟩ => ⟨a, ?_, d⟩⟩, rn⟩
        by_cases e : t = i
        · rw [e] at d
          exact absurd d hno
        · omega
      try walk_at "dl"
      rw [hk i (by omega) (by omega)]
      cases hb : B i with
      | false =>
        try walk_at "dl"
        exact skip _ _ (fun z => by rw [hb] at z; exact absurd z.1 (by decide))
      | true =>
        try walk_at "dl"
        refine ⟨by omega, ?_⟩
        rw [red]
        cases hb1 : B (i - 1) with
        | true =>
          try walk_at "dl"
          exact skip _ _ (fun z => z.2 hb1)
        | false =>
          try walk_at "dl"
          refine ⟨fun m en cx => ∃ s : Int, en = [some (.d (.int c)), some (.d (.dic kvs)), some (.c cs.length), some (.d (.int i)), some (.d (.int s))] ∧ cx = cs ++ [.lst (grD xs)] ∧ 1 ≤ s ∧ s < c + 1 ∧ (∀ j, 0 ≤ j → j < s → B (i + j) = true) ∧ (c - s).toNat ≤ m, ⟨(c - 1).toNat, 1, rfl, rfl, by omega, by omega, fun j j0 j1 => by rw [show (i : Int) + j = i by omega]; exact hb, Nat.le_refl _⟩, fun m en cx hI => ?_⟩
          obtain ⟨s, rfl, rfl, s1, sc, hj, hm⟩ := hI
          have slt : s < c := by
            refine Classical.byContradiction fun q => ?_
            have := hj (c - 1) (by omega) (by omega)
            rw [← per, show (i : Int) + (c - 1) = (i - 1) + c by omega, Int.add_emod_right, per, hb1] at this
            exact absurd this (by decide)
          try walk_at "dl"
          refine ⟨by omega, ?_⟩
          rw [red]
          cases hbs : B (i + s) with
          | true =>
            try walk_at "dl"
            refine .inl ⟨m - 1, by omega, s + 1, rfl, rfl, by omega, by omega, fun j j0 j1 => ?_, by omega⟩
            by_cases e : j = s
            · rw [e]; exact hbs
            · exact hj j j0 (by omega)
          | false =>
            try walk_at "dl"
            refine ⟨by rw [len_grD]; omega, .inl ⟨xs ++ [((i : Int), s)], _, _, rfl, by rw [grD_snoc]; rfl, by rw [List.length_append]; simp only [List.length_cons, List.length_nil]; omega, ?_, fun t => ⟨?_, ?_⟩, fun x hx => ?_⟩⟩
            · refine List.pairwise_append.mpr ⟨asc, List.pairwise_singleton _ _, fun x hx y hy => ?_⟩
              have e : y = ((i : Int), s) := by simpa using hy
              rw [e]
              have := ((st x.1).mp ⟨x.2, hx⟩).2.1
              exact this
            · rintro ⟨l, hl⟩
              rcases List.mem_append.mp hl with hl | hl
              · obtain ⟨a, b, d⟩ := (st t).mp ⟨l, hl⟩
                exact ⟨a, by omega, d⟩
              · have e : (t, l) = ((i : Int), s) := by simpa using hl
                cases e
                exact ⟨by omega, by omega, hb, by rw [hb1]; decide⟩
            · rintro ⟨a, b, d⟩
              by_cases e : t = i
              · exact ⟨s, List.mem_append_right _ (by rw [e]; simp)⟩
              · obtain ⟨l, hl⟩ := (st t).mpr ⟨a, by omega, d⟩
                exact ⟨l, List.mem_append_left _ hl⟩
            · rcases List.mem_append.mp hx with hx | hx
              · exact rn x hx
              · have e : x = ((i : Int), s) := by simpa using hx
                rw [e]
                exact ⟨by simp only; omega, s1, hj, by simp only; rw [hbs]; decide⟩
    · obtain ⟨xs, o3, o4, rfl, rfl, hxl, asc, st, rn⟩ := hI
      rw [rgD_len] at hxl st
      try walk_at "dl"
      refine h xs (.inr ⟨off, asc, fun t => (st t).trans ⟨fun ⟨a, b, d⟩ => ⟨a, by omega, d⟩, fun ⟨a, b, d⟩ => ⟨a, by omega, d⟩⟩, fun x hx => (rn x hx).2⟩) (by omega) fun x hx => ?_
      obtain ⟨a, b, _⟩ := (st x.1).mp ⟨x.2, hx⟩
      obtain ⟨d, e, _⟩ := rn x hx
      exact ⟨a, by omega, e, d⟩
end K03
set_option Elab.async false
set_option linter.all false
set_option maxRecDepth 100000
set_option maxHeartbeats 2000000
set_option autoImplicit false
namespace K03
open PySem L2 DL K01
local macro_rules | `(tactic| walk_at "dl") => `(tactic| simp only [dSeq, dNext, dBreak, dCont, dDrop, dRet, dRetN, dIfS, dNever, dAsg, dPar, dPutK, dAppend, dExtend, dCall, dVar, dC, dOp, dChain, dUn, dB, dNot, dAnd, dOr, dAndV, dOrV, dNotV, dIf, dNil, dCons, dTup, dLst, dLstC, dCB, dInK, dGetK, dDicC, dNoPart, dPart, dSl, dBits, dRev,
  dgName, dgsNil, dgsCons, dgTup, dgSet, diSeq, diR1, e_diR2, e_r2, diEnum, startD, endD, finZ_d, finD, finC, List.take_length, dYes, wipeD, ix0, ix1, ix2, get_snoc, set_snoc, take_snoc,
  dOpC, dSlC, dListC, e_addC, e_mulC, e_loCl, e_loCt, e_loCs, e_wd, e_wc0, e_wcs, e_wsn, e_wc1, e_wc2, e_wl0, e_wl1, e_dl0, e_dl1, e_sl, e_st, e_ss, e_addi, e_adds, e_addt, e_addl, e_sub, e_muli, e_mult, e_mull, e_fdiv, e_mod, e_pow, e_neg, e_lt, e_le, e_gt, e_ge, e_eqi, e_eqs, e_eql, e_eqt, e_eqb, e_eqn, e_nei, e_nes, e_nel, e_net, e_neb, e_nen, e_isb, e_isn, e_inb, e_inn, e_in1, e_in2, e_in3, e_in4, e_in5,
  e_ixt, e_ixl, e_ixs, e_at0, e_at1, e_at2, e_at3, e_at4, e_at5, e_atl, e_keyi, e_keys, e_lenl, e_lent, e_lens, e_lend, e_maxi, e_mini, e_maxl, e_minl, e_sum, e_all, e_any, e_inti, e_intb, e_abs, e_tol, e_tot, e_tos, e_lol, e_lot, e_los, e_sll, e_slt, e_rvl, e_rvt, e_repr, e_isi, e_srtl, e_srtt,
  List.map_cons, List.map_nil, List.length_cons, List.length_nil, List.cons_append, List.nil_append, List.flatten_cons, List.flatten_nil, List.append_nil, List.replicate_succ, List.replicate_zero, List.getElem?_cons_zero, List.getElem?_cons_succ, List.set_cons_zero, List.set_cons_succ, Nat.reduceSub, Nat.reduceAdd, Int.reduceToNat, Int.reduceLE, Int.reduceLT, Int.reduceNeg, Nat.reduceLeDiff, Nat.reduceLT, Nat.zero_add, Option.some.injEq, Z.d.injEq, Z.c.injEq, D.bl.injEq, D.int.injEq, D.tup.injEq, D.lst.injEq,
  List.take_succ_cons, List.take_zero, exists_eq_left', exists_eq_left, true_and, and_true, if_true, Bool.not_true, Bool.not_false, Bool.false_eq_true, if_false, decide_true, decide_false])
theorem rp_grD {rs : List (Int × Int)} (hl : rs.length ≤ 1000) (h : ∀ x ∈ rs, -(10 ^ 200) < x.1 ∧ x.1 < 10 ^ 200 ∧ -(10 ^ 200) < x.2 ∧ x.2 < 10 ^ 200) : RpOk (.tup (grD rs)) :=
  (RpN.tup (w := 409) (e := 1) 1000 (by rw [len_grD]; exact hl) fun d hd => by
    obtain ⟨g, hg, rfl⟩ := List.mem_map.mp hd
    obtain ⟨a, b, c, e⟩ := h g hg
    exact (RpN.tup (w := 201) (e := 0) 2 (by simp) fun y hy => by
      rcases List.mem_cons.mp hy with q | hy
      · rw [q]; exact RpN.int a b
      · have q : y = .int g.2 := by simpa using hy
        rw [q]; exact RpN.int c e)).rp (by decide) (by decide)
theorem litB_per' (c : Int) (gs : List (Int × Int)) (t k : Int) : litB c gs (t + k * c) = litB c gs t := litB_per c gs t k
theorem arcs_same {c : Int} {gs hs rs due : List (Int × Int)} (h : ∀ t, litB c hs t = litB c gs t) (h1 : ArcL c hs rs) (h2 : ArcL c gs due) : rs = due :=
  arcP_uniq h1 (ArcP.congr h2 fun t => by rw [h t])
def sp_l_right : DSpec := fun zs cs k => match zs, cs with
  | [.c 0, .d (.int c), .d (.tup xs)], x :: rest => ∃ L gs, xs = grD gs ∧ Pond L x ∧ (GrOk c gs ∧ 1 ≤ c ∧ c ≤ 40 ∧ L ≤ 10 ^ 9) ∧ ∀ x', Pond (L + 100) x' → k (.d (.bl true)) (x' :: rest)
  | _, _ => False
theorem len_l_right : ∀ zs cs q, sp_l_right zs cs q → zs.length = (["_law_pond_here", "_law_span", "_law_greens_here"] : List Str).length := fun zs cs q h => by
  unfold sp_l_right at h
  split at h
  · rfl
  · exact h.elim
def t_l_right : DS :=
  (dSeq (dAsg (dCall sp_l_arcs (dCons (dVar 1) (dCons (dCall sp_l_rests (dCons (dVar 1) (dCons (dVar 2) dNil))) dNil))) (dgName 3))
  (dSeq (dFor (diSeq (dLst (dCons (dVar 2) (dCons (dRev (dVar 2)) (dCons (dSl (dOp addD (dVar 2) (dVar 2)) dNoPart (dPart (dC (.int 6)))) (dCons (dCall sp_l_parted (dCons (dVar 0) (dCons (dVar 2) (dCons (dVar 1) dNil)))) (dCons (dVar 3) (dCons (dRev (dVar 3)) dNil)))))))) (dgName 4) (dIfS (dAnd (dB (dOp ltD (dCB lenD (dCons (dVar 4) dNil)) (dC (.int 7)))) (dB (dOp neUD (dCB reprD (dCons (dCall sp_shortest_greens (dCons (dVar 1) (dCons (dVar 4) dNil))) dNil)) (dCB reprD (dCons (dVar 3) dNil))))) (dRet (dC (.bl false))) dNext))
  (dSeq (dAsg (dOp addD (dC (.int 1)) (dCall sp_l_fish (dCons (dVar 0) (dCons (dOp powD (dC (.int 10)) (dC (.int 28))) dNil)))) (dgName 5))
  (dSeq (dAsg (dCall sp_l_scaled (dCons (dVar 2) (dCons (dVar 5) dNil))) (dgName 6))
  (dRet (dOp eqUD (dCB reprD (dCons (dCall sp_shortest_greens (dCons (dOp mulD (dVar 1) (dVar 5)) (dCons (dVar 6) dNil))) dNil)) (dCB reprD (dCons (dCall sp_l_scaled (dCons (dVar 3) (dCons (dVar 5) dNil))) dNil))))))))
theorem rd_l_right : ∀ zs cs q, sp_l_right zs cs q → t_l_right (endD cs.length q) (startD ["_law_pond_here", "_law_span", "_law_greens_here", "_law_due", "_law_some", "_law_factor", "_law_great"] zs) cs := fun zs cs q h => by
  unfold sp_l_right at h
  split at h
  rotate_left
  · exact h.elim
  rename_i c xs x rest
  obtain ⟨L, gs, rfl, hP, ⟨hg, c1, c40, hL⟩, h⟩ := h
  have s10 : Sm 10 := Sm.of (by decide) (by decide)
  have sc : Sm c := Sm.of (by omega) (by omega)
  have g1 := hg.lo
  have g6 := hg.hi
  have c0 : 0 < c := by omega
  unfold t_l_right
  try walk_at "dl"
  refine ⟨gs, rfl, ⟨hg, c40⟩, fun kvs hk hky => ?_⟩
  try walk_at "dl"
  refine ⟨litB c gs, ⟨c1, c40, fun t => litB_mod c gs t, hk, hky⟩, fun due hdue ld hst => ?_⟩
  have hdue' : ArcL c gs due := hdue
  have litdue : ∀ t, litB c due t = litB c gs t := fun t => by
    have := arcs_lit c0 (fun t k => by rw [litB_per']) hdue t
    cases e1 : litB c due t with
    | true => exact (this.mp e1).symm
    | false =>
      cases e2 : litB c gs t with
      | false => rfl
      | true => rw [this.mpr e2] at e1; cases e1
  have rpd : RpOk (.tup (grD due)) := rp_grD (by omega) fun x hx => by
    obtain ⟨a, b, d, e⟩ := hst x hx
    exact ⟨by omega, by omega, by omega, by omega⟩
  try walk_at "dl"
  refine dFor_it ?_
  try walk_at "dl"
  rw [grD_rev, grD_rev, grD_app, show cutG (grD (gs ++ gs)) none (some 6) = grD ((gs ++ gs).take 6) by
    have := cut_take (grD (gs ++ gs)) 6
    rw [show (grD (gs ++ gs)).take 6 = grD ((gs ++ gs).take 6) from (List.map_take ..).symm] at this
    exact this]
  refine ⟨by rw [len_grD]; omega, ?_⟩
  refine ⟨_, gs, rfl, hP, ⟨hg, c40, by omega⟩, fun gp x2 hgp litp p2 => ?_⟩
  try walk_at "dl"
  have gr6 : GrOk c ((gs ++ gs).take 6) := ⟨by rw [List.length_take, List.length_append]; omega, by rw [List.length_take]; omega, fun g hgm => by
    rcases List.mem_append.mp (List.mem_of_mem_take hgm) with q | q <;> exact hg.st g q⟩
  have lit6 : ∀ t, litB c ((gs ++ gs).take 6) t = litB c gs t := fun t => by
    have e : (gs ++ gs).take 6 = gs ++ gs.take (6 - gs.length) := by
      rw [List.take_append, List.take_of_length_le g6]
    rw [e]
    unfold litB
    rw [List.any_append]
    cases hq : gs.any fun g => decide ((t - g.1) % c < g.2) with
    | true => rfl
    | false =>
      rw [Bool.false_or, List.any_eq_false]
      exact fun g hgm => (List.any_eq_false.mp hq) g (List.mem_of_mem_take hgm)
  -- what each of the six is
  have each : ∀ (i : Nat) (d : D), [D.tup (grD gs), .tup (grD gs.reverse), .tup (grD ((gs ++ gs).take 6)), .tup (grD gp), .tup (grD due), .tup (grD due.reverse)][i]? = some d →
      ∃ hs, d = .tup (grD hs) ∧ (∀ t, litB c hs t = litB c gs t) ∧ (i < 4 → GrOk c hs) ∧ (∀ g ∈ hs, StOk c g) ∧ (4 ≤ i → hs.length = due.length) := fun i d hd => by
    rcases i with _ | _ | _ | _ | _ | _ | i
    · cases hd
      exact ⟨gs, rfl, fun _ => rfl, fun _ => hg, hg.st, fun q => by omega⟩
    · cases hd
      exact ⟨gs.reverse, rfl, litB_rev c gs, fun _ => gr_rev hg, (gr_rev hg).st, fun q => by omega⟩
    · cases hd
      exact ⟨_, rfl, lit6, fun _ => gr6, gr6.st, fun q => by omega⟩
    · cases hd
      exact ⟨gp, rfl, litp, fun _ => hgp, hgp.st, fun q => by omega⟩
    · cases hd
      exact ⟨due, rfl, litdue, fun q => by omega, hst, fun _ => rfl⟩
    · cases hd
      exact ⟨due.reverse, rfl, fun t => (litB_rev c due t).trans (litdue t), fun q => by omega, fun g hgm => hst g (List.mem_reverse.mp hgm), fun _ => List.length_reverse⟩
    · simp at hd
  refine dForB_mk (fun i en cx => ∃ o4 o5 o6 : Option Z, en = [some (.c 0), some (.d (.int c)), some (.d (.tup (grD gs))), some (.d (.tup (grD due))), o4, o5, o6] ∧ cx = x2 :: rest ∧ (1 ≤ i → 1 ≤ due.length ∧ due.length ≤ 6)) ⟨_, _, _, rfl, rfl, fun q => by omega⟩ (fun i d en cx hd hI => ?_) (fun en cx hI => ?_) (fun _ _ _ _ => trivial)
  · obtain ⟨o4, o5, o6, rfl, rfl, hpos⟩ := hI
    obtain ⟨hs, rfl, lit, h4, hst', hlen⟩ := each i d hd
    try walk_at "dl"
    by_cases h7 : ((grD hs).length : Int) < 7
    · simp only [h7]
      try walk_at "dl"
      rw [len_grD] at h7
      have ok : GrOk c hs := by
        by_cases hi4 : i < 4
        · exact h4 hi4
        · have := hpos (by omega)
          have := hlen (by omega)
          exact ⟨by omega, by omega, hst'⟩
      refine ⟨hs, rfl, ⟨ok, c1, by omega⟩, fun rs hrs hrl hrst hr1 => ?_⟩
      have e : rs = due := arcs_same lit hrs hdue'
      subst e
      try walk_at "dl"
      refine ⟨rpd, rpd, ?_⟩
      try walk_at "dl"
      have := ok.hi
      exact .inl ⟨_, _, _, rfl, rfl, fun _ => ⟨hr1, by omega⟩⟩
    · simp only [h7]
      try walk_at "dl"
      refine .inl ⟨_, _, _, rfl, rfl, fun q => ?_⟩
      by_cases hi0 : 1 ≤ i
      · exact hpos hi0
      · rw [len_grD] at h7
        have := (h4 (by omega)).hi
        omega
  · obtain ⟨o4, o5, o6, rfl, rfl, hpos⟩ := hI
    obtain ⟨d1, d6⟩ := hpos (by simp)
    try walk_at "dl"
    refine ⟨s10, fish_use p2 ⟨by decide, by decide, by omega⟩ fun r x3 r0 r1 p3 => ?_⟩
    try walk_at "dl"
    generalize hf : 1 + r = f
    have f1 : 1 ≤ f := by omega
    have sf : Sm f := Sm.of (by omega) (by omega)
    have cf2 : c * f ≤ 40 * f := Int.mul_le_mul_of_nonneg_right c40 (by omega)
    have cf1 : 1 ≤ c * f := by
      have := Int.mul_le_mul_of_nonneg_right c1 (show 0 ≤ f by omega)
      omega
    have hgs : GrOk (c * f) (scG f gs) := gr_scaled hg (by omega)
    refine ⟨gs, rfl, ⟨sf, by omega, fun g hg' => ?_⟩, ?_⟩
    · obtain ⟨a, b, d, e⟩ := hg.st g hg'
      exact ⟨Sm.of (by omega) (by omega), Sm.of (by omega) (by omega)⟩
    rw [show (gs.map fun g => (g.1 * f, g.2 * f)) = scG f gs from rfl]
    try walk_at "dl"
    refine ⟨⟨sc, sf⟩, scG f gs, rfl, ⟨hgs, cf1, by omega⟩, fun rs hrs hrl hrst hr1 => ?_⟩
    have e : rs = scG f due := arcP_uniq hrs (arcs_sc c0 (by omega) (fun t r r0 r1 => by rw [litB_sc (by omega) c0 r0 r1]) hdue')
    have rpf : RpOk (.tup (grD rs)) := rp_grD (by rw [e, scG, List.length_map]; omega) fun x hx => by
      obtain ⟨a, b, d, e⟩ := hrst x hx
      exact ⟨by omega, by omega, by omega, by omega⟩
    try walk_at "dl"
    refine ⟨rpf, due, rfl, ⟨sf, by omega, fun g hg' => ?_⟩, ?_⟩
    · obtain ⟨a, b, d, e⟩ := hst g hg'
      exact ⟨Sm.of (by omega) (by omega), Sm.of (by omega) (by omega)⟩
    rw [show (due.map fun g => (g.1 * f, g.2 * f)) = scG f due from rfl, ← e]
    try walk_at "dl"
    refine ⟨rpf, ?_⟩
    try walk_at "dl"
    exact h x3 (p3.le (by omega))
/-! ### the law -/
def sp_law : DSpec := fun zs cs k => match zs, cs with
  | [.d (.scr ns)], [] => ns.length ≤ 63 ∧ k (.d (.bl true)) []
  | _, _ => False
theorem lit_of {c : Int} {gs xs : List (Int × Int)} (hc : 0 < c) (hg : ∀ g ∈ gs, StOk c g) (h : ∀ t : Int, Cov c xs t ↔ Cov c (gs.map fun g => (g.1, g.1 + g.2)) t) (t : Int) : litB c gs t = true ↔ Cov c xs t := by
  rw [lit_cov hc hg, h]
theorem st_two {c a b d e : Int} (h1 : StOk c (a, b)) (h2 : StOk c (d, e)) : ∀ g ∈ [(a, b), (d, e)], StOk c g := fun g hg => by
  rcases List.mem_cons.mp hg with q | hg
  · rw [q]; exact h1
  · have q : g = (d, e) := by simpa using hg
    rw [q]; exact h2
theorem st_one {c a b : Int} (h1 : StOk c (a, b)) : ∀ g ∈ [(a, b)], StOk c g := fun g hg => by
  have q : g = (a, b) := by simpa using hg
  rw [q]; exact h1
theorem far1 {F : Int} (hF : 10 ≤ F) : ArcL F [(F - 1, 1), (0, 1)] [(F - 1, 2)] := by
  have hs : ∀ g ∈ [(F - 1, (1 : Int)), (0, 1)], StOk F g := st_two ⟨by simp only; omega, by simp only; omega, by simp only; omega, by simp only; omega⟩ ⟨by simp only; omega, by simp only; omega, by simp only; omega, by simp only; omega⟩
  have g : Gaps F [(F - 1, F + 1)] := ⟨List.pairwise_singleton _ _, fun x hx => by
    have q : x = (F - 1, F + 1) := by simpa using hx
    rw [q]
    exact ⟨by simp only; omega, by simp only; omega, by simp only; omega⟩⟩
  have a := arcs_of (B := fun t => litB F [(F - 1, 1), (0, 1)] t = true) (by omega) g (by simp) (fun t => by
    show litB F [(F - 1, 1), (0, 1)] t = true ↔ _
    rw [lit_cov (by omega) hs]
    constructor
    · rintro ⟨x, hx, k, h1, h2⟩
      rcases List.mem_cons.mp hx with q | hx
      · rw [q] at h1 h2
        simp only at h1 h2
        exact ⟨_, List.mem_cons_self, k, by simp only; omega, by simp only; omega⟩
      · have q : x = (0, 0 + 1) := by simpa using hx
        rw [q] at h1 h2
        simp only at h1 h2
        have e : t + (k + 1) * F = t + k * F + F := by rw [Int.add_mul]; omega
        exact ⟨_, List.mem_cons_self, k + 1, by simp only; omega, by simp only; omega⟩
    · rintro ⟨x, hx, k, h1, h2⟩
      have q : x = (F - 1, F + 1) := by simpa using hx
      rw [q] at h1 h2
      simp only at h1 h2
      by_cases hu : t + k * F < F
      · exact ⟨(F - 1, F - 1 + 1), by simp, k, by simp only; omega, by simp only; omega⟩
      · have e : t + (k - 1) * F = t + k * F - F := by rw [Int.sub_mul]; omega
        exact ⟨(0, 0 + 1), by simp, k - 1, by simp only; omega, by simp only; omega⟩) (fun x hx y hy => by
    have q : x = (F - 1, F + 1) := by simpa using hx
    have q2 : y = (F - 1, F + 1) := by simpa using hy
    rw [q, q2]
    simp only
    omega)
  have e : [(F - 1, F + 1)].map (fun x : Int × Int => (x.1, x.2 - x.1)) = [(F - 1, 2)] := by
    simp only [List.map_cons, List.map_nil]
    rw [show F + 1 - (F - 1) = 2 by omega]
  rw [e] at a
  exact .inr a
theorem far2 {F : Int} (hF : 10 ≤ F) : ArcL F [(1, F - 1)] [(1, F - 1)] := by
  have hs : ∀ g ∈ [((1 : Int), F - 1)], StOk F g := st_one ⟨by simp only; omega, by simp only; omega, by simp only; omega, by simp only; omega⟩
  have g : Gaps F [(1, 1 + (F - 1))] := ⟨List.pairwise_singleton _ _, fun x hx => by
    have q : x = (1, 1 + (F - 1)) := by simpa using hx
    rw [q]
    exact ⟨by simp only; omega, by simp only; omega, by simp only; omega⟩⟩
  have a := arcs_of (B := fun t => litB F [(1, F - 1)] t = true) (by omega) g (by simp) (fun t => lit_cov (by omega) hs t) (fun x hx y hy => by
    have q : x = (1, 1 + (F - 1)) := by simpa using hx
    have q2 : y = (1, 1 + (F - 1)) := by simpa using hy
    rw [q, q2]
    simp only
    omega)
  have e : [(1, 1 + (F - 1))].map (fun x : Int × Int => (x.1, x.2 - x.1)) = [(1, F - 1)] := by
    simp only [List.map_cons, List.map_nil]
    rw [show 1 + (F - 1) - 1 = F - 1 by omega]
  rw [e] at a
  exact .inr a
theorem far3 {F : Int} (hF : 10 ≤ F) : ArcL F [(5, F - 1), (4, 1)] [(0, F)] := by
  have hs : ∀ g ∈ [((5 : Int), F - 1), (4, 1)], StOk F g := st_two ⟨by simp only; omega, by simp only; omega, by simp only; omega, by simp only; omega⟩ ⟨by simp only; omega, by simp only; omega, by simp only; omega, by simp only; omega⟩
  refine .inl ⟨rfl, fun t => ?_⟩
  show litB F [(5, F - 1), (4, 1)] t = true
  rw [lit_cov (by omega) hs]
  obtain ⟨x, hx, k, h1, h2⟩ := cov_all (c := F) (xs := [(4, F + 4)]) (x := (4, F + 4)) (by omega) (by simp) (by simp only; omega) t
  have q : x = (4, F + 4) := by simpa using hx
  rw [q] at h1 h2
  simp only at h1 h2
  by_cases hu : t + k * F = 4
  · exact ⟨(4, 4 + 1), by simp, k, by simp only; omega, by simp only; omega⟩
  · exact ⟨(5, 5 + (F - 1)), by simp, k, by simp only; omega, by simp only; omega⟩
theorem near1 : ArcL 1 [(0, 1)] [(0, 1)] := by
  have hs : ∀ g ∈ [((0 : Int), (1 : Int))], StOk 1 g := st_one ⟨by decide, by decide, by decide, by decide⟩
  refine .inl ⟨rfl, fun t => ?_⟩
  show litB 1 [(0, 1)] t = true
  rw [lit_cov (by decide) hs]
  exact cov_all (by decide) (x := (0, 0 + 1)) (by simp) (by decide) t
theorem len_law : ∀ zs cs q, sp_law zs cs q → zs.length = (["_law_script"] : List Str).length := fun zs cs q h => by
  unfold sp_law at h
  split at h
  · rfl
  · exact h.elim
def t_law : DS :=
  (dSeq (dFor (diR1 (dCB maxD (dCons (dC (.int 1)) (dCons (dCB minD (dCons (dC (.int 8)) (dCons (dCB lenD (dCons (dVar 0) dNil)) dNil))) dNil)))) (dgName 1) (dSeq (dAsg (dCall sp_l_pond (dCons (dVar 0) (dCons (dVar 1) dNil))) (dgName 2))
  (dFor (diR1 (dC (.int 5))) (dgName 3) (dSeq (dAsg (dOp ixD (dLst (dCons (dOp addD (dC (.int 1)) (dCall sp_l_fish (dCons (dVar 2) (dCons (dC (.int 40)) dNil)))) (dCons (dC (.int 10)) (dCons (dC (.int 2)) (dCons (dC (.int 1)) dNil))))) (dCall sp_l_fish (dCons (dVar 2) (dCons (dC (.int 4)) dNil)))) (dgName 4))
  (dIfS (dNot (dB (dCall sp_l_right (dCons (dVar 2) (dCons (dVar 4) (dCons (dCall sp_l_greens (dCons (dVar 2) (dCons (dVar 4) dNil))) dNil)))))) (dRet (dC (.bl false))) dNext)))))
  (dSeq (dAsg (dOp powD (dC (.int 10)) (dC (.int 30))) (dgName 5))
  (dSeq (dAsg (dLstC (dCons (dCall sp_shortest_greens (dCons (dVar 5) (dCons (dTup (dCons (dTup (dCons (dOp subD (dVar 5) (dC (.int 1))) (dCons (dC (.int 1)) dNil))) (dCons (dTup (dCons (dC (.int 0)) (dCons (dC (.int 1)) dNil))) dNil))) dNil))) (dCons (dCall sp_shortest_greens (dCons (dVar 5) (dCons (dTup (dCons (dTup (dCons (dC (.int 1)) (dCons (dOp subD (dVar 5) (dC (.int 1))) dNil))) dNil)) dNil))) dNil))) (dgName 6))
  (dSeq (dDrop (dAppend (dVar 6) (dCall sp_shortest_greens (dCons (dVar 5) (dCons (dTup (dCons (dTup (dCons (dC (.int 5)) (dCons (dOp subD (dVar 5) (dC (.int 1))) dNil))) (dCons (dTup (dCons (dC (.int 4)) (dCons (dC (.int 1)) dNil))) dNil))) dNil)))))
  (dRet (dAndV (dOp eqUD (dVar 6) (dLst (dCons (dTup (dCons (dTup (dCons (dOp subD (dVar 5) (dC (.int 1))) (dCons (dC (.int 2)) dNil))) dNil)) (dCons (dTup (dCons (dTup (dCons (dC (.int 1)) (dCons (dOp subD (dVar 5) (dC (.int 1))) dNil))) dNil)) (dCons (dTup (dCons (dTup (dCons (dC (.int 0)) (dCons (dVar 5) dNil))) dNil)) dNil))))) (dOp eqUD (dCall sp_shortest_greens (dCons (dC (.int 1)) (dCons (dTup (dCons (dTup (dCons (dC (.int 0)) (dCons (dC (.int 1)) dNil))) dNil)) dNil))) (dTup (dCons (dTup (dCons (dC (.int 0)) (dCons (dC (.int 1)) dNil))) dNil)))))))))
theorem rd_law : ∀ zs cs q, sp_law zs cs q → t_law (endD cs.length q) (startD ["_law_script", "_law_k", "_law_pond_here", "_law_turn", "_law_span", "_law_far", "_law_told"] zs) cs := fun zs cs q h => by
  unfold sp_law at h
  split at h
  rotate_left
  · exact h.elim
  rename_i ns
  obtain ⟨hn, h⟩ := h
  unfold t_law
  try walk_at "dl"
  refine dFor_mk (rgD 0 (max 1 (min 8 (ns.length : Int))).toNat) yes [] (fun K h => by walk_at "dl"; exact ⟨⟨by omega, by omega⟩, h⟩) (fun i en c1 => ∃ o1 o2 o3 o4 o5 o6 : Option Z, en = [some (.d (.scr ns)), o1, o2, o3, o4, o5, o6] ∧ c1 = [])
    ⟨_, _, _, _, _, _, rfl, rfl⟩ (fun i d en c1 hd hI => ?_) (fun en c1 hI => ?_) (fun _ _ _ _ => trivial)
  · obtain ⟨hi, rfl⟩ := rgD_get hd
    obtain ⟨o1, o2, o3, o4, o5, o6, rfl, rfl⟩ := hI
    try walk_at "dl"
    refine ⟨⟨by omega, by omega⟩, fun x0 hx0 => ?_⟩
    try walk_at "dl"
    refine dFor_mk (rgD 0 5) yes [x0] (fun K h => by walk_at "dl"; exact ⟨⟨by decide, by decide⟩, h⟩) (fun j en c1 => ∃ (x : D) (o3 o4 o5 o6 : Option Z), en = [some (.d (.scr ns)), some (.d (.int (0 + (i : Int)))), some (.c 0), o3, o4, o5, o6] ∧ c1 = [x] ∧ Pond (j * 10000) x)
      ⟨_, _, _, _, _, rfl, rfl, hx0.le (by omega)⟩ (fun j d en c1 hd hI => ?_) (fun en c1 hI => ?_) (fun _ _ _ _ => trivial)
    · obtain ⟨hj, rfl⟩ := rgD_get hd
      obtain ⟨x, o3, o4, o5, o6, rfl, rfl, hp⟩ := hI
      try walk_at "dl"
      refine fish_use hp ⟨by decide, by decide, by omega⟩ fun r1 x1 r1a r1b p1 => ?_
      try walk_at "dl"
      refine fish_use p1 ⟨by decide, by decide, by omega⟩ fun r2 x2 r2a r2b p2 => ?_
      try walk_at "dl"
      have pick : ∃ v : Int, 1 ≤ v ∧ v ≤ 40 ∧ atI [D.int (1 + r1), .int 10, .int 2, .int 1] r2 = some (.int v) := by
        have : r2 = 0 ∨ r2 = 1 ∨ r2 = 2 ∨ r2 = 3 := by omega
        rcases this with rfl | rfl | rfl | rfl
        · exact ⟨1 + r1, by omega, by omega, at0⟩
        · exact ⟨10, by decide, by decide, at1⟩
        · exact ⟨2, by decide, by decide, at2⟩
        · exact ⟨1, by decide, by decide, at3⟩
      obtain ⟨c, c1, c40, pick⟩ := pick
      rw [e_at pick]
      refine ⟨_, p2, ⟨c1, by omega, by omega⟩, fun gs x3 hg p3 => ?_⟩
      try walk_at "dl"
      refine ⟨_, gs, rfl, p3, ⟨hg, c1, c40, by omega⟩, fun x4 p4 => ?_⟩
      try walk_at "dl"
      exact .inl ⟨_, _, _, _, _, rfl, rfl, p4.le (by omega)⟩
    · obtain ⟨x, o3, o4, o5, o6, rfl, rfl, hp⟩ := hI
      exact .inr ⟨0, Nat.le_refl _, _, _, _, _, _, _, rfl, rfl⟩
  · obtain ⟨o1, o2, o3, o4, o5, o6, rfl, rfl⟩ := hI
    have s10 : Sm 10 := Sm.of (by decide) (by decide)
    try walk_at "dl"
    refine ⟨s10, ?_⟩
    have F10 : (10 : Int) ≤ 10 ^ 30 := by decide
    have two : ∀ a b d e : Int, StOk (10 ^ 30) (a, b) → StOk (10 ^ 30) (d, e) → GrOk (10 ^ 30) [(a, b), (d, e)] := fun a b d e h1 h2 => ⟨by simp, by simp, st_two h1 h2⟩
    have one : ∀ a b : Int, StOk (10 ^ 30) (a, b) → GrOk (10 ^ 30) [(a, b)] := fun a b h1 => ⟨by simp, by simp, st_one h1⟩
    refine ⟨[(10 ^ 30 - 1, 1), (0, 1)], rfl, ⟨two _ _ _ _ ⟨by decide, by decide, by decide, by decide⟩ ⟨by decide, by decide, by decide, by decide⟩, by decide, by decide⟩, fun rs hrs _ _ _ => ?_⟩
    have e : rs = [(10 ^ 30 - 1, 2)] := arcP_uniq hrs (far1 F10)
    subst e
    refine ⟨[(1, 10 ^ 30 - 1)], rfl, ⟨one _ _ ⟨by decide, by decide, by decide, by decide⟩, by decide, by decide⟩, fun rs hrs _ _ _ => ?_⟩
    have e : rs = [(1, 10 ^ 30 - 1)] := arcP_uniq hrs (far2 F10)
    subst e
    try walk_at "dl"
    refine ⟨[(5, 10 ^ 30 - 1), (4, 1)], rfl, ⟨two _ _ _ _ ⟨by decide, by decide, by decide, by decide⟩ ⟨by decide, by decide, by decide, by decide⟩, by decide, by decide⟩, fun rs hrs _ _ _ => ?_⟩
    have e : rs = [(0, 10 ^ 30)] := arcP_uniq hrs (far3 F10)
    subst e
    try walk_at "dl"
    have eqT : ∀ gs : List (Int × Int), EqN 2 (.tup (grD gs)) := fun gs => EqN.tup fun d hd => by
      obtain ⟨g, _, rfl⟩ := List.mem_map.mp hd
      exact EqN.tup fun x hx => by
        rcases List.mem_cons.mp hx with e | hx
        · rw [e]; exact EqN.int _
        · have e : x = .int g.2 := by simpa using hx
          rw [e]; exact EqN.int _
    have eq1 : EqOk (.lst [.tup (grD [(10 ^ 30 - 1, 2)]), .tup (grD [(1, 10 ^ 30 - 1)]), .tup (grD [(0, 10 ^ 30)])]) := (EqN.lst (e := 2) fun d hd => by
      rcases List.mem_cons.mp hd with e | hd
      · rw [e]; exact eqT _
      · rcases List.mem_cons.mp hd with e | hd
        · rw [e]; exact eqT _
        · have e : d = .tup (grD [(0, 10 ^ 30)]) := by simpa using hd
          rw [e]; exact eqT _).eq (by decide)
    refine ⟨⟨eq1, eq1⟩, ?_⟩
    rw [show eqvD (.lst [.tup (grD [(10 ^ 30 - 1, 2)]), .tup (grD [(1, 10 ^ 30 - 1)]), .tup (grD [(0, 10 ^ 30)])]) (.lst [.tup [.tup [.int (10 ^ 30 - 1), .int 2]], .tup [.tup [.int 1, .int (10 ^ 30 - 1)]], .tup [.tup [.int 0, .int (10 ^ 30)]]]) = true from by decide +kernel]
    try walk_at "dl"
    refine ⟨[(0, 1)], rfl, ⟨⟨by simp, by simp, st_one ⟨by decide, by decide, by decide, by decide⟩⟩, by decide, by decide⟩, fun rs hrs _ _ _ => ?_⟩
    have e : rs = [(0, 1)] := arcP_uniq hrs near1
    subst e
    try walk_at "dl"
    refine ⟨⟨(eqT [(0, 1)]).eq (by decide), (eqT [(0, 1)]).eq (by decide)⟩, ?_⟩
    rw [show eqvD (.tup (grD [(0, 1)])) (.tup [.tup [.int 0, .int 1]]) = true from by decide +kernel]
    exact h
theorem law_true : ∀ ns : List Int, ns.length ≤ 63 → sp_law [.d (.scr ns)] [] fun z _ => z = .d (.bl true) := fun ns h => ⟨h, rfl⟩
end K03
set_option Elab.async false
set_option linter.all false
set_option maxRecDepth 100000
set_option maxHeartbeats 4000000
set_option autoImplicit false
namespace K03
open PySem PySem.Spec PyProof.Rows L2 DL K01
def topS (i : Nat) : Stmt := PySem.Challenge.pw_greenroads_k03_shortest_greens.main.body.getD i (.Pass ⟨0, 0, 0, 0⟩)
structure Bt (mg : Str → Option Value) : Prop where
  all_ : mg "all" = none
  bool_ : mg "bool" = none
  int_ : mg "int" = none
  isinstance_ : mg "isinstance" = none
  len_ : mg "len" = none
  max_ : mg "max" = none
  min_ : mg "min" = none
  range_ : mg "range" = none
  repr_ : mg "repr" = none
  sorted_ : mg "sorted" = none
  tuple_ : mg "tuple" = none
abbrev s_is_int : Stmt := topS 6
abbrev N_is_int : List Str := ["value"]
theorem sc_is_int : FnScope N_is_int ["value"] (defScope s_is_int) := ⟨rfl, rfl, rfl, by decide +kernel, rfl, by decide +kernel, by decide +kernel⟩
abbrev s_in_range : Stmt := topS 7
abbrev N_in_range : List Str := ["value", "low", "high"]
theorem sc_in_range : FnScope N_in_range ["value", "low", "high"] (defScope s_in_range) := ⟨rfl, rfl, rfl, by decide +kernel, rfl, by decide +kernel, by decide +kernel⟩
abbrev s_require_cycle : Stmt := topS 8
abbrev N_require_cycle : List Str := ["value"]
theorem sc_require_cycle : FnScope N_require_cycle ["value"] (defScope s_require_cycle) := ⟨rfl, rfl, rfl, by decide +kernel, rfl, by decide +kernel, by decide +kernel⟩
abbrev s_is_stretch : Stmt := topS 11
abbrev N_is_stretch : List Str := ["cycle", "value"]
theorem sc_is_stretch : FnScope N_is_stretch ["cycle", "value"] (defScope s_is_stretch) := ⟨rfl, rfl, rfl, by decide +kernel, rfl, by decide +kernel, by decide +kernel⟩
abbrev s_are_greens : Stmt := topS 12
abbrev N_are_greens : List Str := ["cycle", "value", "one"]
theorem sc_are_greens : FnScope N_are_greens ["cycle", "value"] (defScope s_are_greens) := ⟨rfl, rfl, rfl, by decide +kernel, rfl, by decide +kernel, by decide +kernel⟩
abbrev s_require_signal : Stmt := topS 13
abbrev N_require_signal : List Str := ["cycle", "value"]
theorem sc_require_signal : FnScope N_require_signal ["cycle", "value"] (defScope s_require_signal) := ⟨rfl, rfl, rfl, by decide +kernel, rfl, by decide +kernel, by decide +kernel⟩
abbrev s_merged_greens : Stmt := topS 14
abbrev N_merged_greens : List Str := ["cycle", "signal", "found", "offset", "length", "begin", "end"]
theorem sc_merged_greens : FnScope N_merged_greens ["cycle", "signal"] (defScope s_merged_greens) := ⟨rfl, rfl, rfl, by decide +kernel, rfl, by decide +kernel, by decide +kernel⟩
abbrev s_shortest_greens : Stmt := topS 15
abbrev N_shortest_greens : List Str := ["cycle", "signal"]
theorem sc_shortest_greens : FnScope N_shortest_greens ["cycle", "signal"] (defScope s_shortest_greens) := ⟨rfl, rfl, rfl, by decide +kernel, rfl, by decide +kernel, by decide +kernel⟩
abbrev s_l_pond : Stmt := topS 17
abbrev N_l_pond : List Str := ["_law_script", "_law_k", "_law_cell"]
theorem sc_l_pond : FnScope N_l_pond ["_law_script", "_law_k"] (defScope s_l_pond) := ⟨rfl, rfl, rfl, by decide +kernel, rfl, by decide +kernel, by decide +kernel⟩
abbrev s_l_fish : Stmt := topS 18
abbrev N_l_fish : List Str := ["_law_pond_here", "_law_bound", "_law_found", "_law_turn", "_law_mixed"]
theorem sc_l_fish : FnScope N_l_fish ["_law_pond_here", "_law_bound"] (defScope s_l_fish) := ⟨rfl, rfl, rfl, by decide +kernel, rfl, by decide +kernel, by decide +kernel⟩
abbrev s_l_greens : Stmt := topS 19
abbrev N_l_greens : List Str := ["_law_pond_here", "_law_span", "_law_found", "_law_turn", "_law_place", "_law_few", "_law_many"]
theorem sc_l_greens : FnScope N_l_greens ["_law_pond_here", "_law_span"] (defScope s_l_greens) := ⟨rfl, rfl, rfl, by decide +kernel, rfl, by decide +kernel, by decide +kernel⟩
abbrev s_l_rests : Stmt := topS 20
abbrev N_l_rests : List Str := ["_law_span", "_law_greens_here", "_law_found", "_law_place", "_law_size", "_law_j"]
theorem sc_l_rests : FnScope N_l_rests ["_law_span", "_law_greens_here"] (defScope s_l_rests) := ⟨rfl, rfl, rfl, by decide +kernel, rfl, by decide +kernel, by decide +kernel⟩
abbrev s_l_scaled : Stmt := topS 21
abbrev N_l_scaled : List Str := ["_law_greens_here", "_law_factor", "_law_place", "_law_size"]
theorem sc_l_scaled : FnScope N_l_scaled ["_law_greens_here", "_law_factor"] (defScope s_l_scaled) := ⟨rfl, rfl, rfl, by decide +kernel, rfl, by decide +kernel, by decide +kernel⟩
abbrev s_l_arcs : Stmt := topS 22
abbrev N_l_arcs : List Str := ["_law_span", "_law_lit", "_law_found", "_law_t", "_law_size"]
theorem sc_l_arcs : FnScope N_l_arcs ["_law_span", "_law_lit"] (defScope s_l_arcs) := ⟨rfl, rfl, rfl, by decide +kernel, rfl, by decide +kernel, by decide +kernel⟩
abbrev s_l_parted : Stmt := topS 23
abbrev N_l_parted : List Str := ["_law_pond_here", "_law_greens_here", "_law_span", "_law_place", "_law_size", "_law_left"]
theorem sc_l_parted : FnScope N_l_parted ["_law_pond_here", "_law_greens_here", "_law_span"] (defScope s_l_parted) := ⟨rfl, rfl, rfl, by decide +kernel, rfl, by decide +kernel, by decide +kernel⟩
abbrev s_l_right : Stmt := topS 24
abbrev N_l_right : List Str := ["_law_pond_here", "_law_span", "_law_greens_here", "_law_due", "_law_some", "_law_factor", "_law_great"]
theorem sc_l_right : FnScope N_l_right ["_law_pond_here", "_law_span", "_law_greens_here"] (defScope s_l_right) := ⟨rfl, rfl, rfl, by decide +kernel, rfl, by decide +kernel, by decide +kernel⟩
abbrev s_law : Stmt := topS 25
abbrev N_law : List Str := ["_law_script", "_law_k", "_law_pond_here", "_law_turn", "_law_span", "_law_far", "_law_told"]
theorem sc_law : FnScope N_law ["_law_script"] (defScope s_law) := ⟨rfl, rfl, rfl, by decide +kernel, rfl, by decide +kernel, by decide +kernel⟩
variable {P : Program} {w : World} {K : PySem.W.Frag} {mg : Str → Option Value} {base : Heap}
theorem ok_is_int (T : DefT K mg "is_int" s_is_int ["value"]) (B : Bt mg)  : Got P w K mg base "is_int" 1 ["value"] sp_is_int :=
  Got.mk T sc_is_int len_is_int t_is_int (fun f cdv A outer s H hr hg => ⟨_,
      (qss_one (qs_ret (q_and (q_callB call_isi (c_isi "int" (by decide +kernel)) B.isinstance_ PyProof.Rows.boot_isinstance (qa_cons (qv 0) (qa_cons (q_bty B.int_ PyProof.Rows.boot_int) qa_nil))) (q_one (q_not (q_callB call_isi (c_isi "bool" (by decide +kernel)) B.isinstance_ PyProof.Rows.boot_isinstance (qa_cons (qv 0) (qa_cons (q_bty B.bool_ PyProof.Rows.boot_bool) qa_nil))))))))⟩) rd_is_int
theorem ok_in_range (T : DefT K mg "in_range" s_in_range ["value", "low", "high"]) (B : Bt mg) (G_is_int : Got P w K mg base "is_int" 1 ["value"] sp_is_int) : Got P w K mg base "in_range" 2 ["value", "low", "high"] sp_in_range :=
  Got.mk T sc_in_range len_in_range t_in_range (fun f cdv A outer s H hr hg => ⟨_,
      (qss_one (qs_ret (q_and (qc G_is_int (hr.mono (by decide)) hg (qa_cons (qv 0) qa_nil)) (q_one (q_chain op_le op_le o_cmp o_cmp (qv 1) (qv 0) (qv 2))))))⟩) rd_in_range
theorem ok_require_cycle (T : DefT K mg "require_cycle" s_require_cycle ["value"]) (B : Bt mg) (c_MOST_CYCLE : ∃ t, mg "MOST_CYCLE" = some (.int 1000000000000000000000000000000 t)) (G_in_range : Got P w K mg base "in_range" 2 ["value", "low", "high"] sp_in_range) : Got P w K mg base "require_cycle" 3 ["value"] sp_require_cycle :=
  Got.mk T sc_require_cycle len_require_cycle t_require_cycle (fun f cdv A outer s H hr hg => ⟨_,
      (qss_one (qs_if (q_notT (q_val (qc G_in_range (hr.mono (by decide)) hg (qa_cons (qv 0) (qa_cons q_int (qa_cons (q_gint c_MOST_CYCLE) qa_nil)))))) (qss_one qs_never) qss_nil))⟩) rd_require_cycle
theorem ok_is_stretch (T : DefT K mg "is_stretch" s_is_stretch ["cycle", "value"]) (B : Bt mg) (G_in_range : Got P w K mg base "in_range" 2 ["value", "low", "high"] sp_in_range) : Got P w K mg base "is_stretch" 3 ["cycle", "value"] sp_is_stretch :=
  Got.mk T sc_is_stretch len_is_stretch t_is_stretch (fun f cdv A outer s H hr hg => ⟨_,
      (qss_cons (qs_if (QW.t (q_orT (q_notT (q_val (q_callB call_isi (c_isi "tuple" (by decide +kernel)) B.isinstance_ PyProof.Rows.boot_isinstance (qa_cons (qv 1) (qa_cons (q_bty B.tuple_ PyProof.Rows.boot_tuple) qa_nil))))) (q_or1 (q_cmpT (op_neU hr.units) o_neU (q_callB call_lenU c_len B.len_ PySem.boot_len (qa_cons (qv 1) qa_nil)) q_int (nomark _))))) (qss_one (qs_ret q_bl)) qss_nil)
      (qss_one (qs_ret (q_and (qc G_in_range (hr.mono (by decide)) hg (qa_cons (q_ix ix_seq o_ix (qv 1) q_int (fun _ _ => rfl)) (qa_cons q_int (qa_cons (q_op op_sub o_sub (qv 0) q_int) qa_nil)))) (q_one (qc G_in_range (hr.mono (by decide)) hg (qa_cons (q_ix ix_seq o_ix (qv 1) q_int (fun _ _ => rfl)) (qa_cons q_int (qa_cons (qv 0) qa_nil)))))))))⟩) rd_is_stretch
theorem ok_are_greens (T : DefT K mg "are_greens" s_are_greens ["cycle", "value"]) (B : Bt mg) (c_MOST_GREENS : ∃ t, mg "MOST_GREENS" = some (.int 6 t)) (G_is_stretch : Got P w K mg base "is_stretch" 3 ["cycle", "value"] sp_is_stretch) : Got P w K mg base "are_greens" 4 ["cycle", "value"] sp_are_greens :=
  Got.mk T sc_are_greens len_are_greens t_are_greens (fun f cdv A outer s H hr hg => ⟨_,
      (qss_cons (qs_if (QW.t (q_orT (q_notT (q_val (q_callB call_isi (c_isi "tuple" (by decide +kernel)) B.isinstance_ PyProof.Rows.boot_isinstance (qa_cons (qv 1) (qa_cons (q_bty B.tuple_ PyProof.Rows.boot_tuple) qa_nil))))) (q_or1 (q_notT (q_chainT op_le op_le o_cmp o_cmp q_int (q_callB call_lenU c_len B.len_ PySem.boot_len (qa_cons (qv 1) qa_nil)) (q_gint c_MOST_GREENS)))))) (qss_one (qs_ret q_bl)) qss_nil)
      (qss_one (qs_ret (q_callB (cr_all rfl) c_all B.all_ (by decide +kernel) (qa_cons (q_lcH (own := [("one", 2)]) fin_d sc_are_greens.nd (qi_seq (qv 1)) (blkOk_by (own := [("one", 2)]) (N := N_are_greens) (sc := defScope s_are_greens) (by decide +kernel)) s (qg_name 2 sc_are_greens.nd) qts_nil (qc G_is_stretch (hr.mono (by decide)) hg (qa_cons (qv 0) (qa_cons (qv 2) qa_nil))) (fun _ _ _ _ _ => (qg_name 2 sc_are_greens.nd)) (fun _ _ _ _ _ => qts_nil) (fun _ _ _ _ _ => (qc G_is_stretch (hr.mono (by decide)) hg (qa_cons (qv 0) (qa_cons (qv 2) qa_nil)))) (by decide)) qa_nil)))))⟩) rd_are_greens
theorem ok_require_signal (T : DefT K mg "require_signal" s_require_signal ["cycle", "value"]) (B : Bt mg) (G_are_greens : Got P w K mg base "are_greens" 4 ["cycle", "value"] sp_are_greens) (G_require_cycle : Got P w K mg base "require_cycle" 3 ["value"] sp_require_cycle) : Got P w K mg base "require_signal" 5 ["cycle", "value"] sp_require_signal :=
  Got.mk T sc_require_signal len_require_signal t_require_signal (fun f cdv A outer s H hr hg => ⟨_,
      (qss_cons (qs_expr (qc G_require_cycle (hr.mono (by decide)) hg (qa_cons (qv 0) qa_nil)))
      (qss_one (qs_if (q_notT (q_val (qc G_are_greens (hr.mono (by decide)) hg (qa_cons (qv 0) (qa_cons (qv 1) qa_nil))))) (qss_one qs_never) qss_nil)))⟩) rd_require_signal
theorem ok_merged_greens (T : DefT K mg "merged_greens" s_merged_greens ["cycle", "signal"]) (B : Bt mg)  : Got P w K mg base "merged_greens" 1 ["cycle", "signal"] sp_merged_greens :=
  Got.mk T sc_merged_greens len_merged_greens t_merged_greens (fun f cdv A outer s H hr hg => ⟨_,
      (qss_cons (qs_set 2 sc_merged_greens.nd (q_lstC qa_nil))
      (qss_cons (qs_for PassesOwn.never (qi_seq (q_callB cr_sortedR c_sortedR B.sorted_ (by decide +kernel) (qa_cons (qv 1) qa_nil))) (qg_tup (qgs_cons (qg_name 3 sc_merged_greens.nd) (qgs_cons (qg_name 4 sc_merged_greens.nd) qgs_nil))) (qss_one (qs_if (QW.t (q_andT (q_cmpT (op_neU hr.units) o_neU (qv 2) (q_lst qa_nil) (nomark _)) (q_and1 (q_cmpT op_le o_cmp (qv 3) (q_ix ix_seq o_ix (q_ix ix_seq o_ix (qv 2) (q_un un_neg o_neg q_int) (fun _ _ => rfl)) q_int (fun _ _ => rfl)) (nomark _))))) (qss_one (qs_asg (q_tup (qa_cons (q_ix ix_seq o_ix (q_ix ix_seq o_ix (qv 2) (q_un un_neg o_neg q_int) (fun _ _ => rfl)) q_int (fun _ _ => rfl)) (qa_cons (q_callB call_maxU c_max B.max_ (by decide +kernel) (qa_cons (q_ix ix_seq o_ix (q_ix ix_seq o_ix (qv 2) (q_un un_neg o_neg q_int) (fun _ _ => rfl)) q_int (fun _ _ => rfl)) (qa_cons (q_op op_addU o_add (qv 3) (qv 4)) qa_nil))) qa_nil))) (qg_set (qv 2) (q_un un_neg o_neg q_int)))) (qss_one (qs_expr (q_append (qv 2) (q_tup (qa_cons (qv 3) (qa_cons (q_op op_addU o_add (qv 3) (qv 4)) qa_nil)))))))))
      (qss_cons (qs_while PassesOwn.never (QW.t (q_andT (q_cmpT op_gt o_cmp (q_callB call_lenU c_len B.len_ PySem.boot_len (qa_cons (qv 2) qa_nil)) q_int (nomark _)) (q_and1 (q_cmpT op_ge o_cmp (q_ix ix_seq o_ix (q_ix ix_seq o_ix (qv 2) (q_un un_neg o_neg q_int) (fun _ _ => rfl)) q_int (fun _ _ => rfl)) (q_op op_addU o_add (q_ix ix_seq o_ix (q_ix ix_seq o_ix (qv 2) q_int (fun _ _ => rfl)) q_int (fun _ _ => rfl)) (qv 0)) (nomark _))))) (qss_one (qs_set 2 sc_merged_greens.nd (q_opC op_addU oc_add (q_slice (qv 2) (qo_some q_int) (qo_some (q_un un_neg o_neg q_int))) (q_lst (qa_cons (q_tup (qa_cons (q_ix ix_seq o_ix (q_ix ix_seq o_ix (qv 2) (q_un un_neg o_neg q_int) (fun _ _ => rfl)) q_int (fun _ _ => rfl)) (qa_cons (q_callB call_maxU c_max B.max_ (by decide +kernel) (qa_cons (q_ix ix_seq o_ix (q_ix ix_seq o_ix (qv 2) (q_un un_neg o_neg q_int) (fun _ _ => rfl)) q_int (fun _ _ => rfl)) (qa_cons (q_op op_addU o_add (q_ix ix_seq o_ix (q_ix ix_seq o_ix (qv 2) q_int (fun _ _ => rfl)) q_int (fun _ _ => rfl)) (qv 0)) qa_nil))) qa_nil))) qa_nil))))))
      (qss_cons (qs_if (q_cmpT op_ge o_cmp (q_op op_sub o_sub (q_ix ix_seq o_ix (q_ix ix_seq o_ix (qv 2) (q_un un_neg o_neg q_int) (fun _ _ => rfl)) q_int (fun _ _ => rfl)) (q_ix ix_seq o_ix (q_ix ix_seq o_ix (qv 2) (q_un un_neg o_neg q_int) (fun _ _ => rfl)) q_int (fun _ _ => rfl))) (qv 0) (nomark _)) (qss_one (qs_ret (q_tup (qa_cons (q_tup (qa_cons q_int (qa_cons (qv 0) qa_nil))) qa_nil)))) qss_nil)
      (qss_one (qs_ret (q_callTy call_tuple_of c_tupOf B.tuple_ (by decide +kernel) (qa_cons (q_lcH (own := [("begin", 5), ("end", 6)]) fin_d sc_merged_greens.nd (qi_seq (qv 2)) (blkOk_by (own := [("begin", 5), ("end", 6)]) (N := N_merged_greens) (sc := defScope s_merged_greens) (by decide +kernel)) s (qg_tup (qgs_cons (qg_name 5 sc_merged_greens.nd) (qgs_cons (qg_name 6 sc_merged_greens.nd) qgs_nil))) qts_nil (q_tup (qa_cons (qv 5) (qa_cons (q_op op_sub o_sub (qv 6) (qv 5)) qa_nil))) (fun _ _ _ _ _ => (qg_tup (qgs_cons (qg_name 5 sc_merged_greens.nd) (qgs_cons (qg_name 6 sc_merged_greens.nd) qgs_nil)))) (fun _ _ _ _ _ => qts_nil) (fun _ _ _ _ _ => (q_tup (qa_cons (qv 5) (qa_cons (q_op op_sub o_sub (qv 6) (qv 5)) qa_nil)))) (by decide)) qa_nil))))))))⟩) rd_merged_greens
theorem ok_shortest_greens (T : DefT K mg "shortest_greens" s_shortest_greens ["cycle", "signal"]) (B : Bt mg) (G_merged_greens : Got P w K mg base "merged_greens" 1 ["cycle", "signal"] sp_merged_greens) (G_require_signal : Got P w K mg base "require_signal" 5 ["cycle", "value"] sp_require_signal) : Got P w K mg base "shortest_greens" 6 ["cycle", "signal"] sp_shortest_greens :=
  Got.mk T sc_shortest_greens len_shortest_greens t_shortest_greens (fun f cdv A outer s H hr hg => ⟨_,
      (qss_cons (qs_expr (qc G_require_signal (hr.mono (by decide)) hg (qa_cons (qv 0) (qa_cons (qv 1) qa_nil))))
      (qss_one (qs_ret (qc G_merged_greens (hr.mono (by decide)) hg (qa_cons (qv 0) (qa_cons (qv 1) qa_nil))))))⟩) rd_shortest_greens
theorem ok_l_pond (T : DefT K mg "_law_pond" s_l_pond ["_law_script", "_law_k"]) (B : Bt mg)  : Got P w K mg base "_law_pond" 1 ["_law_script", "_law_k"] sp_l_pond :=
  Got.mk T sc_l_pond len_l_pond t_l_pond (fun f cdv A outer s H hr hg => ⟨_,
      (qss_cons (qs_set 2 sc_l_pond.nd q_int)
      (qss_cons (qs_if (q_cmpT op_lt o_cmp (qv 1) (q_callB call_lenU c_len B.len_ PySem.boot_len (qa_cons (qv 0) qa_nil)) (nomark _)) (qss_one (qs_set 2 sc_l_pond.nd (q_ix ix_seq o_ix (qv 0) (qv 1) (fun _ _ => rfl)))) qss_nil)
      (qss_one (qs_ret (q_lstC (qa_cons (q_callB call_maxU c_max B.max_ (by decide +kernel) (qa_cons q_int (qa_cons (q_op op_sub o_sub (qv 2) (q_op op_powW o_pow q_int q_int)) qa_nil))) (qa_cons (q_op op_addU o_add (q_op op_mod o_mod (qv 2) (q_op op_addU o_add (q_op op_powW o_pow q_int q_int) q_int)) (q_op op_mulU o_mul q_int (qv 1))) (qa_cons q_int qa_nil))))))))⟩) rd_l_pond
theorem ok_l_fish_1 (T : DefT K mg "_law_fish" s_l_fish ["_law_pond_here", "_law_bound"]) (B : Bt mg)  : Got P w K mg base "_law_fish" 1 ["_law_pond_here", "_law_bound"] sp_l_fish_1 :=
  Got.mk T sc_l_fish len_l_fish_1 t_l_fish_1 (fun f cdv A outer s H hr hg => ⟨_,
      (qss_cons (qs_if (q_cmpT op_gt o_cmp (qv 1) (q_op op_powW o_pow q_int q_int) (nomark _)) qss_never qss_nil)
      (qss_cons (qs_if (q_cmpT op_gt o_cmp (q_ix ix_seq o_ix (qv 0) q_int (fun _ _ => rfl)) q_int (nomark _)) (qss_cons (qs_set 2 sc_l_fish.nd (q_op op_mod o_mod (q_ix ix_seq o_ix (qv 0) q_int (fun _ _ => rfl)) (qv 1)))
      (qss_cons (qs_asg (q_op op_fdivW o_fdiv (q_ix ix_seq o_ix (qv 0) q_int (fun _ _ => rfl)) (qv 1)) (qg_set (qv 0) q_int))
      (qss_one (qs_ret (qv 2))))) qss_nil)
      (qss_cons (qs_asg (q_op op_addU o_add (q_ix ix_seq o_ix (qv 0) q_int (fun _ _ => rfl)) q_int) (qg_set (qv 0) q_int))
      (qss_cons (qs_set 4 sc_l_fish.nd (q_op op_mod o_mod (q_op op_powW o_pow (q_op op_addU o_add (q_ix ix_seq o_ix (qv 0) q_int (fun _ _ => rfl)) (q_op op_mulU o_mul q_int (q_ix ix_seq o_ix (qv 0) q_int (fun _ _ => rfl)))) q_int) (q_op op_addU o_add (q_op op_powW o_pow q_int q_int) q_int)))
      (qss_cons (qs_set 4 sc_l_fish.nd (q_op op_mod o_mod (q_op op_powW o_pow (q_op op_addU o_add (qv 4) (q_op op_mulU o_mul q_int (q_ix ix_seq o_ix (qv 0) q_int (fun _ _ => rfl)))) q_int) (q_op op_addU o_add (q_op op_powW o_pow q_int q_int) q_int)))
      (qss_one (qs_ret (q_op op_mod o_mod (q_op op_fdivW o_fdiv (qv 4) q_int) (qv 1)))))))))⟩) rd_l_fish_1
theorem ok_l_fish (T : DefT K mg "_law_fish" s_l_fish ["_law_pond_here", "_law_bound"]) (B : Bt mg) (G_l_fish_1 : Got P w K mg base "_law_fish" 1 ["_law_pond_here", "_law_bound"] sp_l_fish_1) : Got P w K mg base "_law_fish" 2 ["_law_pond_here", "_law_bound"] sp_l_fish :=
  Got.mk T sc_l_fish len_l_fish t_l_fish (fun f cdv A outer s H hr hg => ⟨_,
      (qss_cons (qs_if (q_cmpT op_gt o_cmp (qv 1) (q_op op_powW o_pow q_int q_int) (nomark _)) (qss_cons (qs_set 2 sc_l_fish.nd q_int)
      (qss_cons (qs_for PassesOwn.never (qi_range1 B.range_ (q_op op_addU o_add q_int (q_op op_fdivW o_fdiv (q_bits (qv 1)) q_int))) (qg_name 3 sc_l_fish.nd) (qss_one (qs_set 2 sc_l_fish.nd (q_op op_addU o_add (q_op op_mulU o_mul (qv 2) (q_op op_powW o_pow q_int q_int)) (qc G_l_fish_1 (hr.mono (by decide)) hg (qa_cons (qv 0) (qa_cons (q_op op_powW o_pow q_int q_int) qa_nil)))))))
      (qss_one (qs_ret (q_op op_mod o_mod (qv 2) (qv 1)))))) qss_nil)
      (qss_cons (qs_if (q_cmpT op_gt o_cmp (q_ix ix_seq o_ix (qv 0) q_int (fun _ _ => rfl)) q_int (nomark _)) (qss_cons (qs_set 2 sc_l_fish.nd (q_op op_mod o_mod (q_ix ix_seq o_ix (qv 0) q_int (fun _ _ => rfl)) (qv 1)))
      (qss_cons (qs_asg (q_op op_fdivW o_fdiv (q_ix ix_seq o_ix (qv 0) q_int (fun _ _ => rfl)) (qv 1)) (qg_set (qv 0) q_int))
      (qss_one (qs_ret (qv 2))))) qss_nil)
      (qss_cons (qs_asg (q_op op_addU o_add (q_ix ix_seq o_ix (qv 0) q_int (fun _ _ => rfl)) q_int) (qg_set (qv 0) q_int))
      (qss_cons (qs_set 4 sc_l_fish.nd (q_op op_mod o_mod (q_op op_powW o_pow (q_op op_addU o_add (q_ix ix_seq o_ix (qv 0) q_int (fun _ _ => rfl)) (q_op op_mulU o_mul q_int (q_ix ix_seq o_ix (qv 0) q_int (fun _ _ => rfl)))) q_int) (q_op op_addU o_add (q_op op_powW o_pow q_int q_int) q_int)))
      (qss_cons (qs_set 4 sc_l_fish.nd (q_op op_mod o_mod (q_op op_powW o_pow (q_op op_addU o_add (qv 4) (q_op op_mulU o_mul q_int (q_ix ix_seq o_ix (qv 0) q_int (fun _ _ => rfl)))) q_int) (q_op op_addU o_add (q_op op_powW o_pow q_int q_int) q_int)))
      (qss_one (qs_ret (q_op op_mod o_mod (q_op op_fdivW o_fdiv (qv 4) q_int) (qv 1)))))))))⟩) rd_l_fish
theorem ok_l_greens (T : DefT K mg "_law_greens" s_l_greens ["_law_pond_here", "_law_span"]) (B : Bt mg) (G_l_fish : Got P w K mg base "_law_fish" 2 ["_law_pond_here", "_law_bound"] sp_l_fish) : Got P w K mg base "_law_greens" 3 ["_law_pond_here", "_law_span"] sp_l_greens :=
  Got.mk T sc_l_greens len_l_greens t_l_greens (fun f cdv A outer s H hr hg => ⟨_,
      (qss_cons (qs_set 2 sc_l_greens.nd (q_lstC qa_nil))
      (qss_cons (qs_for PassesOwn.never (qi_range1 B.range_ (q_ix ix_seq o_ix (q_lst (qa_cons q_int (qa_cons q_int (qa_cons q_int (qa_cons q_int (qa_cons q_int (qa_cons (q_op op_addU o_add q_int (qc G_l_fish (hr.mono (by decide)) hg (qa_cons (qv 0) (qa_cons q_int qa_nil)))) qa_nil))))))) (qc G_l_fish (hr.mono (by decide)) hg (qa_cons (qv 0) (qa_cons q_int qa_nil))) (fun _ _ => rfl))) (qg_name 3 sc_l_greens.nd) (qss_cons (qs_set 4 sc_l_greens.nd (qc G_l_fish (hr.mono (by decide)) hg (qa_cons (qv 0) (qa_cons (qv 1) qa_nil))))
      (qss_cons (qs_if (QW.t (q_andT (q_cmpT (op_neU hr.units) o_neU (qv 2) (q_lst qa_nil) (nomark _)) (q_and1 (q_cmpT (op_eqU hr.units) o_eqU (qc G_l_fish (hr.mono (by decide)) hg (qa_cons (qv 0) (qa_cons q_int qa_nil))) q_int (nomark _))))) (qss_one (qs_set 4 sc_l_greens.nd (q_op op_mod o_mod (q_op op_addU o_add (q_ix ix_seq o_ix (q_ix ix_seq o_ix (qv 2) (q_un un_neg o_neg q_int) (fun _ _ => rfl)) q_int (fun _ _ => rfl)) (q_ix ix_seq o_ix (q_ix ix_seq o_ix (qv 2) (q_un un_neg o_neg q_int) (fun _ _ => rfl)) q_int (fun _ _ => rfl))) (qv 1)))) qss_nil)
      (qss_cons (qs_set 5 sc_l_greens.nd (q_op op_addU o_add q_int (qc G_l_fish (hr.mono (by decide)) hg (qa_cons (qv 0) (qa_cons (q_callB call_minU c_min B.min_ (by decide +kernel) (qa_cons (qv 1) (qa_cons q_int qa_nil))) qa_nil)))))
      (qss_cons (qs_set 6 sc_l_greens.nd (q_ix ix_seq o_ix (q_lst (qa_cons (qv 5) (qa_cons (q_op op_addU o_add q_int (qc G_l_fish (hr.mono (by decide)) hg (qa_cons (qv 0) (qa_cons (q_op op_addU o_add (q_op op_fdivW o_fdiv (qv 1) q_int) q_int) qa_nil)))) (qa_cons (q_op op_addU o_add q_int (qc G_l_fish (hr.mono (by decide)) hg (qa_cons (qv 0) (qa_cons (qv 1) qa_nil)))) qa_nil)))) (qc G_l_fish (hr.mono (by decide)) hg (qa_cons (qv 0) (qa_cons q_int qa_nil))) (fun _ _ => rfl)))
      (qss_one (qs_expr (q_append (qv 2) (q_tup (qa_cons (qv 4) (qa_cons (q_ifExp (q_cmpT (op_eqU hr.units) o_eqU (q_op op_mod o_mod (qv 3) q_int) q_int (nomark _)) (qv 5) (qv 6)) qa_nil)))))))))))
      (qss_one (qs_ret (q_callTy call_tuple_of c_tupOf B.tuple_ (by decide +kernel) (qa_cons (qv 2) qa_nil))))))⟩) rd_l_greens
theorem ok_l_rests (T : DefT K mg "_law_rests" s_l_rests ["_law_span", "_law_greens_here"]) (B : Bt mg)  : Got P w K mg base "_law_rests" 1 ["_law_span", "_law_greens_here"] sp_l_rests :=
  Got.mk T sc_l_rests len_l_rests t_l_rests (fun f cdv A outer s H hr hg => ⟨_,
      (qss_cons (qs_set 2 sc_l_rests.nd q_dicC)
      (qss_cons (qs_for PassesOwn.never (qi_seq (qv 1)) (qg_tup (qgs_cons (qg_name 3 sc_l_rests.nd) (qgs_cons (qg_name 4 sc_l_rests.nd) qgs_nil))) (qss_one (qs_for PassesOwn.never (qi_range1 B.range_ (qv 4)) (qg_name 5 sc_l_rests.nd) (qss_one (qs_putK (hu_of hr) (qv 2) (q_op op_mod o_mod (q_op op_addU o_add (qv 3) (qv 5)) (qv 0)) q_bl)))))
      (qss_one (qs_ret (qv 2)))))⟩) rd_l_rests
theorem ok_l_scaled (T : DefT K mg "_law_scaled" s_l_scaled ["_law_greens_here", "_law_factor"]) (B : Bt mg)  : Got P w K mg base "_law_scaled" 1 ["_law_greens_here", "_law_factor"] sp_l_scaled :=
  Got.mk T sc_l_scaled len_l_scaled t_l_scaled (fun f cdv A outer s H hr hg => ⟨_,
      (qss_one (qs_ret (q_callTy call_tuple_of c_tupOf B.tuple_ (by decide +kernel) (qa_cons (q_lcH (own := [("_law_place", 2), ("_law_size", 3)]) fin_d sc_l_scaled.nd (qi_seq (qv 0)) (blkOk_by (own := [("_law_place", 2), ("_law_size", 3)]) (N := N_l_scaled) (sc := defScope s_l_scaled) (by decide +kernel)) s (qg_tup (qgs_cons (qg_name 2 sc_l_scaled.nd) (qgs_cons (qg_name 3 sc_l_scaled.nd) qgs_nil))) qts_nil (q_tup (qa_cons (q_op op_mulU o_mul (qv 2) (qv 1)) (qa_cons (q_op op_mulU o_mul (qv 3) (qv 1)) qa_nil))) (fun _ _ _ _ _ => (qg_tup (qgs_cons (qg_name 2 sc_l_scaled.nd) (qgs_cons (qg_name 3 sc_l_scaled.nd) qgs_nil)))) (fun _ _ _ _ _ => qts_nil) (fun _ _ _ _ _ => (q_tup (qa_cons (q_op op_mulU o_mul (qv 2) (qv 1)) (qa_cons (q_op op_mulU o_mul (qv 3) (qv 1)) qa_nil)))) (by decide)) qa_nil))))⟩) rd_l_scaled
theorem ok_l_arcs (T : DefT K mg "_law_arcs" s_l_arcs ["_law_span", "_law_lit"]) (B : Bt mg)  : Got P w K mg base "_law_arcs" 1 ["_law_span", "_law_lit"] sp_l_arcs :=
  Got.mk T sc_l_arcs len_l_arcs t_l_arcs (fun f cdv A outer s H hr hg => ⟨_,
      (qss_cons (qs_if (q_cmpT (op_eqU hr.units) o_eqU (q_callB call_lenU c_len B.len_ PySem.boot_len (qa_cons (qv 1) qa_nil)) (qv 0) (nomark _)) (qss_one (qs_ret (q_tup (qa_cons (q_tup (qa_cons q_int (qa_cons (qv 0) qa_nil))) qa_nil)))) qss_nil)
      (qss_cons (qs_set 2 sc_l_arcs.nd (q_lstC qa_nil))
      (qss_cons (qs_for PassesOwn.never (qi_range1 B.range_ (qv 0)) (qg_name 3 sc_l_arcs.nd) (qss_one (qs_if (QW.t (q_andT (q_inKT (hu_of hr) (qv 3) (qv 1)) (q_and1 (q_notinKT (hu_of hr) (q_op op_mod o_mod (q_op op_sub o_sub (qv 3) q_int) (qv 0)) (qv 1))))) (qss_cons (qs_set 4 sc_l_arcs.nd q_int)
      (qss_cons (qs_while PassesOwn.never (q_inKT (hu_of hr) (q_op op_mod o_mod (q_op op_addU o_add (qv 3) (qv 4)) (qv 0)) (qv 1)) (qss_one (qs_set 4 sc_l_arcs.nd (q_op op_addU o_add (qv 4) q_int))))
      (qss_one (qs_expr (q_append (qv 2) (q_tup (qa_cons (qv 3) (qa_cons (qv 4) qa_nil)))))))) qss_nil)))
      (qss_one (qs_ret (q_callTy call_tuple_of c_tupOf B.tuple_ (by decide +kernel) (qa_cons (qv 2) qa_nil)))))))⟩) rd_l_arcs
theorem ok_l_parted (T : DefT K mg "_law_parted" s_l_parted ["_law_pond_here", "_law_greens_here", "_law_span"]) (B : Bt mg) (G_l_fish : Got P w K mg base "_law_fish" 2 ["_law_pond_here", "_law_bound"] sp_l_fish) : Got P w K mg base "_law_parted" 3 ["_law_pond_here", "_law_greens_here", "_law_span"] sp_l_parted :=
  Got.mk T sc_l_parted len_l_parted t_l_parted (fun f cdv A outer s H hr hg => ⟨_,
      (qss_cons (qs_asg (q_ix ix_seq o_ix (qv 1) q_int (fun _ _ => rfl)) (qg_tup (qgs_cons (qg_name 3 sc_l_parted.nd) (qgs_cons (qg_name 4 sc_l_parted.nd) qgs_nil))))
      (qss_cons (qs_if (QW.t (q_orT (q_cmpT (op_eqU hr.units) o_eqU (qv 4) q_int (nomark _)) (q_or1 (q_cmpT (op_eqU hr.units) o_eqU (q_callB call_lenU c_len B.len_ PySem.boot_len (qa_cons (qv 1) qa_nil)) q_int (nomark _))))) (qss_one (qs_ret (q_rev (qv 1)))) qss_nil)
      (qss_cons (qs_set 5 sc_l_parted.nd (q_op op_addU o_add q_int (qc G_l_fish (hr.mono (by decide)) hg (qa_cons (qv 0) (qa_cons (q_op op_sub o_sub (qv 4) q_int) qa_nil)))))
      (qss_one (qs_ret (q_op op_addU o_add (q_slice (qv 1) (qo_some q_int) qo_none) (q_tup (qa_cons (q_tup (qa_cons (q_op op_mod o_mod (q_op op_addU o_add (qv 3) (qv 5)) (qv 2)) (qa_cons (q_op op_sub o_sub (qv 4) (qv 5)) qa_nil))) (qa_cons (q_tup (qa_cons (qv 3) (qa_cons (qv 5) qa_nil))) qa_nil)))))))))⟩) rd_l_parted
theorem ok_l_right (T : DefT K mg "_law_right" s_l_right ["_law_pond_here", "_law_span", "_law_greens_here"]) (B : Bt mg) (G_l_arcs : Got P w K mg base "_law_arcs" 1 ["_law_span", "_law_lit"] sp_l_arcs) (G_l_fish : Got P w K mg base "_law_fish" 2 ["_law_pond_here", "_law_bound"] sp_l_fish) (G_l_parted : Got P w K mg base "_law_parted" 3 ["_law_pond_here", "_law_greens_here", "_law_span"] sp_l_parted) (G_l_rests : Got P w K mg base "_law_rests" 1 ["_law_span", "_law_greens_here"] sp_l_rests) (G_l_scaled : Got P w K mg base "_law_scaled" 1 ["_law_greens_here", "_law_factor"] sp_l_scaled) (G_shortest_greens : Got P w K mg base "shortest_greens" 6 ["cycle", "signal"] sp_shortest_greens) : Got P w K mg base "_law_right" 7 ["_law_pond_here", "_law_span", "_law_greens_here"] sp_l_right :=
  Got.mk T sc_l_right len_l_right t_l_right (fun f cdv A outer s H hr hg => ⟨_,
      (qss_cons (qs_set 3 sc_l_right.nd (qc G_l_arcs (hr.mono (by decide)) hg (qa_cons (qv 1) (qa_cons (qc G_l_rests (hr.mono (by decide)) hg (qa_cons (qv 1) (qa_cons (qv 2) qa_nil))) qa_nil))))
      (qss_cons (qs_for PassesOwn.never (qi_seq (q_lst (qa_cons (qv 2) (qa_cons (q_rev (qv 2)) (qa_cons (q_slice (q_op op_addU o_add (qv 2) (qv 2)) qo_none (qo_some q_int)) (qa_cons (qc G_l_parted (hr.mono (by decide)) hg (qa_cons (qv 0) (qa_cons (qv 2) (qa_cons (qv 1) qa_nil)))) (qa_cons (qv 3) (qa_cons (q_rev (qv 3)) qa_nil)))))))) (qg_name 4 sc_l_right.nd) (qss_one (qs_if (QW.t (q_andT (q_cmpT op_lt o_cmp (q_callB call_lenU c_len B.len_ PySem.boot_len (qa_cons (qv 4) qa_nil)) q_int (nomark _)) (q_and1 (q_cmpT (op_neU hr.units) o_neU (q_callB (call_reprD hg hr.units) c_repr B.repr_ (by decide +kernel) (qa_cons (qc G_shortest_greens (hr.mono (by decide)) hg (qa_cons (qv 1) (qa_cons (qv 4) qa_nil))) qa_nil)) (q_callB (call_reprD hg hr.units) c_repr B.repr_ (by decide +kernel) (qa_cons (qv 3) qa_nil)) (nomark _))))) (qss_one (qs_ret q_bl)) qss_nil)))
      (qss_cons (qs_set 5 sc_l_right.nd (q_op op_addU o_add q_int (qc G_l_fish (hr.mono (by decide)) hg (qa_cons (qv 0) (qa_cons (q_op op_powW o_pow q_int q_int) qa_nil)))))
      (qss_cons (qs_set 6 sc_l_right.nd (qc G_l_scaled (hr.mono (by decide)) hg (qa_cons (qv 2) (qa_cons (qv 5) qa_nil))))
      (qss_one (qs_ret (q_cmp (op_eqU hr.units) o_eqU (q_callB (call_reprD hg hr.units) c_repr B.repr_ (by decide +kernel) (qa_cons (qc G_shortest_greens (hr.mono (by decide)) hg (qa_cons (q_op op_mulU o_mul (qv 1) (qv 5)) (qa_cons (qv 6) qa_nil))) qa_nil)) (q_callB (call_reprD hg hr.units) c_repr B.repr_ (by decide +kernel) (qa_cons (qc G_l_scaled (hr.mono (by decide)) hg (qa_cons (qv 3) (qa_cons (qv 5) qa_nil))) qa_nil)) (nomark _))))))))⟩) rd_l_right
theorem ok_law (T : DefT K mg "law" s_law ["_law_script"]) (B : Bt mg) (G_l_fish : Got P w K mg base "_law_fish" 2 ["_law_pond_here", "_law_bound"] sp_l_fish) (G_l_greens : Got P w K mg base "_law_greens" 3 ["_law_pond_here", "_law_span"] sp_l_greens) (G_l_pond : Got P w K mg base "_law_pond" 1 ["_law_script", "_law_k"] sp_l_pond) (G_l_right : Got P w K mg base "_law_right" 7 ["_law_pond_here", "_law_span", "_law_greens_here"] sp_l_right) (G_shortest_greens : Got P w K mg base "shortest_greens" 6 ["cycle", "signal"] sp_shortest_greens) : Got P w K mg base "law" 8 ["_law_script"] sp_law :=
  Got.mk T sc_law len_law t_law (fun f cdv A outer s H hr hg => ⟨_,
      (qss_cons (qs_for PassesOwn.never (qi_range1 B.range_ (q_callB call_maxU c_max B.max_ (by decide +kernel) (qa_cons q_int (qa_cons (q_callB call_minU c_min B.min_ (by decide +kernel) (qa_cons q_int (qa_cons (q_callB call_lenU c_len B.len_ PySem.boot_len (qa_cons (qv 0) qa_nil)) qa_nil))) qa_nil)))) (qg_name 1 sc_law.nd) (qss_cons (qs_set 2 sc_law.nd (qc G_l_pond (hr.mono (by decide)) hg (qa_cons (qv 0) (qa_cons (qv 1) qa_nil))))
      (qss_one (qs_for PassesOwn.never (qi_range1 B.range_ q_int) (qg_name 3 sc_law.nd) (qss_cons (qs_set 4 sc_law.nd (q_ix ix_seq o_ix (q_lst (qa_cons (q_op op_addU o_add q_int (qc G_l_fish (hr.mono (by decide)) hg (qa_cons (qv 2) (qa_cons q_int qa_nil)))) (qa_cons q_int (qa_cons q_int (qa_cons q_int qa_nil))))) (qc G_l_fish (hr.mono (by decide)) hg (qa_cons (qv 2) (qa_cons q_int qa_nil))) (fun _ _ => rfl)))
      (qss_one (qs_if (q_notT (q_val (qc G_l_right (hr.mono (by decide)) hg (qa_cons (qv 2) (qa_cons (qv 4) (qa_cons (qc G_l_greens (hr.mono (by decide)) hg (qa_cons (qv 2) (qa_cons (qv 4) qa_nil))) qa_nil)))))) (qss_one (qs_ret q_bl)) qss_nil)))))))
      (qss_cons (qs_set 5 sc_law.nd (q_op op_powW o_pow q_int q_int))
      (qss_cons (qs_set 6 sc_law.nd (q_lstC (qa_cons (qc G_shortest_greens (hr.mono (by decide)) hg (qa_cons (qv 5) (qa_cons (q_tup (qa_cons (q_tup (qa_cons (q_op op_sub o_sub (qv 5) q_int) (qa_cons q_int qa_nil))) (qa_cons (q_tup (qa_cons q_int (qa_cons q_int qa_nil))) qa_nil))) qa_nil))) (qa_cons (qc G_shortest_greens (hr.mono (by decide)) hg (qa_cons (qv 5) (qa_cons (q_tup (qa_cons (q_tup (qa_cons q_int (qa_cons (q_op op_sub o_sub (qv 5) q_int) qa_nil))) qa_nil)) qa_nil))) qa_nil))))
      (qss_cons (qs_expr (q_append (qv 6) (qc G_shortest_greens (hr.mono (by decide)) hg (qa_cons (qv 5) (qa_cons (q_tup (qa_cons (q_tup (qa_cons q_int (qa_cons (q_op op_sub o_sub (qv 5) q_int) qa_nil))) (qa_cons (q_tup (qa_cons q_int (qa_cons q_int qa_nil))) qa_nil))) qa_nil)))))
      (qss_one (qs_ret (q_and (q_cmp (op_eqU hr.units) o_eqU (qv 6) (q_lst (qa_cons (q_tup (qa_cons (q_tup (qa_cons (q_op op_sub o_sub (qv 5) q_int) (qa_cons q_int qa_nil))) qa_nil)) (qa_cons (q_tup (qa_cons (q_tup (qa_cons q_int (qa_cons (q_op op_sub o_sub (qv 5) q_int) qa_nil))) qa_nil)) (qa_cons (q_tup (qa_cons (q_tup (qa_cons q_int (qa_cons (qv 5) qa_nil))) qa_nil)) qa_nil)))) (nomark _)) (q_one (q_cmp (op_eqU hr.units) o_eqU (qc G_shortest_greens (hr.mono (by decide)) hg (qa_cons q_int (qa_cons (q_tup (qa_cons (q_tup (qa_cons q_int (qa_cons q_int qa_nil))) qa_nil)) qa_nil))) (q_tup (qa_cons (q_tup (qa_cons q_int (qa_cons q_int qa_nil))) qa_nil)) (nomark _))))))))))⟩) rd_law
theorem all_G {P : Program} {w : World} {K : PySem.W.Frag} {mg : Str → Option Value} {base : Heap}
    (c_MOST_CYCLE : ∃ t, mg "MOST_CYCLE" = some (.int 1000000000000000000000000000000 t)) (c_MOST_GREENS : ∃ t, mg "MOST_GREENS" = some (.int 6 t)) (B : Bt mg)
    (T_is_int : DefT K mg "is_int" s_is_int ["value"])
    (T_in_range : DefT K mg "in_range" s_in_range ["value", "low", "high"])
    (T_require_cycle : DefT K mg "require_cycle" s_require_cycle ["value"])
    (T_is_stretch : DefT K mg "is_stretch" s_is_stretch ["cycle", "value"])
    (T_are_greens : DefT K mg "are_greens" s_are_greens ["cycle", "value"])
    (T_require_signal : DefT K mg "require_signal" s_require_signal ["cycle", "value"])
    (T_merged_greens : DefT K mg "merged_greens" s_merged_greens ["cycle", "signal"])
    (T_shortest_greens : DefT K mg "shortest_greens" s_shortest_greens ["cycle", "signal"])
    (T_l_pond : DefT K mg "_law_pond" s_l_pond ["_law_script", "_law_k"])
    (T_l_fish : DefT K mg "_law_fish" s_l_fish ["_law_pond_here", "_law_bound"])
    (T_l_greens : DefT K mg "_law_greens" s_l_greens ["_law_pond_here", "_law_span"])
    (T_l_rests : DefT K mg "_law_rests" s_l_rests ["_law_span", "_law_greens_here"])
    (T_l_scaled : DefT K mg "_law_scaled" s_l_scaled ["_law_greens_here", "_law_factor"])
    (T_l_arcs : DefT K mg "_law_arcs" s_l_arcs ["_law_span", "_law_lit"])
    (T_l_parted : DefT K mg "_law_parted" s_l_parted ["_law_pond_here", "_law_greens_here", "_law_span"])
    (T_l_right : DefT K mg "_law_right" s_l_right ["_law_pond_here", "_law_span", "_law_greens_here"])
    (T_law : DefT K mg "law" s_law ["_law_script"])
    : Got P w K mg base "law" 8 ["_law_script"] sp_law := by
  have G_is_int := ok_is_int (P := P) (w := w) (base := base) T_is_int B 
  have G_in_range := ok_in_range (P := P) (w := w) (base := base) T_in_range B G_is_int
  have G_require_cycle := ok_require_cycle (P := P) (w := w) (base := base) T_require_cycle B c_MOST_CYCLE G_in_range
  have G_is_stretch := ok_is_stretch (P := P) (w := w) (base := base) T_is_stretch B G_in_range
  have G_are_greens := ok_are_greens (P := P) (w := w) (base := base) T_are_greens B c_MOST_GREENS G_is_stretch
  have G_require_signal := ok_require_signal (P := P) (w := w) (base := base) T_require_signal B G_are_greens G_require_cycle
  have G_merged_greens := ok_merged_greens (P := P) (w := w) (base := base) T_merged_greens B 
  have G_shortest_greens := ok_shortest_greens (P := P) (w := w) (base := base) T_shortest_greens B G_merged_greens G_require_signal
  have G_l_pond := ok_l_pond (P := P) (w := w) (base := base) T_l_pond B 
  have G_l_fish_1 := ok_l_fish_1 (P := P) (w := w) (base := base) T_l_fish B 
  have G_l_fish := ok_l_fish (P := P) (w := w) (base := base) T_l_fish B G_l_fish_1
  have G_l_greens := ok_l_greens (P := P) (w := w) (base := base) T_l_greens B G_l_fish
  have G_l_rests := ok_l_rests (P := P) (w := w) (base := base) T_l_rests B 
  have G_l_scaled := ok_l_scaled (P := P) (w := w) (base := base) T_l_scaled B 
  have G_l_arcs := ok_l_arcs (P := P) (w := w) (base := base) T_l_arcs B 
  have G_l_parted := ok_l_parted (P := P) (w := w) (base := base) T_l_parted B G_l_fish
  have G_l_right := ok_l_right (P := P) (w := w) (base := base) T_l_right B G_l_arcs G_l_fish G_l_parted G_l_rests G_l_scaled G_shortest_greens
  have G_law := ok_law (P := P) (w := w) (base := base) T_law B G_l_fish G_l_greens G_l_pond G_l_right G_shortest_greens
  exact G_law
end K03
open PySem PySem.W PyProof.Rows
set_option maxHeartbeats 0 in
theorem PySem.Challenge.cw_greenroads_k03_shortest_greens_holds : PySem.Challenge.rw_greenroads_k03_shortest_greens.Holds := by
  w_on; o_law; k_head; (case hw => w_witness2)
  k_fill
  refine DL.walk_G (l := PySem.Challenge.rw_greenroads_k03_shortest_greens) (n := 63) (k := 8) (x := "_law_script") (sp := K03.sp_law) rfl (by decide) rfl ⟨rfl, by decide, by decide⟩ (fun w h Y => PySem.W.kIn_of Y) ?F K03.law_true
  case F =>
    intro w mg h KX G base _ _
    refine' K03.all_G (DL.mg_int KX G ?c0) (DL.mg_int KX G ?c1) ⟨PySem.W.mg_none_of KX G ?b0, PySem.W.mg_none_of KX G ?b1, PySem.W.mg_none_of KX G ?b2, PySem.W.mg_none_of KX G ?b3, PySem.W.mg_none_of KX G ?b4, PySem.W.mg_none_of KX G ?b5, PySem.W.mg_none_of KX G ?b6, PySem.W.mg_none_of KX G ?b7, PySem.W.mg_none_of KX G ?b8, PySem.W.mg_none_of KX G ?b9, PySem.W.mg_none_of KX G ?b10⟩ (DL.defT_mk (st := K03.s_is_int) KX G ?a0 ?l0 ?d0 ?k0 (fun _ _ _ _ _ _ us hl => match us, hl with | [_], _ => rfl))
      (DL.defT_mk (st := K03.s_in_range) KX G ?a1 ?l1 ?d1 ?k1 (fun _ _ _ _ _ _ us hl => match us, hl with | [_, _, _], _ => rfl))
      (DL.defT_mk (st := K03.s_require_cycle) KX G ?a2 ?l2 ?d2 ?k2 (fun _ _ _ _ _ _ us hl => match us, hl with | [_], _ => rfl))
      (DL.defT_mk (st := K03.s_is_stretch) KX G ?a3 ?l3 ?d3 ?k3 (fun _ _ _ _ _ _ us hl => match us, hl with | [_, _], _ => rfl))
      (DL.defT_mk (st := K03.s_are_greens) KX G ?a4 ?l4 ?d4 ?k4 (fun _ _ _ _ _ _ us hl => match us, hl with | [_, _], _ => rfl))
      (DL.defT_mk (st := K03.s_require_signal) KX G ?a5 ?l5 ?d5 ?k5 (fun _ _ _ _ _ _ us hl => match us, hl with | [_, _], _ => rfl))
      (DL.defT_mk (st := K03.s_merged_greens) KX G ?a6 ?l6 ?d6 ?k6 (fun _ _ _ _ _ _ us hl => match us, hl with | [_, _], _ => rfl))
      (DL.defT_mk (st := K03.s_shortest_greens) KX G ?a7 ?l7 ?d7 ?k7 (fun _ _ _ _ _ _ us hl => match us, hl with | [_, _], _ => rfl))
      (DL.defT_mk (st := K03.s_l_pond) KX G ?a8 ?l8 ?d8 ?k8 (fun _ _ _ _ _ _ us hl => match us, hl with | [_, _], _ => rfl))
      (DL.defT_mk (st := K03.s_l_fish) KX G ?a9 ?l9 ?d9 ?k9 (fun _ _ _ _ _ _ us hl => match us, hl with | [_, _], _ => rfl))
      (DL.defT_mk (st := K03.s_l_greens) KX G ?a10 ?l10 ?d10 ?k10 (fun _ _ _ _ _ _ us hl => match us, hl with | [_, _], _ => rfl))
      (DL.defT_mk (st := K03.s_l_rests) KX G ?a11 ?l11 ?d11 ?k11 (fun _ _ _ _ _ _ us hl => match us, hl with | [_, _], _ => rfl))
      (DL.defT_mk (st := K03.s_l_scaled) KX G ?a12 ?l12 ?d12 ?k12 (fun _ _ _ _ _ _ us hl => match us, hl with | [_, _], _ => rfl))
      (DL.defT_mk (st := K03.s_l_arcs) KX G ?a13 ?l13 ?d13 ?k13 (fun _ _ _ _ _ _ us hl => match us, hl with | [_, _], _ => rfl))
      (DL.defT_mk (st := K03.s_l_parted) KX G ?a14 ?l14 ?d14 ?k14 (fun _ _ _ _ _ _ us hl => match us, hl with | [_, _, _], _ => rfl))
      (DL.defT_mk (st := K03.s_l_right) KX G ?a15 ?l15 ?d15 ?k15 (fun _ _ _ _ _ _ us hl => match us, hl with | [_, _, _], _ => rfl))
      (DL.defT_mk (st := K03.s_law) KX G ?a16 ?l16 ?d16 ?k16 (fun _ _ _ _ _ _ us hl => match us, hl with | [_], _ => rfl))
    (case c0 => k_is)
    (case c1 => k_is)
    (case b0 => k_is)
    (case b1 => k_is)
    (case b2 => k_is)
    (case b3 => k_is)
    (case b4 => k_is)
    (case b5 => k_is)
    (case b6 => k_is)
    (case b7 => k_is)
    (case b8 => k_is)
    (case b9 => k_is)
    (case b10 => k_is)
    (case a0 => k_is); (case l0 => k_is); (case d0 => k_is); (case k0 => k_is)
    (case a1 => k_is); (case l1 => k_is); (case d1 => k_is); (case k1 => k_is)
    (case a2 => k_is); (case l2 => k_is); (case d2 => k_is); (case k2 => k_is)
    (case a3 => k_is); (case l3 => k_is); (case d3 => k_is); (case k3 => k_is)
    (case a4 => k_is); (case l4 => k_is); (case d4 => k_is); (case k4 => k_is)
    (case a5 => k_is); (case l5 => k_is); (case d5 => k_is); (case k5 => k_is)
    (case a6 => k_is); (case l6 => k_is); (case d6 => k_is); (case k6 => k_is)
    (case a7 => k_is); (case l7 => k_is); (case d7 => k_is); (case k7 => k_is)
    (case a8 => k_is); (case l8 => k_is); (case d8 => k_is); (case k8 => k_is)
    (case a9 => k_is); (case l9 => k_is); (case d9 => k_is); (case k9 => k_is)
    (case a10 => k_is); (case l10 => k_is); (case d10 => k_is); (case k10 => k_is)
    (case a11 => k_is); (case l11 => k_is); (case d11 => k_is); (case k11 => k_is)
    (case a12 => k_is); (case l12 => k_is); (case d12 => k_is); (case k12 => k_is)
    (case a13 => k_is); (case l13 => k_is); (case d13 => k_is); (case k13 => k_is)
    (case a14 => k_is); (case l14 => k_is); (case d14 => k_is); (case k14 => k_is)
    (case a15 => k_is); (case l15 => k_is); (case d15 => k_is); (case k15 => k_is)
    (case a16 => k_is); (case l16 => k_is); (case d16 => k_is); (case k16 => k_is)
