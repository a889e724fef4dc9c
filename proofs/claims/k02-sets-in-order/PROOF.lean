import PyProof.Rows.All
import Wide.All
import OpenK.AllK
import Wide.FinOn
import HandS.ForMost
import HandS.Evl
import HandS.IsInst
import HandS.TupAny
import HandS.Zip
import HandS.Walk
import HandS.Defaults
import HandS.Style
import HandS.Flow
import HandS.EndBits
import HandS.Wide
import KE.SortKeyHeap
import KE.DataCmp
import HandS.SortKw
import HandS.Iter
import HandS.Deep
import HandS.DeepEq
import KE.DataEq
import HandS.Zip0
import PySem.Challenge.RW_crowdpurse_k02_sets_in_order
set_option Elab.async false
set_option linter.all false
set_option maxRecDepth 100000
set_option maxHeartbeats 4000000
/-! Dn: data (values without addresses), a memory of the few things that change, and what a text of the program makes of them, as plain functions -/
namespace Dn
open PySem L2 Evl

/-- data: what a value is, down to the innermost; ptr: a thing that may change, by its number; raw: anything else -/
inductive D where
  | non | bl (b : Bool) | int (i : Int) | str (s : Str)
  | lst (xs : List D) | tup (xs : List D) | dct (kvs : List (Key × D)) | scr (ns : List Int) | ptr (n : Nat) | raw (v : V)
/-- a thing that may change -/
inductive Ob where
  | lst (xs : List D) | dK (kvs : List (Key × D)) | dT (kvs : List (List Key × D)) | ins (C : Addr) (fs : List (Str × D)) | gone
abbrev Mem := List Ob
abbrev Dv := List (Option D)
/-- an error: its class by name, its fields -/
structure Exc where
  cls : Str
  fs : List (Str × D)
/-- what comes: a value, an error, or nothing is said -/
inductive R (α : Type) where
  | ok (a : α) (m : Mem) | ex (e : Exc) (m : Mem) | no
def R.bind {α β : Type} : R α → (α → Mem → R β) → R β
  | .ok a m, k => k a m
  | .ex e m, _ => .ex e m
  | .no, _ => .no
/-- where no error may leave -/
def R.calm {α : Type} : R α → R α
  | .ok a m => .ok a m
  | _ => .no
def R.of {α : Type} (o : Option α) (m : Mem) : R α := match o with
  | some a => .ok a m
  | none => .no
@[simp] theorem R.bind_ok {α β : Type} (a : α) (m : Mem) (k : α → Mem → R β) : (R.ok a m).bind k = k a m := rfl
@[simp] theorem R.bind_ex {α β : Type} (e : Exc) (m : Mem) (k : α → Mem → R β) : (R.ex e m).bind k = .ex e m := rfl
@[simp] theorem R.bind_no {α β : Type} (k : α → Mem → R β) : (R.no).bind k = .no := rfl
@[simp] theorem R.calm_ok {α : Type} (a : α) (m : Mem) : (R.ok a m).calm = .ok a m := rfl
@[simp] theorem R.of_some {α : Type} (a : α) (m : Mem) : R.of (some a) m = .ok a m := rfl
@[simp] theorem R.of_none {α : Type} (m : Mem) : R.of (none : Option α) m = .no := rfl

/-! ### what stands for what -/
mutual
inductive Rp (K : PySem.W.Frag) (B : Hp) (ρ : List Addr) : D → V → Prop
  | non : Rp K B ρ .non .non
  | bl (b : Bool) : Rp K B ρ (.bl b) (.bl b)
  | int (i : Int) : Rp K B ρ (.int i) (.int i)
  | str (s : Str) : Rp K B ρ (.str s) (.str s)
  | lst {a : Addr} {vs : List V} {ds : List D} : B a = some (.lst vs) → Rps K B ρ ds vs → Rp K B ρ (.lst ds) (.ref a)
  | tup {a : Addr} {vs : List V} {ds : List D} : SqT K B a vs → Rps K B ρ ds vs → Rp K B ρ (.tup ds) (.ref a)
  | dct {a : Addr} {kvs : List (Key × V)} {kds : List (Key × D)} : B a = some (.dK kvs) → Rpk K B ρ kds kvs → Rp K B ρ (.dct kds) (.ref a)
  | scr {a : Addr} {ns : List Int} : SqL K B a (ns.map V.int) → Rp K B ρ (.scr ns) (.ref a)
  | ptr {n : Nat} {a : Addr} : ρ[n]? = some a → Rp K B ρ (.ptr n) (.ref a)
  | raw (v : V) : Rp K B ρ (.raw v) v
inductive Rps (K : PySem.W.Frag) (B : Hp) (ρ : List Addr) : List D → List V → Prop
  | nil : Rps K B ρ [] []
  | cons {d : D} {v : V} {ds : List D} {vs : List V} : Rp K B ρ d v → Rps K B ρ ds vs → Rps K B ρ (d :: ds) (v :: vs)
inductive Rpk (K : PySem.W.Frag) (B : Hp) (ρ : List Addr) : List (Key × D) → List (Key × V) → Prop
  | nil : Rpk K B ρ [] []
  | cons {k : Key} {d : D} {v : V} {ds : List (Key × D)} {vs : List (Key × V)} : Rp K B ρ d v → Rpk K B ρ ds vs → Rpk K B ρ ((k, d) :: ds) ((k, v) :: vs)
end
/-- more is known -/
def Le (B : Hp) (ρ : List Addr) (B' : Hp) (ρ' : List Addr) : Prop := Ex B B' ∧ ∃ z, ρ' = ρ ++ z
theorem Le.refl (B : Hp) (ρ : List Addr) : Le B ρ B ρ := ⟨Ex.refl B, [], by simp⟩
theorem Le.trans {B B1 B2 : Hp} {ρ ρ1 ρ2 : List Addr} (a : Le B ρ B1 ρ1) (b : Le B1 ρ1 B2 ρ2) : Le B ρ B2 ρ2 := by
  obtain ⟨e, z, rfl⟩ := a
  obtain ⟨e', z', rfl⟩ := b
  exact ⟨e.trans e', z ++ z', by simp⟩
theorem Le.at {B B1 : Hp} {ρ ρ1 : List Addr} (a : Le B ρ B1 ρ1) {n : Nat} {x : Addr} (h : ρ[n]? = some x) : ρ1[n]? = some x := by
  obtain ⟨_, z, rfl⟩ := a
  have hl := (List.getElem?_eq_some_iff.mp h).1
  rw [List.getElem?_append_left hl]
  exact h
section
variable {K : PySem.W.Frag} {B B' : Hp} {ρ ρ' : List Addr}
mutual
theorem Rp.mono (l : Le B ρ B' ρ') : ∀ {d : D} {v : V}, Rp K B ρ d v → Rp K B' ρ' d v
  | _, _, .non => .non
  | _, _, .bl b => .bl b
  | _, _, .int i => .int i
  | _, _, .str s => .str s
  | _, _, .lst h r => .lst (l.1 _ _ h) (Rps.mono l r)
  | _, _, .scr h => .scr (ex_l l.1 h)
  | _, _, .tup h r => .tup (ex_t l.1 h) (Rps.mono l r)
  | _, _, .dct h r => .dct (l.1 _ _ h) (Rpk.mono l r)
  | _, _, .ptr h => .ptr (l.at h)
  | _, _, .raw v => .raw v
theorem Rps.mono (l : Le B ρ B' ρ') : ∀ {ds : List D} {vs : List V}, Rps K B ρ ds vs → Rps K B' ρ' ds vs
  | _, _, .nil => .nil
  | _, _, .cons h t => .cons (Rp.mono l h) (Rps.mono l t)
theorem Rpk.mono (l : Le B ρ B' ρ') : ∀ {ds : List (Key × D)} {vs : List (Key × V)}, Rpk K B ρ ds vs → Rpk K B' ρ' ds vs
  | _, _, .nil => .nil
  | _, _, .cons h t => .cons (Rp.mono l h) (Rpk.mono l t)
end
theorem Rps.len : ∀ {ds : List D} {vs : List V}, Rps K B ρ ds vs → ds.length = vs.length
  | _, _, .nil => rfl
  | _, _, .cons _ t => by rw [List.length_cons, List.length_cons, t.len]
theorem Rps.get : ∀ {ds : List D} {vs : List V} {i : Nat} {d : D}, Rps K B ρ ds vs → ds[i]? = some d → ∃ v, vs[i]? = some v ∧ Rp K B ρ d v
  | _, _, _, _, .nil, e => by simp at e
  | _, _, 0, _, .cons h _, e => by simp at e; subst e; exact ⟨_, rfl, h⟩
  | _, _, i + 1, d, .cons _ t, e => by
    obtain ⟨v, h1, h2⟩ := t.get (i := i) (d := d) (by simpa using e)
    exact ⟨v, by simpa using h1, h2⟩
theorem Rps.getV : ∀ {ds : List D} {vs : List V} {i : Nat} {v : V}, Rps K B ρ ds vs → vs[i]? = some v → ∃ d, ds[i]? = some d ∧ Rp K B ρ d v
  | _, _, _, _, .nil, e => by simp at e
  | _, _, 0, _, .cons h _, e => by simp at e; subst e; exact ⟨_, rfl, h⟩
  | _, _, i + 1, v, .cons _ t, e => by
    obtain ⟨d, h1, h2⟩ := t.getV (i := i) (v := v) (by simpa using e)
    exact ⟨d, by simpa using h1, h2⟩
theorem Rps.app : ∀ {ds es : List D} {vs us : List V}, Rps K B ρ ds vs → Rps K B ρ es us → Rps K B ρ (ds ++ es) (vs ++ us)
  | _, _, _, _, .nil, s => s
  | _, _, _, _, .cons h t, s => .cons h (t.app s)
theorem Rps.take : ∀ {ds : List D} {vs : List V} (n : Nat), Rps K B ρ ds vs → Rps K B ρ (ds.take n) (vs.take n)
  | _, _, 0, _ => by simp; exact .nil
  | _, _, _ + 1, .nil => by simp; exact .nil
  | _, _, n + 1, .cons h t => by simp; exact .cons h (t.take n)
theorem Rps.drop : ∀ {ds : List D} {vs : List V} (n : Nat), Rps K B ρ ds vs → Rps K B ρ (ds.drop n) (vs.drop n)
  | _, _, 0, r => by simpa using r
  | _, _, _ + 1, .nil => by simp; exact .nil
  | _, _, n + 1, .cons h t => by simp; exact t.drop n
theorem Rps.set : ∀ {ds : List D} {vs : List V} {d : D} {v : V} (n : Nat), Rps K B ρ ds vs → Rp K B ρ d v → Rps K B ρ (ds.set n d) (vs.set n v)
  | _, _, _, _, _, .nil, _ => .nil
  | _, _, _, _, 0, .cons _ t, h => .cons h t
  | _, _, _, _, n + 1, .cons g t, h => .cons g (t.set n h)
theorem Rps.snoc {ds : List D} {vs : List V} {d : D} {v : V} (r : Rps K B ρ ds vs) (h : Rp K B ρ d v) : Rps K B ρ (ds ++ [d]) (vs ++ [v]) := r.app (.cons h .nil)
theorem Rps.rev : ∀ {ds : List D} {vs : List V}, Rps K B ρ ds vs → Rps K B ρ ds.reverse vs.reverse
  | _, _, .nil => .nil
  | _, _, .cons h t => by
    rw [List.reverse_cons, List.reverse_cons]
    exact t.rev.snoc h
end

/-! ### the memory -/
def ObR (K : PySem.W.Frag) (B : Hp) (ρ : List Addr) (H : Hp) (a : Addr) : Ob → Prop
  | .lst ds => ∃ vs, H a = some (.lst vs) ∧ Rps K B ρ ds vs
  | .dK kds => ∃ kvs, H a = some (.dK kvs) ∧ Rpk K B ρ kds kvs
  | .dT kds => ∃ kvs : List (List Key × V), H a = some (.dT kvs) ∧ Paired (fun (p : List Key × D) (q : List Key × V) => p.1 = q.1 ∧ Rp K B ρ p.2 q.2) kds kvs
  | .ins C fs => ∃ (dx : Addr) (gs : List (Str × V)), H a = some (.ins C dx gs) ∧ Paired (fun (p : Str × D) (q : Str × V) => p.1 = q.1 ∧ Rp K B ρ p.2 q.2) fs gs
  | .gone => ∃ o, H a = some o
theorem ObR.there {K : PySem.W.Frag} {B H : Hp} {ρ : List Addr} {a : Addr} {o : Ob} (r : ObR K B ρ H a o) : ∃ u, H a = some u := by
  cases o with
  | lst ds => obtain ⟨_, h, _⟩ := r; exact ⟨_, h⟩
  | dK ds => obtain ⟨_, h, _⟩ := r; exact ⟨_, h⟩
  | dT ds => obtain ⟨_, h, _⟩ := r; exact ⟨_, h⟩
  | ins C fs => obtain ⟨_, _, h, _⟩ := r; exact ⟨_, h⟩
  | gone => exact r
theorem ObR.mono {K : PySem.W.Frag} {B B' H H' : Hp} {ρ ρ' : List Addr} {a : Addr} {o : Ob} (l : Le B ρ B' ρ') (e : ∀ u, H a = some u → H' a = some u) (r : ObR K B ρ H a o) : ObR K B' ρ' H' a o := by
  cases o with
  | lst ds => obtain ⟨vs, h, q⟩ := r; exact ⟨vs, e _ h, q.mono l⟩
  | dK ds => obtain ⟨vs, h, q⟩ := r; exact ⟨vs, e _ h, q.mono l⟩
  | dT ds => obtain ⟨vs, h, q⟩ := r; exact ⟨vs, e _ h, Paired.mapP q fun _ _ z => ⟨z.1, z.2.mono l⟩⟩
  | ins C fs => obtain ⟨dx, gs, h, q⟩ := r; exact ⟨dx, gs, e _ h, Paired.mapP q fun _ _ z => ⟨z.1, z.2.mono l⟩⟩
  | gone => obtain ⟨u, h⟩ := r; exact ⟨u, e _ h⟩
structure MR (K : PySem.W.Frag) (F B : Hp) (ρ : List Addr) (M : Mem) (H : Hp) : Prop where
  ex : Ex B H
  fr : Ex F H
  dj : ∀ a o, F a = some o → B a = none ∧ a ∉ ρ
  len : ρ.length = M.length
  nd : ρ.Nodup
  ob : ∀ (n : Nat) (o : Ob), M[n]? = some o → ∃ a, ρ[n]? = some a ∧ (o ≠ .gone → B a = none) ∧ ObR K B ρ H a o
section
variable {K : PySem.W.Frag} {F B H : Hp} {ρ : List Addr} {M : Mem}
theorem MR.there (m : MR K F B ρ M H) {n : Nat} {a : Addr} (h : ρ[n]? = some a) : ∃ u, H a = some u := by
  have hl := (List.getElem?_eq_some_iff.mp h).1
  have hm : M[n]? = some (M[n]'(by rw [← m.len]; exact hl)) := List.getElem?_eq_getElem _
  obtain ⟨b, hb, _, r⟩ := m.ob n _ hm
  rw [h] at hb
  cases hb
  exact r.there
theorem MR.notin (m : MR K F B ρ M H) {p : Addr} (hp : H p = none) : p ∉ ρ := fun hm => by
  obtain ⟨n, h⟩ := List.getElem?_of_mem hm
  obtain ⟨u, e⟩ := m.there h
  rw [hp] at e
  cases e
/-- a new thing that stays as it is -/
theorem MR.new (m : MR K F B ρ M H) {p : Addr} {o : HO} (hp : H p = none) : MR K F (upd B p o) ρ M (upd H p o) ∧ Le B ρ (upd B p o) ρ := by
  have hb : B p = none := fresh_back m.ex hp
  have l : Le B ρ (upd B p o) ρ := ⟨Ex.new hb, [], by simp⟩
  refine ⟨⟨fun a u e => ?_, fun a u e => ?_, fun a u e => ?_, m.len, m.nd, fun n ob h => ?_⟩, l⟩
  · by_cases q : a = p
    · subst q
      rw [upd_same] at e ⊢
      exact e
    · rw [upd_ne q] at e ⊢
      exact m.ex a u e
  · rw [upd_ne (ne_of_none (m.fr a u e) hp)]
    exact m.fr a u e
  · rw [upd_ne (ne_of_none (m.fr a u e) hp)]
    exact m.dj a u e
  · obtain ⟨a, ha, hB, r⟩ := m.ob n ob h
    obtain ⟨u, hu⟩ := r.there
    have na : a ≠ p := ne_of_none hu hp
    exact ⟨a, ha, fun z => by rw [upd_ne na]; exact hB z, r.mono l fun w q => by rw [upd_ne na]; exact q⟩
/-- a heap that has more -/
theorem MR.more (m : MR K F B ρ M H) {H' : Hp} (e : Ex H H') : MR K F B ρ M H' :=
  ⟨m.ex.trans e, m.fr.trans e, m.dj, m.len, m.nd, fun n ob h => by
    obtain ⟨a, ha, hB, r⟩ := m.ob n ob h
    exact ⟨a, ha, hB, r.mono (Le.refl _ _) fun w q => e a w q⟩⟩
/-- a new thing that may change -/
theorem MR.alloc (m : MR K F B ρ M H) {p : Addr} {o : HO} {ob : Ob} (hp : H p = none) (r : ObR K B (ρ ++ [p]) (upd H p o) p ob) : MR K F B (ρ ++ [p]) (M ++ [ob]) (upd H p o) ∧ Le B ρ B (ρ ++ [p]) := by
  have hb : B p = none := fresh_back m.ex hp
  have l : Le B ρ B (ρ ++ [p]) := ⟨Ex.refl B, [p], rfl⟩
  refine ⟨⟨fun a u e => ?_, fun a u e => ?_, fun a u e => ?_, by simp [m.len], ?_, fun n o' h => ?_⟩, l⟩
  · rw [upd_ne (ne_of_none e hb)]
    exact m.ex a u e
  · rw [upd_ne (ne_of_none (m.fr a u e) hp)]
    exact m.fr a u e
  · refine ⟨(m.dj a u e).1, fun z => ?_⟩
    rcases List.mem_append.mp z with z | z
    · exact (m.dj a u e).2 z
    · simp at z
      exact ne_of_none (m.fr a u e) hp z
  · rw [List.nodup_append]
    refine ⟨m.nd, by simp, fun a ha b hb' => ?_⟩
    simp at hb'
    subst hb'
    exact fun e => m.notin hp (e ▸ ha)
  · by_cases hn : n < M.length
    · rw [List.getElem?_append_left hn] at h
      obtain ⟨a, ha, hB, q⟩ := m.ob n o' h
      obtain ⟨u, hu⟩ := q.there
      have na : a ≠ p := ne_of_none hu hp
      exact ⟨a, l.at ha, hB, q.mono l fun w z => by rw [upd_ne na]; exact z⟩
    · rw [List.getElem?_append_right (by omega)] at h
      have hz : n - M.length = 0 := by
        have := (List.getElem?_eq_some_iff.mp h).1
        simp at this
        omega
      rw [hz] at h
      simp at h
      subst h
      have en : n = ρ.length := by rw [m.len]; omega
      exact ⟨p, by rw [en]; simp, fun _ => hb, r⟩
/-- a thing changed -/
theorem MR.put (m : MR K F B ρ M H) {n : Nat} {a : Addr} {o : HO} {ob old : Ob} (ha : ρ[n]? = some a) (ho : M[n]? = some old) (hg : old ≠ .gone) (r : ObR K B ρ (upd H a o) a ob) : MR K F B ρ (M.set n ob) (upd H a o) := by
  have hB : B a = none := by
    obtain ⟨b, hb, q, _⟩ := m.ob n old ho
    rw [ha] at hb
    cases hb
    exact q hg
  refine ⟨fun b u e => ?_, fun b u e => ?_, m.dj, by simp [m.len], m.nd, fun k o' h => ?_⟩
  · rw [upd_ne (ne_of_none e hB)]
    exact m.ex b u e
  · have nb : b ≠ a := fun z => (m.dj b u e).2 (z ▸ List.mem_of_getElem? ha)
    rw [upd_ne nb]
    exact m.fr b u e
  · by_cases hk : k = n
    · subst hk
      have hl := (List.getElem?_eq_some_iff.mp ho).1
      rw [List.getElem?_set_self hl] at h
      cases h
      exact ⟨a, ha, fun _ => hB, r⟩
    · rw [List.getElem?_set_ne (Ne.symm hk)] at h
      obtain ⟨b, hb, hq, q⟩ := m.ob k o' h
      have nb : b ≠ a := fun e => by
        subst e
        exact hk (nodup_ix' m.nd hb ha)
      exact ⟨b, hb, hq, q.mono (Le.refl _ _) fun w z => by rw [upd_ne nb]; exact z⟩
where
  nodup_ix' {N : List Addr} (hN : N.Nodup) {i j : Nat} {x : Addr} (a : N[i]? = some x) (b : N[j]? = some x) : i = j := by
    obtain ⟨h1, e1⟩ := List.getElem?_eq_some_iff.mp a
    obtain ⟨h2, e2⟩ := List.getElem?_eq_some_iff.mp b
    exact (List.getElem_inj hN).mp (e1.trans e2.symm)
end

/-! ### the slots -/
structure ER (K : PySem.W.Frag) (B : Hp) (ρ : List Addr) (η : Dv) (σ : L2.St) : Prop where
  len : η.length = σ.length
  at' : ∀ (i : Nat) (d : D), η[i]? = some (some d) → ∃ v, σ[i]? = some (some v) ∧ Rp K B ρ d v
section
variable {K : PySem.W.Frag} {B B' : Hp} {ρ ρ' : List Addr} {η : Dv} {σ : L2.St}
theorem ER.mono (l : Le B ρ B' ρ') (e : ER K B ρ η σ) : ER K B' ρ' η σ := ⟨e.len, fun i d h => let ⟨v, h1, h2⟩ := e.at' i d h; ⟨v, h1, h2.mono l⟩⟩
theorem ER.set (e : ER K B ρ η σ) (i : Nat) {d : D} {v : V} (r : Rp K B ρ d v) : ER K B ρ (η.set i (some d)) (σ.set i (some v)) := by
  refine ⟨by simp [e.len], fun j c h => ?_⟩
  by_cases hj : j = i
  · subst hj
    have hl : j < η.length := by
      have := (List.getElem?_eq_some_iff.mp h).1
      simpa using this
    rw [List.getElem?_set_self hl] at h
    cases h
    exact ⟨v, List.getElem?_set_self (by rw [← e.len]; exact hl), r⟩
  · rw [List.getElem?_set_ne (Ne.symm hj)] at h
    obtain ⟨u, h1, h2⟩ := e.at' j c h
    exact ⟨u, by rw [List.getElem?_set_ne (Ne.symm hj)]; exact h1, h2⟩
/-- slots forgotten -/
def wipeD (η : Dv) : List Nat → Dv
  | [] => η
  | v :: vs => (wipeD η vs).set v none
theorem ER.wipe (e : ER K B ρ η σ) : ∀ vs : List Nat, ER K B ρ (wipeD η vs) (L2.wipe σ vs)
  | [] => e
  | v :: vs => by
    have ih := e.wipe vs
    refine ⟨by show ((wipeD η vs).set v none).length = ((L2.wipe σ vs).set v none).length; simp [ih.len], fun j c h => ?_⟩
    have h : ((wipeD η vs).set v none)[j]? = some (some c) := h
    show ∃ u, ((L2.wipe σ vs).set v none)[j]? = some (some u) ∧ _
    by_cases hj : j = v
    · subst hj
      have hl : j < (wipeD η vs).length := by
        have := (List.getElem?_eq_some_iff.mp h).1
        simpa using this
      rw [List.getElem?_set_self hl] at h
      cases h
    · rw [List.getElem?_set_ne (Ne.symm hj)] at h
      obtain ⟨u, h1, h2⟩ := ih.at' j c h
      exact ⟨u, by rw [List.getElem?_set_ne (Ne.symm hj)]; exact h1, h2⟩
end
/-- only the slots ts may have changed -/
def Off (ts : List Nat) (σ σ' : L2.St) : Prop := σ'.length = σ.length ∧ ∀ j, j ∉ ts → σ'[j]? = σ[j]?
theorem Off.refl (ts : List Nat) (σ : L2.St) : Off ts σ σ := ⟨rfl, fun _ _ => rfl⟩
theorem Off.trans {ts us : List Nat} {σ σ1 σ2 : L2.St} (a : Off ts σ σ1) (b : Off us σ1 σ2) : Off (ts ++ us) σ σ2 :=
  ⟨b.1.trans a.1, fun j h => (b.2 j fun z => h (List.mem_append_right _ z)).trans (a.2 j fun z => h (List.mem_append_left _ z))⟩
theorem Off.set (i : Nat) (v : Option V) (σ : L2.St) : Off [i] σ (σ.set i v) := ⟨by simp, fun j h => List.getElem?_set_ne (fun e => h (by simp [e]))⟩
theorem wipe_off : ∀ {ts vs : List Nat} {σ σ' : L2.St}, Off ts σ σ' → (∀ t ∈ ts, t ∈ vs) → L2.wipe σ' vs = L2.wipe σ vs := by
  intro ts vs σ σ' h hs
  apply List.ext_getElem?
  intro j
  by_cases hj : j ∈ vs
  · have gen : ∀ (τ : L2.St) (ws : List Nat), j ∈ ws → (L2.wipe τ ws)[j]? = if j < τ.length then some none else none := by
      intro τ ws
      induction ws with
      | nil => intro z; cases z
      | cons w ws ih =>
        intro z
        show ((L2.wipe τ ws).set w none)[j]? = _
        by_cases e : w = j
        · subst e
          by_cases hl : w < τ.length
          · rw [if_pos hl, List.getElem?_set_self (by rw [L2.wipe_length]; exact hl)]
          · rw [if_neg hl, List.getElem?_eq_none]
            rw [List.length_set, L2.wipe_length]; omega
        · rw [List.getElem?_set_ne e]
          exact ih (by rcases List.mem_cons.mp z with q | q; exact absurd q.symm e; exact q)
    rw [gen _ _ hj, gen _ _ hj, h.1]
  · rw [L2.wipe_out hj, L2.wipe_out hj]
    exact h.2 j fun z => hj (hs j z)

/-! ### what is wanted of what comes -/
/-- an error as it stands: its class, its own dict -/
def XR (K : PySem.W.Frag) (mg : Str → Option Value) (B : Hp) (ρ : List Addr) (H : Hp) (e : Exc) (c : Value) (dx : Option Addr) : Prop :=
  mg e.cls = some c ∧ ∃ (d : Addr) (gs : List (Str × V)), dx = some d ∧ H d = some (.xd gs) ∧ Paired (fun (p : Str × D) (q : Str × V) => p.1 = q.1 ∧ Rp K B ρ p.2 q.2) e.fs gs
def Wp {α : Type} (K : PySem.W.Frag) (mg : Str → Option Value) (F B : Hp) (ρ : List Addr) (W : XK) (P : α → Hp → List Addr → Hp → Prop) : R α → Prop
  | .ok a M' => ∀ B' ρ' H', Le B ρ B' ρ' → MR K F B' ρ' M' H' → P a B' ρ' H'
  | .ex e M' => ∀ c dx B' ρ' H', Le B ρ B' ρ' → MR K F B' ρ' M' H' → XR K mg B' ρ' H' e c dx → W c dx H'
  | .no => False
section
variable {α β : Type} {K : PySem.W.Frag} {mg : Str → Option Value} {F B B' : Hp} {ρ ρ' : List Addr} {W : XK} {P : α → Hp → List Addr → Hp → Prop} {P' : β → Hp → List Addr → Hp → Prop}
theorem Wp.mono {r : R α} (l : Le B ρ B' ρ') (h : Wp K mg F B ρ W P r) : Wp K mg F B' ρ' W P r := by
  cases r with
  | ok a M => exact fun B2 ρ2 H2 l2 m => h B2 ρ2 H2 (l.trans l2) m
  | ex e M => exact fun c dx B2 ρ2 H2 l2 m x => h c dx B2 ρ2 H2 (l.trans l2) m x
  | no => exact h
theorem Wp.bind {r : R β} {k : β → Mem → R α} (h : Wp K mg F B ρ W P (r.bind k)) (hk : ∀ b M' B' ρ' H', Le B ρ B' ρ' → MR K F B' ρ' M' H' → Wp K mg F B' ρ' W P (k b M') → P' b B' ρ' H') : Wp K mg F B ρ W P' r := by
  cases r with
  | ok a M => exact fun B2 ρ2 H2 l2 m => hk a M B2 ρ2 H2 l2 m (Wp.mono l2 h)
  | ex e M => exact h
  | no => exact h
theorem Wp.imp {P2 : α → Hp → List Addr → Hp → Prop} {r : R α} (h : Wp K mg F B ρ W P r) (hp : ∀ a B' ρ' H', Le B ρ B' ρ' → P a B' ρ' H' → P2 a B' ρ' H') : Wp K mg F B ρ W P2 r := by
  cases r with
  | ok a M => exact fun B2 ρ2 H2 l2 m => hp a B2 ρ2 H2 l2 (h B2 ρ2 H2 l2 m)
  | ex e M => exact h
  | no => exact h
theorem Wp.of {o : Option α} {M : Mem} (h : Wp K mg F B ρ W P (R.of o M)) : ∃ a, o = some a ∧ Wp K mg F B ρ W P (.ok a M) := by
  cases o with
  | none => exact h.elim
  | some a => exact ⟨a, rfl, h⟩
theorem Wp.ret {a : α} {M : Mem} {H : Hp} (h : Wp K mg F B ρ W P (.ok a M)) (m : MR K F B ρ M H) : P a B ρ H := h B ρ H (Le.refl _ _) m
end

abbrev XE := Dv → Mem → R D
abbrev XT := Dv → Mem → R Bool
abbrev XA := Dv → Mem → R (List D)
/-- how a statement ends -/
inductive Fl where
  | nx (η : Dv) | rt (d : D) | bk (η : Dv) | ct (η : Dv)
abbrev XS := Dv → Mem → R Fl
abbrev XG := D → Dv → Mem → R Dv
abbrev XI := Dv → Mem → R (List D)

section
variable (K : PySem.W.Frag) (mg : Str → Option Value) (W : XK)
def tE (f : XE) : TE := fun σ H Q => ∃ η F B ρ M, ER K B ρ η σ ∧ MR K F B ρ M H ∧ Wp K mg F B ρ W (fun d B' ρ' H' => ∀ v, Rp K B' ρ' d v → Q v H') (f η M)
def tT (f : XT) : TT := fun σ H Q => ∃ η F B ρ M, ER K B ρ η σ ∧ MR K F B ρ M H ∧ Wp K mg F B ρ W (fun b _ _ H' => Q b H') (f η M)
def tA (f : XA) : TA := fun σ H Q => ∃ η F B ρ M, ER K B ρ η σ ∧ MR K F B ρ M H ∧ Wp K mg F B ρ W (fun ds B' ρ' H' => ∀ vs, Rps K B' ρ' ds vs → Q vs H') (f η M)
def FlP (E : Ends) : Fl → Hp → List Addr → Hp → Prop
  | .nx η, B, ρ, H => ∀ σ, ER K B ρ η σ → E.nx σ H
  | .bk η, B, ρ, H => ∀ σ, ER K B ρ η σ → E.bk σ H
  | .ct η, B, ρ, H => ∀ σ, ER K B ρ η σ → E.ct σ H
  | .rt d, B, ρ, H => ∀ v, Rp K B ρ d v → E.rt v H
def tS (f : XS) : TS := fun E σ H => ∃ η F B ρ M, ER K B ρ η σ ∧ MR K F B ρ M H ∧ Wp K mg F B ρ W (FlP K E) (f η M)
def tG (ts : List Nat) (g : XG) : TG := fun v σ H Q => ∃ d η F B ρ M, Rp K B ρ d v ∧ ER K B ρ η σ ∧ MR K F B ρ M H ∧ Wp K mg F B ρ W (fun η' B' ρ' H' => ∀ σ', ER K B' ρ' η' σ' → Off ts σ σ' → Q σ' H') (g d η M)
def tGs (ts : List Nat) (g : List D → Dv → Mem → R Dv) : TGs := fun vs σ H Q => ∃ ds η F B ρ M, Rps K B ρ ds vs ∧ ER K B ρ η σ ∧ MR K F B ρ M H ∧ Wp K mg F B ρ W (fun η' B' ρ' H' => ∀ σ', ER K B' ρ' η' σ' → Off ts σ σ' → Q σ' H') (g ds η M)
/-- a walk gives just these, as long as what is known stays -/
structure WalkD (J : It) (B : Hp) (ρ : List Addr) (ds : List D) : Prop where
  w : ∃ (G : Hp → Prop) (Y : Nat → Hp → V → Hp → Prop), Walk J ds.length G Y ∧ (∀ H, Ex B H → G H) ∧
    ∀ (i : Nat) (d : D), ds[i]? = some d → ∀ F B1 ρ1 M H x H2, Le B ρ B1 ρ1 → MR K F B1 ρ1 M H → Y i H x H2 → ∃ B2, Le B1 ρ1 B2 ρ1 ∧ MR K F B2 ρ1 M H2 ∧ Rp K B2 ρ1 d x ∧ Ex H H2
def tI (f : XI) : TI := fun σ H Z => ∃ η F B ρ M, ER K B ρ η σ ∧ MR K F B ρ M H ∧ Wp K mg F B ρ W (fun ds B' ρ' H' => ∀ J, WalkD K J B' ρ' ds → Z J H') (f η M)
end
section
variable (X : Cx) (W : XK)
/-- THE JUDGEMENTS: a text of the program does what the plain function says -/
def DE (e : Expr) (f : XE) : Prop := PE X e (tE X.K X.mg W f)
def DT (e : Expr) (f : XT) : Prop := PT X e (tT X.K X.mg W f)
def DW (e : Expr) (f : XT) : Prop := PW X e (tT X.K X.mg W f)
def DA (es : List Expr) (f : XA) : Prop := PA X es (tA X.K X.mg W f)
def DS (st : Stmt) (f : XS) : Prop := PS X st (tS X.K X.mg W f)
def DSs (sts : List Stmt) (f : XS) : Prop := PSs X sts (tS X.K X.mg W f)
def DG (tg : Expr) (ts : List Nat) (g : XG) : Prop := PG X tg (tG X.K X.mg W ts g)
def DGs (tgs : List Expr) (ts : List Nat) (g : List D → Dv → Mem → R Dv) : Prop := PGs X tgs (tGs X.K X.mg W ts g)
def DI (tg iter : Expr) (f : XI) : Prop := PI X tg iter (tI X.K X.mg W f)
def DTs (ifs : List Expr) (f : XT) : Prop := PTs X ifs (tT X.K X.mg W f)
end
section
variable {X : Cx}
theorem PE.imp {e : Expr} {t t' : TE} (h : PE X e t) (i : ∀ σ H Q, t' σ H Q → t σ H Q) : PE X e t' := ⟨fun pins s σ H Q I q => h.run pins s σ H Q I (i σ H Q q)⟩
theorem PT.imp {e : Expr} {t t' : TT} (h : PT X e t) (i : ∀ σ H Q, t' σ H Q → t σ H Q) : PT X e t' := ⟨fun pins s σ H Q I q => h.run pins s σ H Q I (i σ H Q q)⟩
theorem PW.imp {e : Expr} {t t' : TT} (h : PW X e t) (i : ∀ σ H Q, t' σ H Q → t σ H Q) : PW X e t' := ⟨fun wh pins s σ H Q I q => h.run wh pins s σ H Q I (i σ H Q q)⟩
theorem PA.imp {es : List Expr} {t t' : TA} (h : PA X es t) (i : ∀ σ H Q, t' σ H Q → t σ H Q) : PA X es t' := ⟨fun pos pins s σ H Q I q => h.run pos pins s σ H Q I (i σ H Q q)⟩
theorem PS.imp {st : Stmt} {t t' : TS} (h : PS X st t) (i : ∀ E σ H, t' E σ H → t E σ H) : PS X st t' := ⟨fun pins s σ H E I q => h.run pins s σ H E I (i E σ H q)⟩
theorem PSs.imp {st : List Stmt} {t t' : TS} (h : PSs X st t) (i : ∀ E σ H, t' E σ H → t E σ H) : PSs X st t' := ⟨fun pins s σ H E I q => h.run pins s σ H E I (i E σ H q)⟩
theorem PG.imp {tg : Expr} {t t' : TG} (h : PG X tg t) (i : ∀ v σ H Q, t' v σ H Q → t v σ H Q) : PG X tg t' := ⟨fun pins s σ H v u Q I r q => h.run pins s σ H v u Q I r (i v σ H Q q)⟩
theorem PGs.imp {tg : List Expr} {t t' : TGs} (h : PGs X tg t) (i : ∀ v σ H Q, t' v σ H Q → t v σ H Q) : PGs X tg t' := ⟨fun pins s σ H v u Q I r q => h.run pins s σ H v u Q I r (i v σ H Q q)⟩
theorem PI.imp {tg it : Expr} {t t' : TI} (h : PI X tg it t) (i : ∀ σ H Q, t' σ H Q → t σ H Q) : PI X tg it t' := ⟨fun pins s σ H Q I q => h.run pins s σ H Q I (i σ H Q q)⟩
theorem PTs.imp {e : List Expr} {t t' : TT} (h : PTs X e t) (i : ∀ σ H Q, t' σ H Q → t σ H Q) : PTs X e t' := ⟨fun pins s σ H Q I q => h.run pins s σ H Q I (i σ H Q q)⟩
end
end Dn

namespace Dn
open PySem L2 Evl
section
variable {X : Cx} {W : XK}
/-! ### names, constants -/
def xVar (i : Nat) : XE := fun η M => match η[i]? with
  | some (some d) => .ok d M
  | _ => .no
def xC (d : D) : XE := fun _ M => .ok d M
theorem sE {e : Expr} {t : TE} {f : XE} (h : PE X e t) (i : ∀ σ H Q η F B ρ M, ER X.K B ρ η σ → MR X.K F B ρ M H → Wp X.K X.mg F B ρ W (fun d B' ρ' H' => ∀ v, Rp X.K B' ρ' d v → Q v H') (f η M) → t σ H Q) : DE X W e f :=
  PE.imp h fun σ H Q ⟨η, F, B, ρ, M, e, m, w⟩ => i σ H Q η F B ρ M e m w
theorem sT {e : Expr} {t : TT} {f : XT} (h : PT X e t) (i : ∀ σ H Q η F B ρ M, ER X.K B ρ η σ → MR X.K F B ρ M H → Wp X.K X.mg F B ρ W (fun b _ _ H' => Q b H') (f η M) → t σ H Q) : DT X W e f :=
  PT.imp h fun σ H Q ⟨η, F, B, ρ, M, e, m, w⟩ => i σ H Q η F B ρ M e m w
theorem de_var {i : Nat} {x : Str} {pos : Pos} (hN : X.N[i]? = some x := by rfl) (hv : Vis X.env.scope x := by first | exact Or.inl rfl | exact Or.inr (Or.inl rfl) | exact Or.inr (Or.inr rfl)) (hd : (x == ("__debug__" : Str)) = false := by decide)
    (hcd : (x == ("__classdict__" : Str)) = false := by decide) : DE X W (.Name x pos) (xVar i) := sE (pe_var hN hv hd hcd) fun σ H Q η F B ρ M e m w => by
  unfold xVar at w
  split at w
  · next d h =>
    obtain ⟨v, h1, h2⟩ := e.at' i d h
    exact ⟨v, h1, w.ret m v h2⟩
  · exact w.elim
theorem de_int {i : Int} {j pos} : DE X W (.Constant (.int i) j pos) (xC (.int i)) := sE pe_int fun σ H Q η F B ρ M e m w => w.ret m _ (.int i)
theorem de_str {x : Str} {j pos} : DE X W (.Constant (.str x) j pos) (xC (.str x)) := sE pe_str fun σ H Q η F B ρ M e m w => w.ret m _ (.str x)
theorem de_bl {b : Bool} {j pos} : DE X W (.Constant (.bool b) j pos) (xC (.bl b)) := sE pe_bl fun σ H Q η F B ρ M e m w => w.ret m _ (.bl b)
theorem de_non {j pos} : DE X W (.Constant .none j pos) (xC .non) := sE pe_non fun σ H Q η F B ρ M e m w => w.ret m _ .non
/-- flat data of a value -/
def dOf : V → D
  | .non => .non
  | .bl b => .bl b
  | .int i => .int i
  | .str s => .str s
  | v => .raw v
theorem rp_of (K : PySem.W.Frag) (B : Hp) (ρ : List Addr) (v : V) : Rp K B ρ (dOf v) v := by
  cases v with
  | non => exact .non
  | bl b => exact .bl b
  | int i => exact .int i
  | str s => exact .str s
  | byt b => exact .raw _
  | flt b => exact .raw _
  | ref a => exact .raw _
  | ty n => exact .raw _
theorem de_glob {x : Str} {v : V} {u : Value} {pos : Pos} (hg : Gl X x) (hm : X.mg x = some u) (r : RelV v u) (hd : (x == ("__debug__" : Str)) = false := by decide) : DE X W (.Name x pos) (xC (dOf v)) :=
  sE (pe_glob hg hm r hd) fun σ H Q η F B ρ M e m w => w.ret m _ (rp_of _ _ _ v)
theorem de_bltn {x : Str} {v : V} {u : Value} {pos : Pos} (hg : Gl X x) (hm : X.mg x = none) (hv : bootBuiltins x = some u) (r : RelV v u) (hn : x ≠ "__name__" := by decide) (hd : (x == ("__debug__" : Str)) = false := by decide) : DE X W (.Name x pos) (xC (dOf v)) :=
  sE (pe_bltn hg hm hv r hn hd) fun σ H Q η F B ρ M e m w => w.ret m _ (rp_of _ _ _ v)

/-! ### operators -/
/-- an operator on data -/
abbrev Op2 := Mem → D → D → Option D
/-- nothing but new things that stay -/
abbrev Done (K : PySem.W.Frag) (F B : Hp) (ρ : List Addr) (M : Mem) (d : D) (Q : VK) : Prop := ∀ v B' H', Le B ρ B' ρ → MR K F B' ρ M H' → Rp K B' ρ d v → Q v H'
def OSnd (K : PySem.W.Frag) (r : R2) (h : Op2) : Prop := ∀ F B ρ M H x y dx dy dz (Q : VK), MR K F B ρ M H → Rp K B ρ dx x → Rp K B ρ dy y → h M dx dy = some dz → Done K F B ρ M dz Q → r x y H Q
def xOp (h : Op2) (f g : XE) : XE := fun η M => (f η M).bind fun x M1 => (g η M1).bind fun y M2 => R.of (h M2 x y) M2
theorem done_of {K : PySem.W.Frag} {mg : Str → Option Value} {F B : Hp} {ρ : List Addr} {M : Mem} {d : D} {Q : VK} (h : Wp K mg F B ρ W (fun d B' ρ' H' => ∀ v, Rp K B' ρ' d v → Q v H') (.ok d M)) : Done K F B ρ M d Q :=
  fun v B' H' l m r => h B' ρ H' l m v r
theorem op_snd {r : R2} {h : Op2} {f g : XE} {ta tb : TE} (os : OSnd X.K r h) (ha : ∀ σ H Q, tE X.K X.mg W f σ H Q → ta σ H Q) (hb : ∀ σ H Q, tE X.K X.mg W g σ H Q → tb σ H Q) (σ : L2.St) (H : Hp) (Q : VK) (q : tE X.K X.mg W (xOp h f g) σ H Q) : tOp r ta tb σ H Q := by
  obtain ⟨η, F, B, ρ, M, e, m, w⟩ := q
  refine ha _ _ _ ⟨η, F, B, ρ, M, e, m, w.bind fun dx M1 B1 ρ1 H1 l1 m1 w1 x rx => ?_⟩
  refine hb _ _ _ ⟨η, F, B1, ρ1, M1, e.mono l1, m1, w1.bind fun dy M2 B2 ρ2 H2 l2 m2 w2 y ry => ?_⟩
  obtain ⟨dz, hz, w3⟩ := w2.of
  exact os F B2 ρ2 M2 H2 x y dx dy dz Q m2 (rx.mono l2) ry hz (done_of w3)
def OpD (X : Cx) (f : Value → Value → Sem Value) (h : Op2) : Prop := ∃ r, OpR X f r ∧ OSnd X.K r h
variable {a b c : Expr} {f g k : XE} {pos : Pos}
theorem de_op {op : Operator} {h : Op2} (o : OpD X (binaryOp op) h) (ha : DE X W a f) (hb : DE X W b g) : DE X W (.BinOp a op b pos) (xOp h f g) := by
  obtain ⟨r, ho, os⟩ := o
  exact PE.imp (pe_op ho ha hb) (op_snd os (fun _ _ _ q => q) fun _ _ _ q => q)
theorem de_cmp {op : CmpOp} {h : Op2} (o : OpD X (compareOp op) h) (ha : DE X W a f) (hb : DE X W b g) (hm : behindInMarks op b = false) : DE X W (.Compare a [op] [b] pos) (xOp h f g) := by
  obtain ⟨r, ho, os⟩ := o
  exact PE.imp (pe_cmpR ho ha hb hm) (op_snd os (fun _ _ _ q => q) fun _ _ _ q => q)
/-- the data is a truth -/
def asB : D → Option Bool
  | .bl b => some b
  | _ => none
theorem asB_some {d : D} {b : Bool} (h : asB d = some b) : d = .bl b := by
  cases d <;> simp_all [asB]
def xTst (f : XE) : XT := fun η M => (f η M).bind fun d M1 => R.of (asB d) M1
theorem tst_snd {f : XE} {te : TE} (ha : ∀ σ H Q, tE X.K X.mg W f σ H Q → te σ H Q) (σ : L2.St) (H : Hp) (Q : Bool → Hp → Prop) (q : tT X.K X.mg W (xTst f) σ H Q) : te σ H fun x H' => ∃ k, x = .bl k ∧ Q k H' := by
  obtain ⟨η, F, B, ρ, M, e, m, w⟩ := q
  refine ha _ _ _ ⟨η, F, B, ρ, M, e, m, w.bind fun dx M1 B1 ρ1 H1 l1 m1 w1 x rx => ?_⟩
  obtain ⟨b, hb, w2⟩ := w1.of
  rw [asB_some hb] at rx
  cases rx
  exact ⟨b, rfl, w2.ret m1⟩
theorem dt_cmp {op : CmpOp} {h : Op2} (o : OpD X (compareOp op) h) (ha : DE X W a f) (hb : DE X W b g) (hm : behindInMarks op b = false) : DT X W (.Compare a [op] [b] pos) (xTst (xOp h f g)) := by
  obtain ⟨r, ho, os⟩ := o
  exact PT.imp (pt_cmpR ho ha hb hm) fun σ H Q q => tst_snd (op_snd os (fun _ _ _ q => q) fun _ _ _ q => q) σ H Q q
/-- a truth as a test -/
theorem dt_val (ha : DE X W a f) (he : ∀ whole, isTrue a X.env whole = (do let v ← whole; standAt a.pos; holding [v] (truthy v)) := by intro _; rfl) : DT X W a (xTst f) :=
  PT.imp (pt_val ha he) fun σ H Q q => tst_snd (fun _ _ _ q => q) σ H Q q
/-- a chain of two comparisons -/
def xChain (h h' : Op2) (f g k : XE) : XE := fun η M => (f η M).bind fun x M1 => (g η M1).bind fun y M2 => (R.of ((h M2 x y).bind asB) M2).bind fun b M3 =>
  if b = true then (k η M3).bind fun z M4 => R.of (h' M4 y z) M4 else .ok (.bl false) M3
theorem chain_snd {r r' : R2} {h h' : Op2} (os : OSnd X.K r h) (os' : OSnd X.K r' h') (σ : L2.St) (H : Hp) (Q : VK) (q : tE X.K X.mg W (xChain h h' f g k) σ H Q) : tChain r r' (tE X.K X.mg W f) (tE X.K X.mg W g) (tE X.K X.mg W k) σ H Q := by
  obtain ⟨η, F, B, ρ, M, e, m, w⟩ := q
  refine ⟨η, F, B, ρ, M, e, m, w.bind fun dx M1 B1 ρ1 H1 l1 m1 w1 x rx => ?_⟩
  refine ⟨η, F, B1, ρ1, M1, e.mono l1, m1, w1.bind fun dy M2 B2 ρ2 H2 l2 m2 w2 y ry => ?_⟩
  have w2' := w2
  cases hz : (h M2 dx dy) with
  | none => rw [hz] at w2; exact w2.elim
  | some dz =>
    rw [hz] at w2
    cases hb : asB dz with
    | none => simp [hb] at w2; exact w2.elim
    | some t =>
      simp only [Option.bind_some, hb, R.of_some, R.bind_ok] at w2
      have ez := asB_some hb
      subst ez
      refine os F B2 ρ2 M2 H2 x y dx dy (.bl t) _ m2 (rx.mono l2) ry hz fun v B3 H3 l3 m3 r3 => ?_
      cases r3
      refine ⟨t, rfl, ?_⟩
      cases t with
      | true =>
        have w3 : Wp X.K X.mg F B2 ρ2 W _ ((k η M2).bind fun z M4 => R.of (h' M4 dy z) M4) := w2
        refine ⟨η, F, B3, ρ2, M2, (e.mono (l1.trans l2)).mono l3, m3, (w3.mono l3).bind fun dz M4 B4 ρ4 H4 l4 m4 w4 z rz => ?_⟩
        obtain ⟨dw, hw, w5⟩ := w4.of
        exact os' F B4 ρ4 M4 H4 y z dy dz dw Q m4 (ry.mono (l3.trans l4)) rz hw (done_of w5)
      | false =>
        have w3 : Wp X.K X.mg F B2 ρ2 W (fun d B' ρ' H' => ∀ v, Rp X.K B' ρ' d v → Q v H') (.ok (.bl false) M2) := w2
        exact w3 B3 ρ2 H3 l3 m3 _ (.bl false)
theorem de_chain {op op' : CmpOp} {h h' : Op2} (o : OpD X (compareOp op) h) (o' : OpD X (compareOp op') h') (ha : DE X W a f) (hb : DE X W b g) (hc : DE X W c k) (h1 : lastMarks [op, op'] [b, c] = false := by with_unfolding_all rfl) : DE X W (.Compare a [op, op'] [b, c] pos) (xChain h h' f g k) := by
  obtain ⟨r, ho, os⟩ := o
  obtain ⟨r', ho', os'⟩ := o'
  exact PE.imp (pe_chain ho ho' ha hb hc h1) (chain_snd os os')
theorem dt_chain {op op' : CmpOp} {h h' : Op2} (o : OpD X (compareOp op) h) (o' : OpD X (compareOp op') h') (ha : DE X W a f) (hb : DE X W b g) (hc : DE X W c k) (h1 : lastMarks [op, op'] [b, c] = false := by with_unfolding_all rfl) : DT X W (.Compare a [op, op'] [b, c] pos) (xTst (xChain h h' f g k)) := by
  obtain ⟨r, ho, os⟩ := o
  obtain ⟨r', ho', os'⟩ := o'
  exact PT.imp (pt_chain ho ho' ha hb hc h1) fun σ H Q q => tst_snd (chain_snd os os') σ H Q q

/-! ### and, or, not, if else -/
variable {p q : XT} {rest : List Expr}
def xAnd (p q : XT) : XT := fun η M => (p η M).bind fun b M1 => if b = true then q η M1 else .ok false M1
def xOr (p q : XT) : XT := fun η M => (p η M).bind fun b M1 => if b = true then .ok true M1 else q η M1
def xNot (p : XT) : XT := fun η M => (p η M).bind fun b M1 => .ok (!b) M1
theorem dw_and1 (ha : DT X W a p) : DW X W (.BoolOp .And [a] pos) p := pw_and1 ha
theorem dw_or1 (ha : DT X W a p) : DW X W (.BoolOp .Or [a] pos) p := pw_or1 ha
theorem dw_and (ha : DT X W a p) (hb : DW X W (.BoolOp .And (b :: rest) pos) q) : DW X W (.BoolOp .And (a :: b :: rest) pos) (xAnd p q) :=
  PW.imp (pw_and ha hb) fun σ H Q z => by
    obtain ⟨η, F, B, ρ, M, e, m, w⟩ := z
    refine ⟨η, F, B, ρ, M, e, m, w.bind fun t M1 B1 ρ1 H1 l1 m1 w1 => ?_⟩
    cases t with
    | true => exact ⟨η, F, B1, ρ1, M1, e.mono l1, m1, w1⟩
    | false => exact Wp.ret (P := fun b _ _ H' => Q b H') w1 m1
theorem dw_or (ha : DT X W a p) (hb : DW X W (.BoolOp .Or (b :: rest) pos) q) : DW X W (.BoolOp .Or (a :: b :: rest) pos) (xOr p q) :=
  PW.imp (pw_or ha hb) fun σ H Q z => by
    obtain ⟨η, F, B, ρ, M, e, m, w⟩ := z
    refine ⟨η, F, B, ρ, M, e, m, w.bind fun t M1 B1 ρ1 H1 l1 m1 w1 => ?_⟩
    cases t with
    | false => exact ⟨η, F, B1, ρ1, M1, e.mono l1, m1, w1⟩
    | true => exact Wp.ret (P := fun b _ _ H' => Q b H') w1 m1
theorem dt_w {e : Expr} (h : DW X W e p) : DT X W e p := PW.pt h
theorem dt_not (ha : DT X W a p) : DT X W (.UnaryOp .Not a pos) (xNot p) :=
  PT.imp (pt_not ha) fun σ H Q z => by
    obtain ⟨η, F, B, ρ, M, e, m, w⟩ := z
    exact ⟨η, F, B, ρ, M, e, m, w.bind fun t M1 B1 ρ1 H1 l1 m1 w1 => Wp.ret (P := fun b _ _ H' => Q b H') w1 m1⟩
/-- as values: truths -/
def xAndV (f g : XE) : XE := fun η M => (f η M).bind fun d M1 => (R.of (asB d) M1).bind fun b M2 => if b = true then g η M2 else .ok (.bl false) M2
def xOrV (f g : XE) : XE := fun η M => (f η M).bind fun d M1 => (R.of (asB d) M1).bind fun b M2 => if b = true then .ok (.bl true) M2 else g η M2
def xNotV (f : XE) : XE := fun η M => (f η M).bind fun d M1 => (R.of (asB d) M1).bind fun b M2 => .ok (.bl (!b)) M2
theorem de_one {op} (h : DE X W a f) : DE X W (.BoolOp op [a] pos) f := pe_one h
theorem de_and (ha : DE X W a f) (hb : DE X W (.BoolOp .And (b :: rest) pos) g) : DE X W (.BoolOp .And (a :: b :: rest) pos) (xAndV f g) :=
  PE.imp (pe_and ha hb) fun σ H Q z => by
    obtain ⟨η, F, B, ρ, M, e, m, w⟩ := z
    refine ⟨η, F, B, ρ, M, e, m, w.bind fun dx M1 B1 ρ1 H1 l1 m1 w1 x rx => ?_⟩
    cases hb : asB dx with
    | none => rw [hb] at w1; exact w1.elim
    | some t =>
      rw [hb] at w1
      rw [asB_some hb] at rx
      cases rx
      refine ⟨t, rfl, ?_⟩
      cases t with
      | true => exact ⟨η, F, B1, ρ1, M1, e.mono l1, m1, w1⟩
      | false => exact Wp.ret (P := fun d B' ρ' H' => ∀ v, Rp X.K B' ρ' d v → Q v H') w1 m1 _ (.bl false)
theorem de_or (ha : DE X W a f) (hb : DE X W (.BoolOp .Or (b :: rest) pos) g) : DE X W (.BoolOp .Or (a :: b :: rest) pos) (xOrV f g) :=
  PE.imp (pe_or ha hb) fun σ H Q z => by
    obtain ⟨η, F, B, ρ, M, e, m, w⟩ := z
    refine ⟨η, F, B, ρ, M, e, m, w.bind fun dx M1 B1 ρ1 H1 l1 m1 w1 x rx => ?_⟩
    cases hb : asB dx with
    | none => rw [hb] at w1; exact w1.elim
    | some t =>
      rw [hb] at w1
      rw [asB_some hb] at rx
      cases rx
      refine ⟨t, rfl, ?_⟩
      cases t with
      | false => exact ⟨η, F, B1, ρ1, M1, e.mono l1, m1, w1⟩
      | true => exact Wp.ret (P := fun d B' ρ' H' => ∀ v, Rp X.K B' ρ' d v → Q v H') w1 m1 _ (.bl true)
theorem de_not (ha : DE X W a f) : DE X W (.UnaryOp .Not a pos) (xNotV f) :=
  PE.imp (pe_not ha) fun σ H Q z => by
    obtain ⟨η, F, B, ρ, M, e, m, w⟩ := z
    refine ⟨η, F, B, ρ, M, e, m, w.bind fun dx M1 B1 ρ1 H1 l1 m1 w1 x rx => ?_⟩
    cases hb : asB dx with
    | none => rw [hb] at w1; exact w1.elim
    | some t =>
      rw [hb] at w1
      rw [asB_some hb] at rx
      cases rx
      exact ⟨t, rfl, Wp.ret (P := fun d B' ρ' H' => ∀ v, Rp X.K B' ρ' d v → Q v H') w1 m1 _ (.bl _)⟩
def xIf (p : XT) (f g : XE) : XE := fun η M => (p η M).bind fun b M1 => if b = true then f η M1 else g η M1
theorem de_if {c : Expr} (hc : DT X W c p) (ha : DE X W a f) (hb : DE X W b g) : DE X W (.IfExp c a b pos) (xIf p f g) :=
  PE.imp (pe_ifExp hc ha hb) fun σ H Q z => by
    obtain ⟨η, F, B, ρ, M, e, m, w⟩ := z
    refine ⟨η, F, B, ρ, M, e, m, w.bind fun t M1 B1 ρ1 H1 l1 m1 w1 => ?_⟩
    cases t with
    | true => exact ⟨η, F, B1, ρ1, M1, e.mono l1, m1, w1⟩
    | false => exact ⟨η, F, B1, ρ1, M1, e.mono l1, m1, w1⟩
end
end Dn

namespace Dn
open PySem L2 Evl
/-! ### what data is read as -/
def asL (M : Mem) : D → Option (List D)
  | .lst ds => some ds
  | .scr ns => some (ns.map D.int)
  | .ptr n => match M[n]? with
    | some (.lst ds) => some ds
    | _ => none
  | _ => none
def asT : D → Option (List D)
  | .tup ds => some ds
  | _ => none
def asS : D → Option Str
  | .str s => some s
  | _ => none
def asI : D → Option Int
  | .int i => some i
  | _ => none
section
variable {K : PySem.W.Frag} {F B H : Hp} {ρ : List Addr} {M : Mem}
theorem rps_ints : ∀ (ns : List Int), Rps K B ρ (ns.map D.int) (ns.map V.int)
  | [] => .nil
  | n :: ns => .cons (.int n) (rps_ints ns)
theorem MR.list (m : MR K F B ρ M H) {n : Nat} {a : Addr} {ds : List D} (ha : ρ[n]? = some a) (h : M[n]? = some (.lst ds)) : ∃ vs, H a = some (.lst vs) ∧ Rps K B ρ ds vs ∧ B a = none := by
  obtain ⟨b, hb, hB, vs, e, r⟩ := m.ob n _ h
  rw [ha] at hb
  cases hb
  exact ⟨vs, e, r, hB (by intro z; cases z)⟩
theorem asL_snd (m : MR K F B ρ M H) {d : D} {v : V} {ds : List D} (r : Rp K B ρ d v) (h : asL M d = some ds) : ∃ a vs, v = .ref a ∧ SqL K H a vs ∧ Rps K B ρ ds vs := by
  cases r with
  | lst e q => cases h; exact ⟨_, _, rfl, sq_of (m.ex _ _ e), q⟩
  | scr e => cases h; exact ⟨_, _, rfl, ex_l m.ex e, rps_ints _⟩
  | @ptr n a ha =>
    have h' : (match M[n]? with | some (.lst ds) => some ds | _ => none) = some ds := h
    split at h'
    · next ds' hm =>
      cases h'
      obtain ⟨vs, e, q, _⟩ := m.list ha hm
      exact ⟨_, vs, rfl, sq_of e, q⟩
    · cases h'
  | non => cases h
  | bl b => cases h
  | int i => cases h
  | str z => cases h
  | tup e q => cases h
  | dct e q => cases h
  | raw v => cases h
theorem asT_snd (m : MR K F B ρ M H) {d : D} {v : V} {ds : List D} (r : Rp K B ρ d v) (h : asT d = some ds) : ∃ a vs, v = .ref a ∧ SqT K H a vs ∧ Rps K B ρ ds vs := by
  cases r with
  | tup e q => cases h; exact ⟨_, _, rfl, ex_t m.ex e, q⟩
  | _ => cases h
theorem asS_snd {d : D} {v : V} {s : Str} (r : Rp K B ρ d v) (h : asS d = some s) : v = .str s := by
  cases r with
  | str e => cases h; rfl
  | _ => cases h
theorem asI_snd {d : D} {v : V} {i : Int} (r : Rp K B ρ d v) (h : asI d = some i) : v = .int i := by
  cases r with
  | int e => cases h; rfl
  | _ => cases h
/-- a new thing that stays is told -/
theorem Done.new {d : D} {Q : VK} {o : HO} (m : MR K F B ρ M H) (k : Done K F B ρ M d Q) (r : ∀ p, H p = none → Rp K (upd B p o) ρ d (.ref p)) : ∀ p, H p = none → Q (.ref p) (upd H p o) := fun p hp => by
  obtain ⟨m', l⟩ := m.new (o := o) hp
  exact k _ _ _ l m' (r p hp)
theorem Done.newL {ds : List D} {vs : List V} {Q : VK} (m : MR K F B ρ M H) (r : Rps K B ρ ds vs) (k : Done K F B ρ M (.lst ds) Q) : ∀ p, H p = none → Q (.ref p) (upd H p (.lst vs)) :=
  Done.new m k fun p hp => .lst upd_same (r.mono (m.new hp).2)
theorem Done.newT {ds : List D} {vs : List V} {Q : VK} (m : MR K F B ρ M H) (r : Rps K B ρ ds vs) (k : Done K F B ρ M (.tup ds) Q) : ∀ p, H p = none → Q (.ref p) (upd H p (.tup vs)) :=
  Done.new m k fun p hp => .tup (st_of upd_same) (r.mono (m.new hp).2)
theorem Done.same {d : D} {v : V} {Q : VK} (m : MR K F B ρ M H) (r : Rp K B ρ d v) (k : Done K F B ρ M d Q) : Q v H := k v B H (Le.refl _ _) m r
end

/-! ### operators on data -/
def oOr (h h' : Op2) : Op2 := fun M x y => match h M x y with
  | some z => some z
  | none => h' M x y
section
variable {X : Cx} {fv : Value → Value → Sem Value}
theorem OpD.or {h h' : Op2} (a : OpD X fv h) (b : OpD X fv h') : OpD X fv (oOr h h') := by
  obtain ⟨r, o, s⟩ := a
  obtain ⟨r', o', s'⟩ := b
  refine ⟨_, OpR.or o o', fun F B ρ M H x y dx dy dz Q m rx ry e k => ?_⟩
  unfold oOr at e
  split at e
  · next z hz => cases e; exact .inl (s F B ρ M H x y dx dy _ Q m rx ry hz k)
  · exact .inr (s' F B ρ M H x y dx dy dz Q m rx ry e k)
/-- two ints -/
def oI (C : Int → Int → Prop) [∀ i j, Decidable (C i j)] (g : Int → Int → Int) : Op2 := fun _ x y => (asI x).bind fun i => (asI y).bind fun j => if C i j then some (.int (g i j)) else none
def oI0 (g : Int → Int → Int) : Op2 := fun _ x y => (asI x).bind fun i => (asI y).bind fun j => some (.int (g i j))
def oIB (g : Int → Int → Bool) : Op2 := fun _ x y => (asI x).bind fun i => (asI y).bind fun j => some (.bl (g i j))
theorem od_I {C : Int → Int → Prop} [∀ i j, Decidable (C i j)] {g : Int → Int → Int} (o : OpR X fv (rI C fun i j => .int (g i j))) : OpD X fv (oI C g) := by
  refine ⟨_, o, fun F B ρ M H x y dx dy dz Q m rx ry e k => ?_⟩
  unfold oI at e
  cases h1 : asI dx with
  | none => simp [h1] at e
  | some i =>
    cases h2 : asI dy with
    | none => simp [h1, h2] at e
    | some j =>
      by_cases hc : C i j
      · simp [h1, h2, hc] at e
        subst e
        exact ⟨i, j, asI_snd rx h1, asI_snd ry h2, hc, k.same m (.int _)⟩
      · simp [h1, h2, hc] at e
theorem od_I0 {g : Int → Int → Int} (o : OpR X fv (rI0 fun i j => .int (g i j))) : OpD X fv (oI0 g) := by
  refine ⟨_, o, fun F B ρ M H x y dx dy dz Q m rx ry e k => ?_⟩
  unfold oI0 at e
  cases h1 : asI dx with
  | none => simp [h1] at e
  | some i =>
    cases h2 : asI dy with
    | none => simp [h1, h2] at e
    | some j =>
      simp [h1, h2] at e
      subst e
      exact ⟨i, j, asI_snd rx h1, asI_snd ry h2, k.same m (.int _)⟩
theorem od_IB {g : Int → Int → Bool} (o : OpR X fv (rI0 fun i j => .bl (g i j))) : OpD X fv (oIB g) := by
  refine ⟨_, o, fun F B ρ M H x y dx dy dz Q m rx ry e k => ?_⟩
  unfold oIB at e
  cases h1 : asI dx with
  | none => simp [h1] at e
  | some i =>
    cases h2 : asI dy with
    | none => simp [h1, h2] at e
    | some j =>
      simp [h1, h2] at e
      subst e
      exact ⟨i, j, asI_snd rx h1, asI_snd ry h2, k.same m (.bl _)⟩
instance (i j : Int) : Decidable (CMul i j) := by unfold CMul; infer_instance
instance (i j : Int) : Decidable (CDiv i j) := by unfold CDiv; infer_instance
def CPw (i j : Int) : Prop := 0 ≤ j ∧ j ≤ 1000 ∧ i.natAbs < 2 ^ 10000
instance (i j : Int) : Decidable (CPw i j) := by unfold CPw; infer_instance
theorem bits_of {i : Int} {b : Nat} (h : i.natAbs < 2 ^ b) : Builtin.Int.intBits i ≤ b := by
  unfold Builtin.Int.intBits
  split
  · omega
  · next h0 =>
    have : i.natAbs ≠ 0 := by simpa using h0
    have := (Nat.log2_lt this).mpr h
    omega
theorem op_pw : OpR X (binaryOp .Pow) (rI CPw fun i j => .int (i ^ j.toNat)) := opI fun i j _ _ _ _ _ hc q => by
  refine PyProof.Rows.pow_int hc.1 ?_ q
  have h1 := bits_of hc.2.2
  have h2 := hc.2.1
  have h3 := hc.1
  have h4 : (Builtin.Int.intBits i : Int) ≤ 10000 := by omega
  have h5 : (Builtin.Int.intBits i : Int) * j ≤ 10000 * 1000 := Int.mul_le_mul h4 h2 h3 (by omega)
  omega
def dSub : Op2 := oI0 fun i j => i - j
def dMul : Op2 := oI CMul fun i j => i * j
def dMod : Op2 := oI (fun _ j => 0 < j) fun i j => i % j
def dDiv : Op2 := oI CDiv fun i j => i / j
def dPow : Op2 := oI CPw fun i j => i ^ j.toNat
theorem od_sub : OpD X (binaryOp .Sub) dSub := od_I0 op_sub
theorem od_mul : OpD X (binaryOp .Mult) dMul := od_I op_mul
theorem od_mod : OpD X (binaryOp .Mod) dMod := od_I op_mod
theorem od_div : OpD X (binaryOp .FloorDiv) dDiv := od_I op_fdiv
theorem od_pow : OpD X (binaryOp .Pow) dPow := od_I op_pw
/-- two texts -/
def oS2 (g : Str → Str → Option D) : Op2 := fun _ x y => (asS x).bind fun i => (asS y).bind fun j => g i j
theorem oS2_some {g : Str → Str → Option D} {M : Mem} {x y z : D} (h : oS2 g M x y = some z) : ∃ i j, asS x = some i ∧ asS y = some j ∧ g i j = some z := by
  unfold oS2 at h
  cases h1 : asS x with
  | none => simp [h1] at h
  | some i =>
    cases h2 : asS y with
    | none => simp [h1, h2] at h
    | some j => simp [h1, h2] at h; exact ⟨i, j, rfl, rfl, h⟩
def sAdd : Op2 := oS2 fun i j => if i.length + j.length ≤ sizeLine then some (.str (i ++ j)) else none
theorem od_sadd : OpD X (binaryOp .Add) sAdd := by
  refine ⟨_, op_add_str, fun F B ρ M H x y dx dy dz Q m rx ry e k => ?_⟩
  obtain ⟨i, j, h1, h2, h3⟩ := oS2_some e
  by_cases hc : i.length + j.length ≤ sizeLine
  · simp [hc] at h3
    subst h3
    exact ⟨i, j, asS_snd rx h1, asS_snd ry h2, hc, k.same m (.str _)⟩
  · simp [hc] at h3
/-- two tuples -/
def tAdd' : Op2 := fun _ x y => (asT x).bind fun ds => (asT y).bind fun es => if ds.length + es.length ≤ sizeLine then some (.tup (ds ++ es)) else none
theorem od_tadd : OpD X (binaryOp .Add) tAdd' := by
  refine ⟨_, op_catA, fun F B ρ M H x y dx dy dz Q m rx ry e k => ?_⟩
  unfold tAdd' at e
  cases h1 : asT dx with
  | none => simp [h1] at e
  | some ds =>
    cases h2 : asT dy with
    | none => simp [h1, h2] at e
    | some es =>
      by_cases hc : ds.length + es.length ≤ sizeLine
      · simp [h1, h2, hc] at e
        subst e
        obtain ⟨a, vs, rfl, hs, rs⟩ := asT_snd m rx h1
        obtain ⟨b, us, rfl, ht, rt⟩ := asT_snd m ry h2
        have l1 := rs.len
        have l2 := rt.len
        refine ⟨a, b, vs, us, rfl, rfl, hs, ht, by omega, fun z => ?_, fun _ z => ?_, fun _ _ => k.newT m (rs.app rt)⟩
        · subst z
          cases rs
          have : asT dy = some es := h2
          cases dy <;> simp [asT] at this
          subst this
          exact k.same m ry
        · subst z
          cases rt
          have : asT dx = some ds := h1
          cases dx <;> simp [asT] at this
          subst this
          rw [List.append_nil] at k
          exact k.same m rx
      · simp [h1, h2, hc] at e
/-- two lists (plain ones) -/
def asP (M : Mem) : D → Option (List D)
  | .lst ds => some ds
  | .ptr n => match M[n]? with
    | some (.lst ds) => some ds
    | _ => none
  | _ => none
theorem asP_snd {K : PySem.W.Frag} {F B H : Hp} {ρ : List Addr} {M : Mem} (m : MR K F B ρ M H) {d : D} {v : V} {ds : List D} (r : Rp K B ρ d v) (h : asP M d = some ds) : ∃ a vs, v = .ref a ∧ H a = some (.lst vs) ∧ Rps K B ρ ds vs := by
  cases r with
  | lst e q => cases h; exact ⟨_, _, rfl, m.ex _ _ e, q⟩
  | @ptr n a ha =>
    have h' : (match M[n]? with | some (.lst ds) => some ds | _ => none) = some ds := h
    split at h'
    · next ds' hm =>
      cases h'
      obtain ⟨vs, e, q, _⟩ := m.list ha hm
      exact ⟨_, vs, rfl, e, q⟩
    · cases h'
  | non => cases h
  | bl b => cases h
  | int i => cases h
  | str z => cases h
  | tup e q => cases h
  | dct e q => cases h
  | scr e => cases h
  | raw v => cases h
def lAdd : Op2 := fun M x y => (asP M x).bind fun ds => (asP M y).bind fun es => if ds.length + es.length ≤ sizeLine then some (.lst (ds ++ es)) else none
theorem od_ladd : OpD X (binaryOp .Add) lAdd := by
  refine ⟨_, op_cat, fun F B ρ M H x y dx dy dz Q m rx ry e k => ?_⟩
  unfold lAdd at e
  cases h1 : asP M dx with
  | none => simp [h1] at e
  | some ds =>
    cases h2 : asP M dy with
    | none => simp [h1, h2] at e
    | some es =>
      by_cases hc : ds.length + es.length ≤ sizeLine
      · simp [h1, h2, hc] at e
        subst e
        obtain ⟨a, vs, rfl, hs, rs⟩ := asP_snd m rx h1
        obtain ⟨b, us, rfl, ht, rt⟩ := asP_snd m ry h2
        have l1 := rs.len
        have l2 := rt.len
        exact ⟨a, b, vs, us, rfl, rfl, hs, ht, by omega, k.newL m (rs.app rt)⟩
      · simp [h1, h2, hc] at e
def dAdd : Op2 := oOr (oI0 fun i j => i + j) (oOr sAdd (oOr tAdd' lAdd))
theorem od_add : OpD X (binaryOp .Add) dAdd := (od_I0 op_add).or (od_sadd.or (od_tadd.or od_ladd))
/-! comparisons -/
def dLt : Op2 := oOr (oIB fun i j => decide (i < j)) (oS2 fun i j => some (.bl (decide (i.cps.toList < j.cps.toList))))
def dLe : Op2 := oIB fun i j => decide (i ≤ j)
def dGt : Op2 := oIB fun i j => decide (j < i)
def dGe : Op2 := oIB fun i j => decide (j ≤ i)
theorem od_lts : OpD X (compareOp .Lt) (oS2 fun i j => some (.bl (decide (i.cps.toList < j.cps.toList)))) := by
  refine ⟨_, op_lt_str, fun F B ρ M H x y dx dy dz Q m rx ry e k => ?_⟩
  obtain ⟨i, j, h1, h2, h3⟩ := oS2_some e
  obtain rfl := Option.some.inj h3
  exact ⟨i, j, asS_snd rx h1, asS_snd ry h2, k.same m (.bl _)⟩
theorem od_lt : OpD X (compareOp .Lt) dLt := (od_IB op_lt).or od_lts
theorem od_le : OpD X (compareOp .LtE) dLe := od_IB op_le
theorem od_gt : OpD X (compareOp .Gt) dGt := od_IB op_gt
theorem od_ge : OpD X (compareOp .GtE) dGe := od_IB op_ge
/-- one sign in a text -/
def dInS : Op2 := oS2 fun i j => match i.cps.toList with
  | [c] => some (.bl (decide (c ∈ j.cps.toList)))
  | _ => none
theorem od_inS : OpD X (compareOp .In) dInS := by
  refine ⟨_, op_in_sign, fun F B ρ M H x y dx dy dz Q m rx ry e k => ?_⟩
  obtain ⟨i, j, h1, h2, h3⟩ := oS2_some e
  split at h3
  · next c hc =>
    obtain rfl := Option.some.inj h3
    have ei : i = ⟨#[c]⟩ := by
      cases i with
      | mk cs =>
        have : cs = #[c] := by
          apply Array.toList_inj.mp
          exact hc
        rw [this]
    subst ei
    exact ⟨c, j, asS_snd rx h1, asS_snd ry h2, k.same m (.bl _)⟩
  · cases h3
/-- is None -/
def isN : D → Option Bool
  | .non => some true
  | .raw _ => none
  | _ => some false
theorem isN_snd {K : PySem.W.Frag} {B : Hp} {ρ : List Addr} {d : D} {v : V} {b : Bool} (r : Rp K B ρ d v) (h : isN d = some b) : decide (v = .non) = b := by
  cases r <;> simp_all [isN]
def dIsN : Op2 := fun _ x y => match y with
  | .non => (isN x).map D.bl
  | _ => none
def dNotN : Op2 := fun _ x y => match y with
  | .non => (isN x).map fun b => D.bl (!b)
  | _ => none
theorem od_isN : OpD X (compareOp .Is) dIsN := by
  refine ⟨_, op_isN, fun F B ρ M H x y dx dy dz Q m rx ry e k => ?_⟩
  unfold dIsN at e
  split at e
  · cases ry
    cases h : isN dx with
    | none => simp [h] at e
    | some b =>
      simp [h] at e
      subst e
      refine ⟨rfl, ?_⟩
      rw [isN_snd rx h]
      exact k.same m (.bl _)
  · cases e
theorem od_notN : OpD X (compareOp .IsNot) dNotN := by
  refine ⟨_, op_notN, fun F B ρ M H x y dx dy dz Q m rx ry e k => ?_⟩
  unfold dNotN at e
  split at e
  · cases ry
    cases h : isN dx with
    | none => simp [h] at e
    | some b =>
      simp [h] at e
      subst e
      refine ⟨rfl, ?_⟩
      rw [isN_snd rx h]
      exact k.same m (.bl _)
  · cases e
end
end Dn

namespace Dn
open PySem L2 Evl
section
variable {X : Cx} {W : XK} {a b c e o : Expr} {es : List Expr} {f g k : XE} {fa : XA} {pos : Pos}
/-! ### arguments, displays -/
def xNil : XA := fun _ M => .ok [] M
def xCons (f : XE) (g : XA) : XA := fun η M => (f η M).bind fun d M1 => (g η M1).bind fun ds M2 => .ok (d :: ds) M2
theorem da_nil : DA X W [] xNil := PA.imp pa_nil fun σ H Q z => by
  obtain ⟨η, F, B, ρ, M, e, m, w⟩ := z
  exact Wp.ret w m [] .nil
theorem da_cons (ha : DE X W e f) (hr : DA X W es fa) (hs : starEach (e :: es) X.env = (false, eval e X.env) :: starEach es X.env := by rfl) : DA X W (e :: es) (xCons f fa) :=
  PA.imp (pa_cons ha hr hs) fun σ H Q z => by
    obtain ⟨η, F, B, ρ, M, er, m, w⟩ := z
    refine ⟨η, F, B, ρ, M, er, m, w.bind fun d M1 B1 ρ1 H1 l1 m1 w1 x rx => ?_⟩
    exact ⟨η, F, B1, ρ1, M1, er.mono l1, m1, w1.bind fun ds M2 B2 ρ2 H2 l2 m2 w2 xs rxs => Wp.ret w2 m2 _ (.cons (rx.mono l2) rxs)⟩
def xTup (g : XA) : XE := fun η M => (g η M).bind fun ds M1 => if ds.length ≤ 100000 then .ok (.tup ds) M1 else .no
def xLst (g : XA) : XE := fun η M => (g η M).bind fun ds M1 => if ds.length ≤ 100000 then .ok (.lst ds) M1 else .no
/-- a new list that may change -/
def xLstM (g : XA) : XE := fun η M => (g η M).bind fun ds M1 => if ds.length ≤ 100000 then .ok (.ptr M1.length) (M1 ++ [.lst ds]) else .no
theorem de_tup {x1} (h : DA X W es fa) : DE X W (.Tuple es x1 pos) (xTup fa) := PE.imp (pe_tup h) fun σ H Q z => by
  obtain ⟨η, F, B, ρ, M, er, m, w⟩ := z
  refine ⟨η, F, B, ρ, M, er, m, w.bind fun ds M1 B1 ρ1 H1 l1 m1 w1 xs rx => ?_⟩
  split at w1
  · next hl => exact ⟨by rw [← rx.len]; exact sz_of hl, (done_of w1).newT m1 rx⟩
  · exact w1.elim
theorem de_lst (h : DA X W es fa) : DE X W (.List es pos) (xLst fa) := PE.imp (pe_lst h) fun σ H Q z => by
  obtain ⟨η, F, B, ρ, M, er, m, w⟩ := z
  refine ⟨η, F, B, ρ, M, er, m, w.bind fun ds M1 B1 ρ1 H1 l1 m1 w1 xs rx => ?_⟩
  split at w1
  · next hl => exact ⟨by rw [← rx.len]; exact sz_of hl, (done_of w1).newL m1 rx⟩
  · exact w1.elim
/-- a list told as one that may change -/
theorem putM {K : PySem.W.Frag} {mg : Str → Option Value} {F B H : Hp} {ρ : List Addr} {M : Mem} {ds : List D} {vs : List V} {Q : VK} (m : MR K F B ρ M H) (r : Rps K B ρ ds vs)
    (w : Wp K mg F B ρ W (fun d B' ρ' H' => ∀ v, Rp K B' ρ' d v → Q v H') (.ok (.ptr M.length) (M ++ [.lst ds]))) : ∀ p, H p = none → Q (.ref p) (upd H p (.lst vs)) := fun p hp => by
  have l : Le B ρ B (ρ ++ [p]) := ⟨Ex.refl B, [p], rfl⟩
  obtain ⟨m', _⟩ := m.alloc (o := .lst vs) (ob := .lst ds) hp ⟨vs, upd_same, r.mono l⟩
  exact w _ _ _ l m' _ (.ptr (by rw [← m.len]; simp))
theorem de_lstM (h : DA X W es fa) : DE X W (.List es pos) (xLstM fa) := PE.imp (pe_lst h) fun σ H Q z => by
  obtain ⟨η, F, B, ρ, M, er, m, w⟩ := z
  refine ⟨η, F, B, ρ, M, er, m, w.bind fun ds M1 B1 ρ1 H1 l1 m1 w1 xs rx => ?_⟩
  split at w1
  · next hl => exact ⟨by rw [← rx.len]; exact sz_of hl, putM m1 rx w1⟩
  · exact w1.elim

/-! ### subscripts -/
def lIx : Op2 := fun M x y => (asL M x).bind fun ds => (asI y).bind fun i => atI ds i
def tIx : Op2 := fun _ x y => (asT x).bind fun ds => (asI y).bind fun i => atI ds i
def sIx : Op2 := fun _ x y => (asS x).bind fun s => (asI y).bind fun i => if s.length ≤ sizeLine then (atI s.cps.toList i).map fun c => .str ⟨#[c]⟩ else none
theorem atI_rel {K : PySem.W.Frag} {B : Hp} {ρ : List Addr} {ds : List D} {vs : List V} {i : Int} {d : D} (r : Rps K B ρ ds vs) (h : atI ds i = some d) : ∃ v, atI vs i = some v ∧ Rp K B ρ d v := by
  unfold atI at h ⊢
  rw [r.len] at h
  cases hj : ixN vs.length i with
  | none => simp [hj] at h
  | some j =>
    simp [hj] at h
    obtain ⟨v, h1, h2⟩ := r.get h
    exact ⟨v, by simpa using h1, h2⟩
def IxD (X : Cx) (h : Op2) : Prop := ∃ r, IxR X r ∧ OSnd X.K r h
theorem IxD.or {h h' : Op2} (a : IxD X h) (b : IxD X h') : IxD X (oOr h h') := by
  obtain ⟨r, o, s⟩ := a
  obtain ⟨r', o', s'⟩ := b
  refine ⟨_, IxR.or o o', fun F B ρ M H x y dx dy dz Q m rx ry e k => ?_⟩
  unfold oOr at e
  split at e
  · next z hz => cases e; exact .inl (s F B ρ M H x y dx dy _ Q m rx ry hz k)
  · exact .inr (s' F B ρ M H x y dx dy dz Q m rx ry e k)
theorem ixd_list : IxD X lIx := by
  refine ⟨_, ix_list, fun F B ρ M H x y dx dy dz Q m rx ry e k => ?_⟩
  unfold lIx at e
  cases h1 : asL M dx with
  | none => simp [h1] at e
  | some ds =>
    cases h2 : asI dy with
    | none => simp [h1, h2] at e
    | some i =>
      simp [h1, h2] at e
      obtain ⟨a, vs, rfl, hs, rs⟩ := asL_snd m rx h1
      obtain ⟨v, hv, rv⟩ := atI_rel rs e
      exact ⟨a, vs, i, v, rfl, asI_snd ry h2, hs, hv, k.same m rv⟩
theorem ixd_tup : IxD X tIx := by
  refine ⟨_, ix_tup, fun F B ρ M H x y dx dy dz Q m rx ry e k => ?_⟩
  unfold tIx at e
  cases h1 : asT dx with
  | none => simp [h1] at e
  | some ds =>
    cases h2 : asI dy with
    | none => simp [h1, h2] at e
    | some i =>
      simp [h1, h2] at e
      obtain ⟨a, vs, rfl, hs, rs⟩ := asT_snd m rx h1
      obtain ⟨v, hv, rv⟩ := atI_rel rs e
      exact ⟨a, vs, i, v, rfl, asI_snd ry h2, hs, hv, k.same m rv⟩
theorem ixd_str : IxD X sIx := by
  refine ⟨_, ix_str, fun F B ρ M H x y dx dy dz Q m rx ry e k => ?_⟩
  unfold sIx at e
  cases h1 : asS dx with
  | none => simp [h1] at e
  | some s =>
    cases h2 : asI dy with
    | none => simp [h1, h2] at e
    | some i =>
      simp only [h1, h2, Option.bind_some] at e
      split at e
      · next hz =>
        cases h3 : atI s.cps.toList i with
        | none => rw [h3] at e; cases e
        | some c =>
          rw [h3] at e
          obtain rfl := Option.some.inj e
          exact ⟨s, i, c, asS_snd rx h1, asI_snd ry h2, hz, h3, k.same m (.str _)⟩
      · cases e
def dIx : Op2 := oOr lIx (oOr tIx sIx)
theorem de_ix (ha : DE X W a f) (hb : DE X W b g) (hs : PlainIx b := by intro _ _; rfl) : DE X W (.Subscript a b pos) (xOp dIx f g) := by
  obtain ⟨r, ho, os⟩ : IxD X dIx := ixd_list.or (ixd_tup.or ixd_str)
  exact PE.imp (pe_ix ho ha hb hs) (op_snd os (fun _ _ _ q => q) fun _ _ _ q => q)

/-! ### slices -/
abbrev XO := Dv → Mem → R (Option Int)
def tO' (K : PySem.W.Frag) (mg : Str → Option Value) (W : XK) (f : XO) : TO := fun σ H Q => ∃ η F B ρ M, ER K B ρ η σ ∧ MR K F B ρ M H ∧ Wp K mg F B ρ W (fun b _ _ H' => Q b H') (f η M)
def DO (X : Cx) (W : XK) (e : Option Expr) (f : XO) : Prop := PO X e (tO' X.K X.mg W f)
theorem PO.imp {e : Option Expr} {t t' : TO} (h : PO X e t) (i : ∀ σ H Q, t' σ H Q → t σ H Q) : PO X e t' := ⟨fun pins s σ H Q I q => h.run pins s σ H Q I (i σ H Q q)⟩
def xNone : XO := fun _ M => .ok none M
def xSome (f : XE) : XO := fun η M => (f η M).bind fun d M1 => (R.of (asI d) M1).bind fun i M2 => .ok (some i) M2
theorem do_none : DO X W none xNone := PO.imp po_none fun σ H Q z => by
  obtain ⟨η, F, B, ρ, M, er, m, w⟩ := z
  exact Wp.ret (P := fun b _ _ H' => Q b H') w m
theorem do_some (he : DE X W e f) : DO X W (some e) (xSome f) := PO.imp (po_some he) fun σ H Q z => by
  obtain ⟨η, F, B, ρ, M, er, m, w⟩ := z
  refine ⟨η, F, B, ρ, M, er, m, w.bind fun d M1 B1 ρ1 H1 l1 m1 w1 x rx => ?_⟩
  cases h : asI d with
  | none => rw [h] at w1; exact w1.elim
  | some i =>
    rw [h] at w1
    exact ⟨i, asI_snd rx h, Wp.ret (P := fun b _ _ H' => Q b H') w1 m1⟩
abbrev OpS := Mem → D → Option Int → Option Int → Option D
def SSnd (K : PySem.W.Frag) (r : V → Option Int → Option Int → Hp → VK → Prop) (h : OpS) : Prop := ∀ F B ρ M H x lo hi dx dz (Q : VK), MR K F B ρ M H → Rp K B ρ dx x → h M dx lo hi = some dz → Done K F B ρ M dz Q → r x lo hi H Q
def SlD (X : Cx) (h : OpS) : Prop := ∃ r, SlR X r ∧ SSnd X.K r h
def sOr (h h' : OpS) : OpS := fun M x lo hi => match h M x lo hi with
  | some z => some z
  | none => h' M x lo hi
theorem SlD.or {h h' : OpS} (a : SlD X h) (b : SlD X h') : SlD X (sOr h h') := by
  obtain ⟨r, o, s⟩ := a
  obtain ⟨r', o', s'⟩ := b
  refine ⟨_, SlR.or o o', fun F B ρ M H x lo hi dx dz Q m rx e k => ?_⟩
  unfold sOr at e
  split at e
  · next z hz => cases e; exact .inl (s F B ρ M H x lo hi dx _ Q m rx hz k)
  · exact .inr (s' F B ρ M H x lo hi dx dz Q m rx e k)
def cutD {α : Type} (xs : List α) (lo hi : Option Int) : List α := (xs.drop (HT.sIx xs.length 0 lo)).take (HT.sIx xs.length xs.length hi - HT.sIx xs.length 0 lo)
theorem cut_rel {K : PySem.W.Frag} {B : Hp} {ρ : List Addr} {ds : List D} {vs : List V} (r : Rps K B ρ ds vs) (lo hi : Option Int) : Rps K B ρ (cutD ds lo hi) (cutV vs lo hi) := by
  unfold cutD cutV
  rw [r.len]
  exact (r.drop _).take _
def lSl : OpS := fun M x lo hi => (asL M x).map fun ds => .lst (cutD ds lo hi)
def tSl' : OpS := fun _ x lo hi => (asT x).map fun ds => .tup (cutD ds lo hi)
def sSl : OpS := fun _ x lo hi => (asS x).bind fun s => if s.length ≤ sizeLine then some (.str (cutS s lo hi)) else none
theorem sld_list : SlD X lSl := by
  refine ⟨_, sl_list, fun F B ρ M H x lo hi dx dz Q m rx e k => ?_⟩
  unfold lSl at e
  cases h1 : asL M dx with
  | none => simp [h1] at e
  | some ds =>
    simp [h1] at e
    subst e
    obtain ⟨a, vs, rfl, hs, rs⟩ := asL_snd m rx h1
    exact ⟨a, vs, rfl, hs, k.newL m (cut_rel rs lo hi)⟩
theorem sld_tup : SlD X tSl' := by
  refine ⟨_, sl_tupA, fun F B ρ M H x lo hi dx dz Q m rx e k => ?_⟩
  unfold tSl' at e
  cases h1 : asT dx with
  | none => simp [h1] at e
  | some ds =>
    simp [h1] at e
    subst e
    obtain ⟨a, vs, rfl, hs, rs⟩ := asT_snd m rx h1
    refine ⟨a, vs, rfl, hs, fun z => ?_, fun _ => k.newT m (cut_rel rs lo hi)⟩
    have e2 : cutD ds lo hi = ds := by
      unfold cutD
      rw [rs.len, z.1, z.2]
      simp [← rs.len]
    rw [e2] at k
    cases dx <;> simp [asT] at h1
    subst h1
    exact k.same m rx
theorem sld_str : SlD X sSl := by
  refine ⟨_, sl_str, fun F B ρ M H x lo hi dx dz Q m rx e k => ?_⟩
  unfold sSl at e
  cases h1 : asS dx with
  | none => simp [h1] at e
  | some s =>
    simp only [h1, Option.bind_some] at e
    split at e
    · next hz =>
      obtain rfl := Option.some.inj e
      exact ⟨s, asS_snd rx h1, hz, k.same m (.str _)⟩
    · cases e
def dSl : OpS := sOr lSl (sOr tSl' sSl)
def xSl (h : OpS) (f : XE) (l u : XO) : XE := fun η M => (f η M).bind fun x M1 => (l η M1).bind fun lo M2 => (u η M2).bind fun hi M3 => R.of (h M3 x lo hi) M3
theorem de_sl {lo hi : Option Expr} {l u : XO} {p2 : Pos} (he : DE X W e f) (hl : DO X W lo l) (hu : DO X W hi u) : DE X W (.Subscript e (.Slice lo hi none p2) pos) (xSl dSl f l u) := by
  obtain ⟨r, ho, os⟩ : SlD X dSl := sld_list.or (sld_tup.or sld_str)
  refine PE.imp (pe_slice ho he hl hu) fun σ H Q z => ?_
  obtain ⟨η, F, B, ρ, M, er, m, w⟩ := z
  refine ⟨η, F, B, ρ, M, er, m, w.bind fun dx M1 B1 ρ1 H1 l1 m1 w1 x rx => ?_⟩
  refine ⟨η, F, B1, ρ1, M1, er.mono l1, m1, w1.bind fun o1 M2 B2 ρ2 H2 l2 m2 w2 => ?_⟩
  refine ⟨η, F, B2, ρ2, M2, er.mono (l1.trans l2), m2, w2.bind fun o2 M3 B3 ρ3 H3 l3 m3 w3 => ?_⟩
  obtain ⟨dz, hz, w4⟩ := w3.of
  exact os F B3 ρ3 M3 H3 x o1 o2 dx dz Q m3 (rx.mono (l2.trans l3)) hz (done_of w4)

/-! ### calls of what is built in -/
abbrev OpC := Mem → List D → Option D
def CSnd (K : PySem.W.Frag) (r : List V → Hp → VK → Prop) (h : OpC) : Prop := ∀ F B ρ M H xs ds dz (Q : VK), MR K F B ρ M H → Rps K B ρ ds xs → h M ds = some dz → Done K F B ρ M dz Q → r xs H Q
def CallD (X : Cx) (v : Value) (h : OpC) : Prop := ∃ r, CallR X v r ∧ CSnd X.K r h
def cOr (h h' : OpC) : OpC := fun M ds => match h M ds with
  | some z => some z
  | none => h' M ds
theorem CallD.or {v : Value} {h h' : OpC} (a : CallD X v h) (b : CallD X v h') : CallD X v (cOr h h') := by
  obtain ⟨r, o, s⟩ := a
  obtain ⟨r', o', s'⟩ := b
  refine ⟨_, CallR.or o o', fun F B ρ M H xs ds dz Q m rx e k => ?_⟩
  unfold cOr at e
  split at e
  · next z hz => cases e; exact .inl (s F B ρ M H xs ds _ Q m rx hz k)
  · exact .inr (s' F B ρ M H xs ds dz Q m rx e k)
def xCall (h : OpC) (g : XA) : XE := fun η M => (g η M).bind fun ds M1 => R.of (h M1 ds) M1
theorem call_snd {r : List V → Hp → VK → Prop} {h : OpC} (os : CSnd X.K r h) (σ : L2.St) (H : Hp) (Q : VK) (z : tE X.K X.mg W (xCall h fa) σ H Q) : tCB r (tA X.K X.mg W fa) σ H Q := by
  obtain ⟨η, F, B, ρ, M, er, m, w⟩ := z
  refine ⟨η, F, B, ρ, M, er, m, w.bind fun ds M1 B1 ρ1 H1 l1 m1 w1 xs rx => ?_⟩
  obtain ⟨dz, hz, w2⟩ := w1.of
  exact os F B1 ρ1 M1 H1 xs ds dz Q m1 rx hz (done_of w2)
theorem de_callB {x : Str} {id : String} {h : OpC} {p : Pos} (o : CallD X (.builtin id) h) (hg : Gl X x) (hm : X.mg x = none) (hv : bootBuiltins x = some (.builtin id)) (ha : DA X W (e :: es) fa) (hn : x ≠ "__name__" := by decide) (hdb : (x == ("__debug__" : Str)) = false := by decide)
    (hs : starEach (e :: es) X.env = (false, eval e X.env) :: starEach es X.env := by rfl) (hp : (backTo pos (starEach es X.env)).any (·.1) = false := by rfl) : DE X W (.Call (.Name x p) (e :: es) [] pos) (xCall h fa) := by
  obtain ⟨r, ho, os⟩ := o
  exact PE.imp (pe_callB ho hg hm hv ha hn hdb hs hp) (call_snd os)
theorem de_callTy {x : Str} {T : String} {h : OpC} {p : Pos} (o : CallD X (.type T) h) (hg : Gl X x) (hm : X.mg x = none) (hv : bootBuiltins x = some (.type T)) (ha : DA X W (e :: es) fa) (hn : x ≠ "__name__" := by decide) (hdb : (x == ("__debug__" : Str)) = false := by decide)
    (hs : starEach (e :: es) X.env = (false, eval e X.env) :: starEach es X.env := by rfl) (hp : (backTo pos (starEach es X.env)).any (·.1) = false := by rfl) : DE X W (.Call (.Name x p) (e :: es) [] pos) (xCall h fa) := by
  obtain ⟨r, ho, os⟩ := o
  exact PE.imp (pe_callTy ho hg hm hv ha hn hdb hs hp) (call_snd os)
/-! the built-ins on data -/
def one (h : Mem → D → Option D) : OpC := fun M ds => match ds with
  | [d] => h M d
  | _ => none
def two (h : Mem → D → D → Option D) : OpC := fun M ds => match ds with
  | [d, e] => h M d e
  | _ => none
theorem one_some {h : Mem → D → Option D} {M : Mem} {ds : List D} {z : D} (e : one h M ds = some z) : ∃ d, ds = [d] ∧ h M d = some z := by
  unfold one at e
  split at e
  · exact ⟨_, rfl, e⟩
  · cases e
theorem two_some {h : Mem → D → D → Option D} {M : Mem} {ds : List D} {z : D} (e : two h M ds = some z) : ∃ d c, ds = [d, c] ∧ h M d c = some z := by
  unfold two at e
  split at e
  · exact ⟨_, _, rfl, e⟩
  · cases e
def bAbs : OpC := one fun _ d => (asI d).map fun i => .int (if i < 0 then -i else i)
theorem cd_abs : CallD X (.builtin "abs") bAbs := by
  refine ⟨_, call_abs, fun F B ρ M H xs ds dz Q m rx e k => ?_⟩
  obtain ⟨d, rfl, h⟩ := one_some e
  cases rx with
  | cons r rr =>
    cases rr
    cases hi : asI d with
    | none => simp [hi] at h
    | some i =>
      simp [hi] at h
      subst h
      exact ⟨i, by rw [asI_snd r hi], k.same m (.int _)⟩
def bMax : OpC := two fun _ d c => (asI d).bind fun i => (asI c).bind fun j => some (.int (if j > i then j else i))
def bMin : OpC := two fun _ d c => (asI d).bind fun i => (asI c).bind fun j => some (.int (if j < i then j else i))
theorem cd_max (hc : X.calm = true) : CallD X (.builtin "max") bMax := by
  refine ⟨_, call_max2 hc, fun F B ρ M H xs ds dz Q m rx e k => ?_⟩
  obtain ⟨d, c, rfl, h⟩ := two_some e
  cases rx with
  | cons r rr =>
    cases rr with
    | cons r' rr =>
      cases rr
      cases hi : asI d with
      | none => simp [hi] at h
      | some i =>
        cases hj : asI c with
        | none => simp [hi, hj] at h
        | some j =>
          simp only [hi, hj, Option.bind_some] at h
          obtain rfl := Option.some.inj h
          exact ⟨i, j, by rw [asI_snd r hi, asI_snd r' hj], k.same m (.int _)⟩
theorem cd_min (hc : X.calm = true) : CallD X (.builtin "min") bMin := by
  refine ⟨_, call_min2 hc, fun F B ρ M H xs ds dz Q m rx e k => ?_⟩
  obtain ⟨d, c, rfl, h⟩ := two_some e
  cases rx with
  | cons r rr =>
    cases rr with
    | cons r' rr =>
      cases rr
      cases hi : asI d with
      | none => simp [hi] at h
      | some i =>
        cases hj : asI c with
        | none => simp [hi, hj] at h
        | some j =>
          simp only [hi, hj, Option.bind_some] at h
          obtain rfl := Option.some.inj h
          exact ⟨i, j, by rw [asI_snd r hi, asI_snd r' hj], k.same m (.int _)⟩
/-- int of an int or a truth -/
def bInt : OpC := one fun _ d => match d with
  | .int i => some (.int i)
  | .bl b => some (.int (if b then 1 else 0))
  | _ => none
theorem cd_int : CallD X (.type "int") bInt := by
  refine ⟨_, call_int1, fun F B ρ M H xs ds dz Q m rx e k => ?_⟩
  obtain ⟨d, rfl, h⟩ := one_some e
  cases rx with
  | cons r rr =>
    cases rr
    split at h
    · obtain rfl := Option.some.inj h
      cases r
      exact .inl ⟨_, rfl, k.same m (.int _)⟩
    · obtain rfl := Option.some.inj h
      cases r
      exact .inr ⟨_, rfl, k.same m (.int _)⟩
    · cases h
/-- how many -/
def lenD (M : Mem) (d : D) : Option Nat := match asL M d with
  | some ds => some ds.length
  | none => match asT d with
    | some ds => some ds.length
    | none => match asS d with
      | some s => if s.length ≤ sizeLine then some s.length else none
      | none => none
def bLen : OpC := one fun M d => (lenD M d).map fun n => .int n
theorem cd_len : CallD X (.builtin "len") bLen := by
  refine ⟨_, call_len_seq.or call_len_str, fun F B ρ M H xs ds dz Q m rx e k => ?_⟩
  obtain ⟨d, rfl, h⟩ := one_some e
  cases rx with
  | cons r rr =>
    cases rr
    unfold lenD at h
    split at h
    · next es he =>
      simp at h
      subst h
      obtain ⟨a, vs, rfl, hs, rs⟩ := asL_snd m r he
      exact .inl ⟨a, vs, rfl, .inl hs, by rw [← rs.len]; exact k.same m (.int _)⟩
    · split at h
      · next es he =>
        simp at h
        subst h
        obtain ⟨a, vs, rfl, hs, rs⟩ := asT_snd m r he
        exact .inl ⟨a, vs, rfl, .inr hs, by rw [← rs.len]; exact k.same m (.int _)⟩
      · split at h
        · next s he =>
          split at h
          · next hz =>
            simp at h
            subst h
            rw [asS_snd r he]
            exact .inr ⟨s, rfl, hz, k.same m (.int _)⟩
          · simp at h
        · simp at h
/-- all truths -/
def asBs : List D → Option (List Bool)
  | [] => some []
  | d :: ds => (asB d).bind fun b => (asBs ds).map (b :: ·)
theorem asBs_snd {K : PySem.W.Frag} {B : Hp} {ρ : List Addr} : ∀ {ds : List D} {vs : List V} {bs : List Bool}, Rps K B ρ ds vs → asBs ds = some bs → vs = bs.map V.bl
  | _, _, _, .nil, h => by cases h; rfl
  | _, _, bs, .cons (d := d) (ds := ds) r t, h => by
    unfold asBs at h
    cases h1 : asB d with
    | none => simp [h1] at h
    | some b =>
      cases h2 : asBs ds with
      | none => simp [h1, h2] at h
      | some cs =>
        simp [h1, h2] at h
        subst h
        rw [asBs_snd t h2]
        rw [asB_some h1] at r
        cases r
        rfl
def bAll : OpC := one fun M d => (asL M d).bind fun ds => (asBs ds).map fun bs => .bl (bs.all id)
theorem cd_all (hc : X.calm = true) : CallD X (.builtin "all") bAll := by
  refine ⟨_, cr_all hc, fun F B ρ M H xs ds dz Q m rx e k => ?_⟩
  obtain ⟨d, rfl, h⟩ := one_some e
  cases rx with
  | cons r rr =>
    cases rr
    cases h1 : asL M d with
    | none => simp [h1] at h
    | some es =>
      cases h2 : asBs es with
      | none => simp [h1, h2] at h
      | some bs =>
        simp only [h1, h2, Option.bind_some, Option.map_some] at h
        obtain rfl := Option.some.inj h
        obtain ⟨a, vs, rfl, hs, rs⟩ := asL_snd m r h1
        have := asBs_snd rs h2
        subst this
        exact ⟨a, bs, rfl, hs, k.same m (.bl _)⟩
/-- list of a list or tuple; tuple of them -/
def bList : OpC := one fun M d => match asL M d with
  | some ds => some (.lst ds)
  | none => (asT d).map fun ds => .lst ds
def bTuple : OpC := one fun M d => match asL M d with
  | some ds => some (.tup ds)
  | none => (asT d).map fun ds => .tup ds
theorem cd_list : CallD X (.type "list") bList := by
  refine ⟨_, call_list_of, fun F B ρ M H xs ds dz Q m rx e k => ?_⟩
  obtain ⟨d, rfl, h⟩ := one_some e
  cases rx with
  | cons r rr =>
    cases rr
    split at h
    · next es he =>
      obtain rfl := Option.some.inj h
      obtain ⟨a, vs, rfl, hs, rs⟩ := asL_snd m r he
      exact ⟨a, vs, rfl, .inl hs, k.newL m rs⟩
    · cases h2 : asT d with
      | none => simp [h2] at h
      | some es =>
        simp [h2] at h
        subst h
        obtain ⟨a, vs, rfl, hs, rs⟩ := asT_snd m r h2
        exact ⟨a, vs, rfl, .inr hs, k.newL m rs⟩
theorem cd_tuple : CallD X (.type "tuple") bTuple := by
  refine ⟨_, call_tuple_of, fun F B ρ M H xs ds dz Q m rx e k => ?_⟩
  obtain ⟨d, rfl, h⟩ := one_some e
  cases rx with
  | cons r rr =>
    cases rr
    split at h
    · next es he =>
      obtain rfl := Option.some.inj h
      obtain ⟨a, vs, rfl, hs, rs⟩ := asL_snd m r he
      exact ⟨a, vs, rfl, .inl ⟨hs, k.newT m rs⟩⟩
    · cases h2 : asT d with
      | none => simp [h2] at h
      | some es =>
        simp [h2] at h
        subst h
        have r2 := r
        obtain ⟨a, vs, rfl, hs, rs⟩ := asT_snd m r h2
        cases d <;> simp [asT] at h2
        subst h2
        exact ⟨a, vs, rfl, .inr ⟨hs, k.same m r2⟩⟩
/-- the class of a thing, by name -/
def tyN (M : Mem) : D → Option String
  | .non => some "NoneType"
  | .bl _ => some "bool"
  | .int _ => some "int"
  | .str _ => some "str"
  | .lst _ => some "list"
  | .tup _ => some "tuple"
  | .dct _ => some "dict"
  | .ptr n => match M[n]? with
    | some (.lst _) => some "list"
    | some (.dK _) => some "dict"
    | some (.dT _) => some "dict"
    | _ => none
  | _ => none
theorem tyN_snd {K : PySem.W.Frag} {F B H : Hp} {ρ : List Addr} {M : Mem} (m : MR K F B ρ M H) {d : D} {v : V} {t : String} (r : Rp K B ρ d v) (h : tyN M d = some t) : TyX K H v (.type t) := by
  cases r with
  | non => cases h; exact .base .non
  | bl b => cases h; exact .base (.bl b)
  | int i => cases h; exact .base (.int i)
  | str s => cases h; exact .base (.str s)
  | lst e q => cases h; exact .base (.lst (m.ex _ _ e))
  | tup e q =>
    cases h
    rcases ex_t m.ex e with (e | ⟨o, e⟩) | ⟨o, its, n, e1, e2, _⟩
    · exact .base (.tup e)
    · exact .fTuple e
    · exact .kTuple e1 e2
  | dct e q => cases h; exact .base (.dK (m.ex _ _ e))
  | scr e => cases h
  | @ptr n a ha =>
    have h' : (match M[n]? with | some (.lst _) => some "list" | some (.dK _) => some "dict" | some (.dT _) => some "dict" | _ => none) = some t := h
    split at h'
    · next ds hm =>
      cases h'
      obtain ⟨b, hb, _, vs, e, _⟩ := m.ob n _ hm
      rw [ha] at hb
      cases hb
      exact .base (.lst e)
    · next ds hm =>
      cases h'
      obtain ⟨b, hb, _, vs, e, _⟩ := m.ob n _ hm
      rw [ha] at hb
      cases hb
      exact .base (.dK e)
    · next ds hm =>
      cases h'
      obtain ⟨b, hb, _, vs, e, _⟩ := m.ob n _ hm
      rw [ha] at hb
      cases hb
      exact .base (.dT e)
    · cases h'
  | raw v => cases h
def bIsi : OpC := two fun M d c => match c with
  | .raw (.ty t) => (tyN M d).bind fun s => (kitB s t).map D.bl
  | _ => none
theorem cd_isi : CallD X (.builtin "isinstance") bIsi := by
  refine ⟨_, call_isi, fun F B ρ M H xs ds dz Q m rx e k => ?_⟩
  obtain ⟨d, c, rfl, h⟩ := two_some e
  cases rx with
  | cons r rr =>
    cases rr with
    | cons r' rr =>
      cases rr
      split at h
      · next t =>
        cases r'
        cases h1 : tyN M d with
        | none => simp [h1] at h
        | some s =>
          cases h2 : kitB s t with
          | none => simp [h1, h2] at h
          | some b =>
            simp [h1, h2] at h
            subst h
            exact ⟨_, .ty t, .type s, .type t, b, rfl, .ty t, tyN_snd m r h1, kit_ty h2, k.same m (.bl _)⟩
      · cases h
/-- sorted of texts -/
def asSs : List D → Option (List Str)
  | [] => some []
  | d :: ds => (asS d).bind fun b => (asSs ds).map (b :: ·)
theorem asSs_snd {K : PySem.W.Frag} {B : Hp} {ρ : List Addr} : ∀ {ds : List D} {vs : List V} {bs : List Str}, Rps K B ρ ds vs → asSs ds = some bs → vs = bs.map V.str
  | _, _, _, .nil, h => by cases h; rfl
  | _, _, bs, .cons (d := d) (ds := ds) r t, h => by
    unfold asSs at h
    cases h1 : asS d with
    | none => simp [h1] at h
    | some b =>
      cases h2 : asSs ds with
      | none => simp [h1, h2] at h
      | some cs =>
        simp [h1, h2] at h
        subst h
        rw [asSs_snd t h2, asS_snd r h1]
        rfl
theorem rps_strs {K : PySem.W.Frag} {B : Hp} {ρ : List Addr} : ∀ (ns : List Str), Rps K B ρ (ns.map D.str) (ns.map V.str)
  | [] => .nil
  | n :: ns => .cons (.str n) (rps_strs ns)
end
end Dn

namespace Dn
open PySem L2 Evl
section
variable {X : Cx} {W : XK} {a b c e o tg : Expr} {es : List Expr} {f g k : XE} {fa : XA} {p : XT} {pos : Pos}
/-! ### targets -/
def xgName (i : Nat) : XG := fun d η M => .ok (η.set i (some d)) M
theorem dg_name {i : Nat} {x : Str} (hN : X.N.Nodup) (hi : X.N[i]? = some x := by rfl) (hx : Loc X.env.scope x := by first | exact Or.inl rfl | exact Or.inr rfl) (hf : X.fn x = true ∨ X.env.scope.names.lookup x = some .local := by first | exact .inl rfl | exact .inr rfl | assumption) : DG X W (.Name x pos) [i] (xgName i) :=
  PG.imp (pg_name hN hi hx hf) fun v σ H Q z => by
    obtain ⟨d, η, F, B, ρ, M, r, e, m, w⟩ := z
    exact Wp.ret w m _ (e.set i r) (Off.set i _ σ)
def xgsNil : List D → Dv → Mem → R Dv := fun ds η M => match ds with
  | [] => .ok η M
  | _ => .no
def xgsCons (g : XG) (gs : List D → Dv → Mem → R Dv) : List D → Dv → Mem → R Dv := fun ds η M => match ds with
  | d :: r => (g d η M).bind fun η' M1 => gs r η' M1
  | [] => .no
theorem dgs_nil : DGs X W [] [] xgsNil := PGs.imp pgs_nil fun v σ H Q z => by
  obtain ⟨ds, η, F, B, ρ, M, r, e, m, w⟩ := z
  cases r with
  | nil => exact ⟨rfl, Wp.ret w m _ e (Off.refl _ _)⟩
  | cons r rr => exact w.elim
theorem dgs_cons {ts us : List Nat} {g : XG} {gs : List D → Dv → Mem → R Dv} (h1 : DG X W e ts g) (h2 : DGs X W es us gs) (hs : (assignEach (e :: es) X.env).map (·.2) = assign e X.env :: (assignEach es X.env).map (·.2) := by rfl) :
    DGs X W (e :: es) (ts ++ us) (xgsCons g gs) := PGs.imp (pgs_cons h1 h2 hs) fun v σ H Q z => by
  obtain ⟨ds, η, F, B, ρ, M, r, er, m, w⟩ := z
  cases r with
  | nil => exact w.elim
  | @cons d v ds vs r rr =>
    have w : Wp X.K X.mg F B ρ W _ ((g d η M).bind fun η' M1 => gs ds η' M1) := w
    refine ⟨v, vs, rfl, d, η, F, B, ρ, M, r, er, m, w.bind fun η1 M1 B1 ρ1 H1 l1 m1 w1 σ1 e1 o1 => ?_⟩
    exact ⟨ds, η1, F, B1, ρ1, M1, rr.mono l1, e1, m1, w1.imp fun η2 B2 ρ2 H2 l2 q σ2 e2 o2 => q σ2 e2 (o1.trans o2)⟩
def xgTup (n : Nat) (gs : List D → Dv → Mem → R Dv) : XG := fun d η M => match asT d with
  | some ds => if ds.length = n then gs ds η M else .no
  | none => .no
theorem dg_tup {kk : Nat} {ts : List Nat} {n : Nat} {gs : List D → Dv → Mem → R Dv} (hc : X.calm = true) (h : DGs X W es ts gs) (hn : (assignEach es X.env).length = n := by rfl) (hst : (assignEach es X.env).findIdx? (·.1) = none := by rfl) :
    DG X W (.Tuple es kk pos) ts (xgTup n gs) := PG.imp (pg_tup hc h hn hst) fun v σ H Q z => by
  obtain ⟨d, η, F, B, ρ, M, r, er, m, w⟩ := z
  unfold xgTup at w
  split at w
  · next ds hd =>
    split at w
    · next hl =>
      obtain ⟨a, vs, rfl, hs, rs⟩ := asT_snd m r hd
      exact ⟨a, vs, rfl, hs, by rw [← rs.len]; exact hl, ds, η, F, B, ρ, M, rs, er, m, w⟩
    · exact w.elim
  · exact w.elim

/-! ### blocks, small statements -/
def xNx : XS := fun η M => .ok (.nx η) M
def thenS (g : XS) : Fl → Mem → R Fl := fun fl M => match fl with
  | .nx η => g η M
  | .rt d => .ok (.rt d) M
  | .bk η => .ok (.bk η) M
  | .ct η => .ok (.ct η) M
def xSeq (f g : XS) : XS := fun η M => (f η M).bind (thenS g)
variable {st : Stmt} {rest : List Stmt} {s u : XS}
theorem dss_nil : DSs X W [] xNx := PSs.imp pss_nil fun E σ H z => by
  obtain ⟨η, F, B, ρ, M, er, m, w⟩ := z
  exact Wp.ret (P := FlP X.K E) w m σ er
theorem dss_one (h : DS X W st s) : DSs X W [st] s := PSs.imp (pss_one h) fun E σ H z => z
theorem dss_cons (h1 : DS X W st s) (h2 : DSs X W rest u) : DSs X W (st :: rest) (xSeq s u) := PSs.imp (pss_cons h1 h2) fun E σ H z => by
  obtain ⟨η, F, B, ρ, M, er, m, w⟩ := z
  refine ⟨η, F, B, ρ, M, er, m, w.bind fun fl M1 B1 ρ1 H1 l1 m1 w1 => ?_⟩
  cases fl with
  | nx η' => exact fun σ' e' => ⟨η', F, B1, ρ1, M1, e', m1, w1⟩
  | rt d => exact Wp.ret (P := FlP X.K E) w1 m1
  | bk η' => exact Wp.ret (P := FlP X.K E) w1 m1
  | ct η' => exact Wp.ret (P := FlP X.K E) w1 m1
def xBk : XS := fun η M => .ok (.bk η) M
def xCt : XS := fun η M => .ok (.ct η) M
theorem ds_pass : DS X W (.Pass pos) xNx := PS.imp ps_pass fun E σ H z => by
  obtain ⟨η, F, B, ρ, M, er, m, w⟩ := z
  exact Wp.ret (P := FlP X.K E) w m σ er
theorem ds_break : DS X W (.Break pos) xBk := PS.imp ps_break fun E σ H z => by
  obtain ⟨η, F, B, ρ, M, er, m, w⟩ := z
  exact Wp.ret (P := FlP X.K E) w m σ er
theorem ds_continue : DS X W (.Continue pos) xCt := PS.imp ps_continue fun E σ H z => by
  obtain ⟨η, F, B, ρ, M, er, m, w⟩ := z
  exact Wp.ret (P := FlP X.K E) w m σ er
theorem ds_never {st : Stmt} : DS X W st (fun _ _ => .no) := PS.imp ps_never fun E σ H z => by
  obtain ⟨η, F, B, ρ, M, er, m, w⟩ := z
  exact w.elim
def xDrop (f : XE) : XS := fun η M => (f η M).bind fun _ M1 => .ok (.nx η) M1
theorem ds_expr (he : DE X W e f) (hs : swapsWith e none pos.line X.env = pure false := by rfl) : DS X W (.Expr e pos) (xDrop f) := PS.imp (ps_expr he hs) fun E σ H z => by
  obtain ⟨η, F, B, ρ, M, er, m, w⟩ := z
  exact ⟨η, F, B, ρ, M, er, m, w.bind fun d M1 B1 ρ1 H1 l1 m1 w1 v rv => Wp.ret (P := FlP X.K E) w1 m1 σ (er.mono l1)⟩
def xRet (f : XE) : XS := fun η M => (f η M).bind fun d M1 => .ok (.rt d) M1
theorem ds_ret (he : DE X W e f) : DS X W (.Return (some e) pos) (xRet f) := PS.imp (ps_ret he) fun E σ H z => by
  obtain ⟨η, F, B, ρ, M, er, m, w⟩ := z
  exact ⟨η, F, B, ρ, M, er, m, w.bind fun d M1 B1 ρ1 H1 l1 m1 w1 v rv => Wp.ret (P := FlP X.K E) w1 m1 v rv⟩
def xRetN : XS := fun η M => .ok (.rt .non) M
theorem ds_retN : DS X W (.Return none pos) xRetN := PS.imp ps_retN fun E σ H z => by
  obtain ⟨η, F, B, ρ, M, er, m, w⟩ := z
  exact Wp.ret (P := FlP X.K E) w m .non .non
def xIfS (p : XT) (s u : XS) : XS := fun η M => (p η M).bind fun b M1 => if b = true then s η M1 else u η M1
theorem ds_if {c : Expr} {xs ys : List Stmt} (hc : DT X W c p) (ha : DSs X W xs s) (hb : DSs X W ys u) : DS X W (.If c xs ys pos) (xIfS p s u) := PS.imp (ps_if hc ha hb) fun E σ H z => by
  obtain ⟨η, F, B, ρ, M, er, m, w⟩ := z
  refine ⟨η, F, B, ρ, M, er, m, w.bind fun t M1 B1 ρ1 H1 l1 m1 w1 => ?_⟩
  cases t with
  | true => exact ⟨η, F, B1, ρ1, M1, er.mono l1, m1, w1⟩
  | false => exact ⟨η, F, B1, ρ1, M1, er.mono l1, m1, w1⟩
/-! ### assignments -/
def xAsg (f : XE) (g : XG) : XS := fun η M => (f η M).bind fun d M1 => (g d η M1).bind fun η' M2 => .ok (.nx η') M2
theorem asg_snd {ts : List Nat} {g : XG} (E : Ends) (σ : L2.St) (H : Hp) (z : tS X.K X.mg W (xAsg f g) E σ H) : tE X.K X.mg W f σ H fun x H1 => tG X.K X.mg W ts g x σ H1 E.nx := by
  obtain ⟨η, F, B, ρ, M, er, m, w⟩ := z
  refine ⟨η, F, B, ρ, M, er, m, w.bind fun d M1 B1 ρ1 H1 l1 m1 w1 v rv => ?_⟩
  exact ⟨d, η, F, B1, ρ1, M1, rv, er.mono l1, m1, w1.bind fun η' M2 B2 ρ2 H2 l2 m2 w2 σ' e' _ => Wp.ret (P := FlP X.K E) w2 m2 σ' e'⟩
theorem ds_asg {ts : List Nat} {g : XG} (he : DE X W e f) (hg : DG X W tg ts g) (hs : swapsWithSole [tg] e pos.line X.env = pure false := by rfl) (hw : swappedStores [tg] e X.env = pure none := by rfl)
    (h1 : (assignEach [tg] X.env).map (·.2) = [assign tg X.env] := by rfl) : DS X W (.Assign [tg] e pos) (xAsg f g) := PS.imp (ps_asg he hg hs hw h1) asg_snd
theorem set_snd {i : Nat} (E : Ends) (σ : L2.St) (H : Hp) (z : tS X.K X.mg W (xAsg f (xgName i)) E σ H) : tE X.K X.mg W f σ H fun x H1 => gName i x σ H1 E.nx := by
  obtain ⟨η, F, B, ρ, M, er, m, w⟩ := z
  exact ⟨η, F, B, ρ, M, er, m, w.bind fun d M1 B1 ρ1 H1 l1 m1 w1 v rv => Wp.ret (P := FlP X.K E) w1 m1 _ ((er.mono l1).set i rv)⟩
theorem ds_set {i : Nat} {x : Str} {pos' : Pos} (hN : X.N.Nodup) (he : DE X W e f) (hi : X.N[i]? = some x := by rfl) (hx : Loc X.env.scope x := by first | exact Or.inl rfl | exact Or.inr rfl) (hs : swapsWith e (some (.Name x pos')) pos.line X.env = pure false := by rfl)
    (hf : X.fn x = true ∨ X.env.scope.names.lookup x = some .local := by first | exact .inl rfl | exact .inr rfl | assumption) : DS X W (.Assign [.Name x pos'] e pos) (xAsg f (xgName i)) := PS.imp (ps_set hN hi hx he hs hf) set_snd
/-- a, b = x, y -/
def xPar (i j : Nat) (f g : XE) : XS := fun η M => (f η M).bind fun d M1 => (g η M1).bind fun c M2 => .ok (.nx ((η.set i (some d)).set j (some c))) M2
theorem ds_par {i j : Nat} {x y : Str} {px py pt : Pos} {kt k2 pt2} (hc : X.calm = true) (hN : X.N.Nodup) (hij : i ≠ j) (ha : DE X W a f) (hb : DE X W b g) (hi : X.N[i]? = some x := by rfl) (hj : X.N[j]? = some y := by rfl)
    (hx : X.env.scope.names.lookup x = some .local := by rfl) (hy : X.env.scope.names.lookup y = some .local := by rfl)
    (hw : swappedStores [.Tuple [.Name x px, .Name y py] kt pt] (.Tuple [a, b] k2 pt2) X.env = pure (some [x, y]) := by rfl)
    (hs : swapsWithSole [.Tuple [.Name x px, .Name y py] kt pt] (.Tuple [a, b] k2 pt2) pos.line X.env = pure false := by rfl)
    (hs1 : starEach [a, b] X.env = (false, eval a X.env) :: starEach [b] X.env := by rfl) (hs2 : starEach [b] X.env = (false, eval b X.env) :: starEach [] X.env := by rfl) :
    DS X W (.Assign [.Tuple [.Name x px, .Name y py] kt pt] (.Tuple [a, b] k2 pt2) pos) (xPar i j f g) := PS.imp (ps_par hc hN hi hj hij hx hy (pa_cons ha (pa_cons hb pa_nil hs2) hs1) hw hs) fun E σ H z => by
  obtain ⟨η, F, B, ρ, M, er, m, w⟩ := z
  refine ⟨η, F, B, ρ, M, er, m, w.bind fun d M1 B1 ρ1 H1 l1 m1 w1 v rv => ?_⟩
  refine ⟨η, F, B1, ρ1, M1, er.mono l1, m1, w1.bind fun c M2 B2 ρ2 H2 l2 m2 w2 v2 rv2 => ?_⟩
  exact ⟨v, v2, rfl, Wp.ret (P := FlP X.K E) w2 m2 _ (((er.mono (l1.trans l2)).set i (rv.mono l2)).set j rv2)⟩
/-- xs[i] = v of a list that may change -/
def xSetL (v o i : XE) : XS := fun η M => (v η M).bind fun d M1 => (o η M1).bind fun l M2 => (i η M2).bind fun z M3 => match l, z with
  | .ptr n, .int j => match M3[n]? with
    | some (.lst ds) => match ixN ds.length j with
      | some q => .ok (.nx η) (M3.set n (.lst (ds.set q d)))
      | none => .no
    | _ => .no
  | _, _ => .no
theorem ds_setL {ti v : Expr} {h : XE} (he : DE X W v h) (ho : DE X W o f) (hi : DE X W ti g) (hw : swappedStores [.Subscript o ti pos] v X.env = pure none := by rfl)
    {spos : Pos} (hs' : swapsWithSole [.Subscript o ti pos] v spos.line X.env = pure false := by rfl)
    (h1 : (assignEach [.Subscript o ti pos] X.env).map (·.2) = [assign (.Subscript o ti pos) X.env] := by rfl)
    (hp : ∀ v, assign (.Subscript o ti pos) X.env v = (do
      let ov ← holding [v] (eval o X.env)
      let iv ← holding [v, ov] (eval ti X.env)
      standAt pos
      holding [v, ov, iv] (setItem ov iv v)
      release [v, ov, iv] []) := by intro _; rfl) : DS X W (.Assign [.Subscript o ti pos] v spos) (xSetL h f g) := PS.imp (ps_asg he (pg_sub ho hi set_list hp) hs' hw h1) fun E σ H z => by
  obtain ⟨η, F, B, ρ, M, er, m, w⟩ := z
  refine ⟨η, F, B, ρ, M, er, m, w.bind fun d M1 B1 ρ1 H1 l1 m1 w1 x rx => ?_⟩
  refine ⟨η, F, B1, ρ1, M1, er.mono l1, m1, w1.bind fun dl M2 B2 ρ2 H2 l2 m2 w2 y ry => ?_⟩
  refine ⟨η, F, B2, ρ2, M2, er.mono (l1.trans l2), m2, w2.bind fun dz M3 B3 ρ3 H3 l3 m3 w3 z rz => ?_⟩
  split at w3
  · next n j =>
    split at w3
    · next ds hm =>
      split at w3
      · next q hq =>
        cases rz
        have ry3 := ry.mono l3
        cases ry3 with
        | @ptr _ a ha =>
          obtain ⟨vs, hH, rs, hB⟩ := m3.list ha hm
          refine ⟨a, vs, j, q, rfl, rfl, hH, by rw [← rs.len]; exact hq, ?_⟩
          have m4 := m3.put (o := .lst (vs.set q x)) (ob := .lst (ds.set q d)) ha hm (by intro z; cases z) ⟨_, upd_same, rs.set q (rx.mono (l2.trans l3))⟩
          exact w3 _ _ _ (Le.refl _ _) m4 σ (er.mono ((l1.trans l2).trans l3))
      · exact w3.elim
    · exact w3.elim
  · exact w3.elim
end
end Dn

namespace Dn
open PySem L2 Evl
section
variable {X : Cx} {W : XK} {a b c e o tg it : Expr} {es : List Expr} {f g k : XE} {fa : XA} {p : XT} {pos : Pos}
/-! ### what is walked -/
def xRng (g : XA) : XI := fun η M => (g η M).bind fun ds M1 => match ds with
  | [.int j] => if -(2 ^ 62) ≤ j ∧ j < 2 ^ 62 then .ok ((List.range j.toNat).map fun i => .int (i : Nat)) M1 else .no
  | _ => .no
theorem walk_rng {K : PySem.W.Frag} {B : Hp} {ρ : List Addr} {n : Nat} : WalkD K (Itr 0 n) B ρ ((List.range n).map fun i => .int (i : Nat)) := by
  refine ⟨⟨fun _ => True, _, by simpa using walk_range, fun _ _ => trivial, fun i d h F B1 ρ1 M H x H2 l m y => ?_⟩⟩
  obtain ⟨rfl, rfl⟩ := y
  refine ⟨B1, Le.refl _ _, m, ?_, Ex.refl _⟩
  rw [List.getElem?_map] at h
  cases hr : (List.range n)[i]? with
  | none => rw [hr] at h; cases h
  | some q =>
    rw [hr] at h
    simp at h
    have : q = i := by
      have := (List.getElem?_eq_some_iff.mp hr).2
      simpa using this.symm
    subst this
    rw [← h]
    simpa using Rp.int (K := K) (B := B1) (ρ := ρ1) ((q : Nat) : Int)
theorem di_range1 {p0 pos : Pos} (hg : Gl X "range") (hm : X.mg "range" = none) (ha : DA X W [a] fa) (hs : starEach [a] X.env = [(false, eval a X.env)] := by rfl) : DI X W tg (.Call (.Name "range" p0) [a] [] pos) (xRng fa) :=
  PI.imp (pi_range1 hg hm ha hs) fun σ H Q z => by
    obtain ⟨η, F, B, ρ, M, er, m, w⟩ := z
    refine ⟨η, F, B, ρ, M, er, m, w.bind fun ds M1 B1 ρ1 H1 l1 m1 w1 vs rv => ?_⟩
    split at w1
    · next j =>
      split at w1
      · next hj =>
        cases rv with
        | cons r rr =>
          cases rr
          cases r
          exact ⟨j, rfl, hj.1, hj.2, Wp.ret w1 m1 _ walk_rng⟩
      · exact w1.elim
    · exact w1.elim
/-- the items of a list, a tuple, a text that stay -/
def itemsD : D → Option (List D)
  | .lst ds => some ds
  | .scr ns => some (ns.map D.int)
  | .tup ds => some ds
  | .str s => some (s.cps.toList.map fun c => .str ⟨#[c]⟩)
  | _ => none
def xSq (f : XE) : XI := fun η M => (f η M).bind fun d M1 => R.of (itemsD d) M1
theorem PI.or {t t' : TI} (h : PI X tg it t) (h' : PI X tg it t') : PI X tg it (fun σ H Q => t σ H Q ∨ t' σ H Q) := ⟨fun pins s σ H Q I q => q.elim (h.run pins s σ H Q I) (h'.run pins s σ H Q I)⟩
theorem walk_at {K : PySem.W.Frag} {J : It} {G : Hp → Prop} {B : Hp} {ρ : List Addr} {ds : List D} {vs : List V} (w : Walk J vs.length G (YAt vs)) (hG : ∀ H, Ex B H → G H) (r : Rps K B ρ ds vs) : WalkD K J B ρ ds := by
  refine ⟨⟨G, YAt vs, by rw [r.len]; exact w, hG, fun i d h F B1 ρ1 M H x H2 l m y => ?_⟩⟩
  obtain ⟨rfl, hx⟩ := y
  obtain ⟨v, h1, h2⟩ := r.get h
  rw [hx] at h1
  cases h1
  exact ⟨B1, Le.refl _ _, m, h2.mono l, Ex.refl _⟩
theorem di_sq (he : DE X W it f) : DI X W tg it (xSq f) :=
  PI.imp (PI.or (pi_list he) (PI.or (pi_tup he) (pi_str he))) fun σ H Q z => by
    obtain ⟨η, F, B, ρ, M, er, m, w⟩ := z
    unfold xSq at w
    cases hr : f η M with
    | no => rw [hr] at w; exact w.elim
    | ex e1 M1 =>
      rw [hr] at w
      refine .inl ⟨η, F, B, ρ, M, er, m, ?_⟩
      rw [hr]
      exact w
    | ok d M1 =>
      rw [hr] at w
      have w : Wp X.K X.mg F B ρ W _ (R.of (itemsD d) M1) := w
      obtain ⟨ds, hd, w1⟩ := w.of
      cases d with
      | lst xs =>
        cases hd
        refine .inl ⟨η, F, B, ρ, M, er, m, ?_⟩
        rw [hr]
        intro B' ρ' H' l m' v rv
        cases rv with
        | lst e1 r1 => exact ⟨_, rfl, ⟨_, sq_of (m'.ex _ _ e1)⟩, w1 B' ρ' H' l m' _ (walk_at walk_list (fun H hH => sq_of (hH _ _ e1)) r1)⟩
      | scr ns =>
        cases hd
        refine .inl ⟨η, F, B, ρ, M, er, m, ?_⟩
        rw [hr]
        intro B' ρ' H' l m' v rv
        cases rv with
        | scr e1 => exact ⟨_, rfl, ⟨_, ex_l m'.ex e1⟩, w1 B' ρ' H' l m' _ (walk_at walk_list (fun H hH => ex_l hH e1) (rps_ints ns))⟩
      | tup xs =>
        cases hd
        refine .inr (.inl ⟨η, F, B, ρ, M, er, m, ?_⟩)
        rw [hr]
        intro B' ρ' H' l m' v rv
        cases rv with
        | tup e1 r1 => exact ⟨_, rfl, ⟨_, ex_t m'.ex e1⟩, w1 B' ρ' H' l m' _ (walk_at walk_tup (fun H hH => ex_t hH e1) r1)⟩
      | str s =>
        cases hd
        refine .inr (.inr ⟨η, F, B, ρ, M, er, m, ?_⟩)
        rw [hr]
        intro B' ρ' H' l m' v rv
        cases rv
        refine ⟨s, rfl, w1 B' ρ' H' l m' _ ⟨⟨fun _ => True, _, by simpa using walk_str, fun _ _ => trivial, fun i d h F B1 ρ1 M H x H2 l m y => ?_⟩⟩⟩
        obtain ⟨rfl, c, hc, rfl⟩ := y
        refine ⟨B1, Le.refl _ _, m, ?_, Ex.refl _⟩
        rw [List.getElem?_map] at h
        have hc' : s.cps.toList[i]? = some c := by simpa using hc
        rw [hc'] at h
        simp at h
        rw [← h]
        exact .str _
      | non => cases hd
      | bl _ => cases hd
      | int _ => cases hd
      | dct _ => cases hd
      | ptr _ => cases hd
      | raw _ => cases hd
/-- pairs -/
def xZip (g : XA) : XI := fun η M => (g η M).bind fun ds M1 => match ds with
  | [.lst xs, .lst ys] => .ok (xs.zip ys |>.map fun q => .tup [q.1, q.2]) M1
  | [.tup xs, .tup ys] => .ok (xs.zip ys |>.map fun q => .tup [q.1, q.2]) M1
  | _ => .no
theorem walk_pair {K : PySem.W.Frag} {J : It} {G : Hp → Prop} {B : Hp} {ρ : List Addr} {ds es : List D} {vs us : List V} (w : Walk J (min vs.length us.length) G (YPair (fun i => vs[i]?) (fun i => us[i]?))) (hG : ∀ H, Ex B H → G H) (r : Rps K B ρ ds vs) (r' : Rps K B ρ es us) :
    WalkD K J B ρ (ds.zip es |>.map fun q => .tup [q.1, q.2]) := by
  refine ⟨⟨G, _, by rw [List.length_map, List.length_zip, r.len, r'.len]; exact w, hG, fun i d h F B1 ρ1 M H x H2 l m y => ?_⟩⟩
  obtain ⟨T, x1, y1, rfl, hT, rfl, hx, hy⟩ := y
  rw [List.getElem?_map] at h
  cases hz : (ds.zip es)[i]? with
  | none => rw [hz] at h; cases h
  | some q =>
    rw [hz] at h
    simp at h
    have hz' := List.getElem?_zip_eq_some.mp hz
    obtain ⟨v1, h1, h2⟩ := r.get hz'.1
    obtain ⟨v2, h3, h4⟩ := r'.get hz'.2
    have hx' : vs[i]? = some x1 := hx
    have hy' : us[i]? = some y1 := hy
    rw [hx'] at h1
    rw [hy'] at h3
    cases h1
    cases h3
    obtain ⟨m', l'⟩ := m.new (o := .tup [x1, y1]) hT
    refine ⟨_, l', m', ?_, Ex.new hT⟩
    rw [← h]
    exact .tup (st_of upd_same) (.cons (h2.mono (l.trans l')) (.cons (h4.mono (l.trans l')) .nil))
theorem walk_zipT {K : PySem.W.Frag} {a b : Addr} {xs ys : List V} : Walk (RZ.ItzT K a b) (min xs.length ys.length) (fun H => SqT K H a xs ∧ SqT K H b ys) (YPair (fun i => xs[i]?) (fun i => ys[i]?)) := by
  refine ⟨fun i _ hi q => ?_, fun _ q => ⟨xs, ys, q.1, q.2, by omega⟩, fun i H v H' _ q y => ?_⟩
  · have h1 : i < xs.length := by omega
    have h2 : i < ys.length := by omega
    exact ⟨xs, ys, xs[i], ys[i], q.1, q.2, by simp [h1], by simp [h2]⟩
  · obtain ⟨T, x, z, h1, h2, h3, h4, h5⟩ := y
    exact ⟨T, x, z, h1, h2, h3, h4 xs q.1, h5 ys q.2⟩
theorem di_zip {e2 : Expr} {p0 pos tpos : Pos} {elts : List Expr} {kk : Nat} (hg : Gl X "zip") (hm : X.mg "zip" = none) (ha : DA X W [e, e2] fa)
    (hs : starEach [e, e2] X.env = (false, eval e X.env) :: starEach [e2] X.env := by rfl) (hpl : (backTo pos (starEach [e2] X.env)).any (·.1) = false := by rfl) : DI X W (.Tuple elts kk tpos) (.Call (.Name "zip" p0) [e, e2] [] pos) (xZip fa) :=
  PI.imp (RZ.pi_zipA hg hm ha hs hpl) fun σ H Q z => by
    obtain ⟨η, F, B, ρ, M, er, m, w⟩ := z
    refine ⟨η, F, B, ρ, M, er, m, w.bind fun ds M1 B1 ρ1 H1 l1 m1 w1 vs rv => ?_⟩
    split at w1
    · next xs ys =>
      cases rv with
      | cons r rr =>
        cases rr with
        | cons r' rr =>
          cases rr
          cases r with
          | lst e1 q1 =>
            cases r' with
            | lst e2 q2 =>
              exact ⟨_, _, _, _, rfl, .inl ⟨sq_of (m1.ex _ _ e1), sq_of (m1.ex _ _ e2), Wp.ret w1 m1 _ (walk_pair (walk_zip rfl) (fun H hH => ⟨sq_of (hH _ _ e1), sq_of (hH _ _ e2)⟩) q1 q2)⟩⟩
    · next xs ys =>
      cases rv with
      | cons r rr =>
        cases rr with
        | cons r' rr =>
          cases rr
          cases r with
          | tup e1 q1 =>
            cases r' with
            | tup e2 q2 =>
              exact ⟨_, _, _, _, rfl, .inr ⟨ex_t m1.ex e1, ex_t m1.ex e2, Wp.ret w1 m1 _ (walk_pair walk_zipT (fun H hH => ⟨ex_t hH e1, ex_t hH e2⟩) q1 q2)⟩⟩
    · exact w1.elim

/-! ### for -/
def xForL (g : XG) (body : XS) : List D → Dv → Mem → R Fl
  | [], η, M => .ok (.nx η) M
  | d :: ds, η, M => (g d η M).bind fun η' M1 => (body η' M1).bind fun fl M2 => match fl with
    | .nx η2 => xForL g body ds η2 M2
    | .ct η2 => xForL g body ds η2 M2
    | .bk η2 => .ok (.nx η2) M2
    | .rt v => .ok (.rt v) M2
def xFor (i : XI) (g : XG) (body : XS) : XS := fun η M => (i η M).bind fun ds M1 => xForL g body ds η M1
theorem ds_for {body : List Stmt} {fi : XI} {ts : List Nat} {gt : XG} {s : XS} (hp : PassesOwn (model X.prog X.w) X.A X.env X.xe) (hc : X.calm = true) (hi : DI X W tg it fi) (hg : DG X W tg ts gt) (hb : DSs X W body s)
    (hs : ∀ x, foldedSetIterable it X.env x = pure x := by intro _; rfl) : DS X W (.For tg it body [] pos) (xFor fi gt s) := PS.imp (ps_for hp hc hi hg hb hs) fun E σ H z => by
  obtain ⟨η, F, B, ρ, M, er, m, w⟩ := z
  refine ⟨η, F, B, ρ, M, er, m, w.bind fun ds M1 B1 ρ1 H1 l1 m1 w1 J wd => ?_⟩
  obtain ⟨G, Y, wk, hG, hY⟩ := wd.w
  refine for_it wk (fun i σ' H' => ∃ η' B' ρ' M', ER X.K B' ρ' η' σ' ∧ MR X.K F B' ρ' M' H' ∧ Le B1 ρ1 B' ρ' ∧ Wp X.K X.mg F B' ρ' W (FlP X.K E) (xForL gt s (ds.drop i) η' M')) ⟨η, B1, ρ1, M1, er.mono l1, m1, Le.refl _ _, by simpa using w1⟩
    (fun i σ' H' _ ⟨η', B', ρ', M', _, m', l', _⟩ => hG H' (l'.1.trans m'.ex)) (fun i x σ' H' H2 hi ⟨η', B', ρ', M', e', m', l', w'⟩ y => ?_) (fun σ' H' ⟨η', B', ρ', M', e', m', l', w'⟩ => ?_)
  · have hd : ds[i]? = some ds[i] := List.getElem?_eq_getElem hi
    rw [List.drop_eq_getElem_cons hi] at w'
    obtain ⟨B2, l2, m2, r2, _⟩ := hY i ds[i] hd F B' ρ' M' H' x H2 l' m' y
    have w2 : Wp X.K X.mg F B2 ρ' W (FlP X.K E) ((gt ds[i] η' M').bind _) := w'.mono l2
    refine ⟨ds[i], η', F, B2, ρ', M', r2, e'.mono l2, m2, w2.bind fun η3 M3 B3 ρ3 H3 l3 m3 w3 σ3 e3 _ => ?_⟩
    refine ⟨η3, F, B3, ρ3, M3, e3, m3, w3.bind fun fl M4 B4 ρ4 H4 l4 m4 w4 => ?_⟩
    have lz : Le B1 ρ1 B4 ρ4 := ((l'.trans l2).trans l3).trans l4
    cases fl with
    | nx η4 => exact fun σ4 e4 => ⟨η4, B4, ρ4, M4, e4, m4, lz, w4⟩
    | ct η4 => exact fun σ4 e4 => ⟨η4, B4, ρ4, M4, e4, m4, lz, w4⟩
    | bk η4 => exact fun σ4 e4 => Wp.ret (P := FlP X.K E) w4 m4 σ4 e4
    | rt v => exact Wp.ret (P := FlP X.K E) w4 m4
  · rw [List.drop_length] at w'
    exact Wp.ret (P := FlP X.K E) w' m' σ' e'

/-! ### a list made by a comprehension -/
def xLcL (g : XG) (t : XT) (f : XE) : List D → Dv → Mem → R (List D)
  | [], _, M => .ok [] M
  | d :: ds, η, M => (g d η M).calm.bind fun η' M1 => (t η' M1).calm.bind fun b M2 => if b = true then (f η' M2).calm.bind fun y M3 => (xLcL g t f ds η M3).bind fun r M4 => .ok (y :: r) M4 else xLcL g t f ds η M2
/-- what is made, and whether it may change -/
def frozenL (ds : List D) (M : Mem) : R D := .ok (.lst ds) M
def movingL (ds : List D) (M : Mem) : R D := .ok (.ptr M.length) (M ++ [.lst ds])
def xLc (fin : List D → Mem → R D) (i : XI) (g : XG) (t : XT) (f : XE) (vs : List Nat) : XE := fun η M => (i η M).bind fun ds M1 => if ds.length ≤ 100000 then (xLcL g t f ds (wipeD η vs) M1).bind fin else .no
def xYes : XT := fun _ M => .ok true M
theorem dts_nil : DTs X W [] xYes := PTs.imp pts_nil fun σ H Q z => by
  obtain ⟨η, F, B, ρ, M, er, m, w⟩ := z
  exact Wp.ret (P := fun b _ _ H' => Q b H') w m
theorem dts_one (h : DT X W c p) : DTs X W [c] p := PTs.imp (pts_one h) fun σ H Q z => z
theorem calm_wp {α : Type} {K : PySem.W.Frag} {mg : Str → Option Value} {F B : Hp} {ρ : List Addr} {V V' : XK} {P : α → Hp → List Addr → Hp → Prop} {r : R α} (h : Wp K mg F B ρ V P r.calm) : Wp K mg F B ρ V' P r := by
  cases r with
  | ok a M => exact h
  | ex e M => exact h.elim
  | no => exact h
/-- what follows a new list -/
def FinOk (fin : List D → Mem → R D) : Prop := ∀ (K : PySem.W.Frag) (mg : Str → Option Value) (W : XK) (F B H : Hp) (ρ : List Addr) (M : Mem) (ds : List D) (vs : List V) (Q : VK), MR K F B ρ M H → Rps K B ρ ds vs → Wp K mg F B ρ W (fun d B' ρ' H' => ∀ v, Rp K B' ρ' d v → Q v H') (fin ds M) →
  ∀ p, H p = none → Q (.ref p) (upd H p (.lst vs))
theorem fin_frozen : FinOk frozenL := fun K mg W F B H ρ M ds vs Q m r w => (done_of w).newL m r
theorem fin_moving : FinOk movingL := fun K mg W F B H ρ M ds vs Q m r w => putM m r w
theorem xLcL_len (gt : XG) (t : XT) (f : XE) : ∀ (ds : List D) (η : Dv) (M M' : Mem) (r : List D), xLcL gt t f ds η M = .ok r M' → r.length ≤ ds.length := by
  intro ds
  induction ds with
  | nil => intro η M M' r h; cases h; simp
  | cons d ds ih =>
    intro η M M' r h
    unfold xLcL at h
    cases h1 : gt d η M with
    | ok η1 M1 =>
      simp only [h1, R.calm_ok, R.bind_ok] at h
      cases h2 : t η1 M1 with
      | ok b M2 =>
        simp only [h2, R.calm_ok, R.bind_ok] at h
        cases b with
        | true =>
          simp only [if_true] at h
          cases h3 : f η1 M2 with
          | ok y M3 =>
            simp only [h3, R.calm_ok, R.bind_ok] at h
            cases h4 : xLcL gt t f ds η M3 with
            | ok q M4 =>
              simp only [h4, R.bind_ok] at h
              cases h
              have := ih _ _ _ _ h4
              simp; omega
            | ex e M4 => simp [h4] at h
            | no => simp [h4] at h
          | ex e M4 => simp [h3, R.calm] at h
          | no => simp [h3, R.calm] at h
        | false =>
          simp at h
          have := ih _ _ _ _ h
          simp; omega
      | ex e M4 => simp [h2, R.calm] at h
      | no => simp [h2, R.calm] at h
    | ex e M4 => simp [h1, R.calm] at h
    | no => simp [h1, R.calm] at h
theorem drop_frame {K : PySem.W.Frag} {F B H : Hp} {ρ : List Addr} {M : Mem} {p : Addr} {u : HO} (m : MR K (upd F p u) B ρ M H) (hF : F p = none) (o : HO) : MR K F B ρ M (upd H p o) ∧ B p = none ∧ p ∉ ρ := by
  obtain ⟨hB, hρ⟩ := m.dj p u upd_same
  refine ⟨⟨fun a v e => ?_, fun a v e => ?_, fun a v e => ?_, m.len, m.nd, fun n ob h => ?_⟩, hB, hρ⟩
  · rw [upd_ne (ne_of_none e hB)]
    exact m.ex a v e
  · have na : a ≠ p := ne_of_none e hF
    rw [upd_ne na]
    exact m.fr a v (by rw [upd_ne na]; exact e)
  · have na : a ≠ p := ne_of_none e hF
    exact m.dj a v (by rw [upd_ne na]; exact e)
  · obtain ⟨a, ha, hb, r⟩ := m.ob n ob h
    have na : a ≠ p := fun z => hρ (z ▸ List.mem_of_getElem? ha)
    exact ⟨a, ha, hb, r.mono (Le.refl _ _) fun w q => by rw [upd_ne na]; exact q⟩
theorem add_frame {K : PySem.W.Frag} {F B H : Hp} {ρ : List Addr} {M : Mem} {p : Addr} {u : HO} (m : MR K F B ρ M H) (hp : H p = some u) (hB : B p = none) (hρ : p ∉ ρ) : MR K (upd F p u) B ρ M H := by
  refine ⟨m.ex, fun a v e => ?_, fun a v e => ?_, m.len, m.nd, m.ob⟩
  · by_cases q : a = p
    · subst q
      rw [upd_same] at e
      cases e
      exact hp
    · rw [upd_ne q] at e
      exact m.fr a v e
  · by_cases q : a = p
    · subst q
      exact ⟨hB, hρ⟩
    · rw [upd_ne q] at e
      exact m.dj a v e
theorem de_lc {elt : Expr} {ifs : List Expr} {scope : Scope} {own : List (Str × Nat)} {fi : XI} {ts : List Nat} {gt : XG} {t : XT} {W' : XK} {fin : List D → Mem → R D} (hf : FinOk fin) (hc : X.calm = true) (hN : X.N.Nodup) (hi : DI X W tg it fi) (ok : BlkOk X.N X.env.scope scope own)
    (hg : ∀ (s : Shared) (H : Hp) (C : Addr) (cl : List (Str × Addr)) (fp : List Addr), DG (X.blk s H scope (compEnvC scope cl C X.env) fp) W' tg ts gt) (ht : ∀ (s : Shared) (H : Hp) (C : Addr) (cl : List (Str × Addr)) (fp : List Addr), DTs (X.blk s H scope (compEnvC scope cl C X.env) fp) W' ifs t)
    (he : ∀ (s : Shared) (H : Hp) (C : Addr) (cl : List (Str × Addr)) (fp : List Addr), DE (X.blk s H scope (compEnvC scope cl C X.env) fp) W' elt f) (hts : ∀ i ∈ ts, i ∈ own.map (·.2)) (hs : ∀ x, foldedSetIterable it X.env x = pure x := by intro _; rfl) :
    DE X W (.ListComp elt [⟨tg, it, ifs, 0⟩] scope pos) (xLc fin fi gt t f (own.map (·.2))) := PE.imp (pe_lc (g := tG X.K X.mg W' ts gt) (tt := tT X.K X.mg W' t) (te := tE X.K X.mg W' f) hc hN hi ok hg ht he hs) fun σ H Q z => lcGo hf hts σ H Q z
where
  lcGo {own : List (Str × Nat)} {fi : XI} {ts : List Nat} {gt : XG} {t : XT} {W' : XK} {fin : List D → Mem → R D} {f : XE} (hf : FinOk fin) (hts : ∀ i ∈ ts, i ∈ own.map (·.2)) (σ : L2.St) (H : Hp) (Q : VK) (z : tE X.K X.mg W (xLc fin fi gt t f (own.map (·.2))) σ H Q) :
      tLc (tI X.K X.mg W fi) (tG X.K X.mg W' ts gt) (tT X.K X.mg W' t) (tE X.K X.mg W' f) (own.map (·.2)) σ H Q := by
    obtain ⟨η, F, B, ρ, M, er, m, w⟩ := z
    refine ⟨η, F, B, ρ, M, er, m, w.bind fun ds M1 B1 ρ1 H1 l1 m1 w1 J wd => fun p hp => ?_⟩
    split at w1
    · next hlen =>
      obtain ⟨G, Y, wk, hG, hY⟩ := wd.w
      have hFp : F p = none := fresh_back m1.fr hp
      refine lc_it wk (fun i H' => ∃ B' ρ' M' acc dacc, MR X.K F B' ρ' M' H' ∧ Le B1 ρ1 B' ρ' ∧ H' p = some (.lst acc) ∧ B' p = none ∧ p ∉ ρ' ∧ Rps X.K B' ρ' dacc acc ∧ dacc.length ≤ i ∧
          Wp X.K X.mg F B' ρ' W (fun d B' ρ' H' => ∀ v, Rp X.K B' ρ' d v → Q v H') ((xLcL gt t f (ds.drop i) (wipeD η (own.map (·.2))) M').bind fun r M2 => fin (dacc ++ r) M2))
        ⟨B1, ρ1, M1, [], [], m1.more (Ex.new hp), Le.refl _ _, upd_same, fresh_back m1.ex hp, m1.notin hp, .nil, Nat.le_refl _, by simpa using w1⟩
        (fun i H' _ ⟨B', ρ', M', _, _, m', l', _⟩ => hG H' (l'.1.trans m'.ex)) (fun i x H' H2 hi ⟨B', ρ', M', acc, dacc, m', l', hp', hB', hρ', ra, hla, w'⟩ y => ?_) (fun H' ⟨B', ρ', M', acc, dacc, m', l', hp', hB', hρ', ra, hla, w'⟩ => ?_)
      · have hd : ds[i]? = some ds[i] := List.getElem?_eq_getElem hi
        rw [List.drop_eq_getElem_cons hi] at w'
        have m'' : MR X.K (upd F p (.lst acc)) B' ρ' M' H' := add_frame m' hp' hB' hρ'
        obtain ⟨B2, l2, m2, r2, _⟩ := hY i ds[i] hd _ B' ρ' M' H' x H2 l' m'' y
        unfold xLcL at w'
        have e' : ER X.K B2 ρ' (wipeD η (own.map (·.2))) (L2.wipe σ (own.map (·.2))) := (er.mono ((l1.trans l'))).mono l2 |>.wipe _
        cases h1 : gt ds[i] (wipeD η (own.map (·.2))) M' with
        | ex e0 M0 => rw [h1] at w'; exact w'.elim
        | no => rw [h1] at w'; exact w'.elim
        | ok η3 M3 =>
        simp only [h1, R.calm_ok, R.bind_ok] at w'
        refine ⟨ds[i], _, _, B2, ρ', M', r2, e', m2, ?_⟩
        rw [h1]
        intro B3 ρ3 H3 l3 m3 σ3 e3 off3
        refine ⟨wipe_off off3 hts ▸ ?_, ?_⟩
        · have idem : ∀ (vs : List Nat) (τ : L2.St), L2.wipe (L2.wipe τ vs) vs = L2.wipe τ vs := fun vs τ => by
            apply wipe_off (ts := vs) (σ := τ) (σ' := L2.wipe τ vs)
            · refine ⟨L2.wipe_length _ _, fun j hj => ?_⟩
              exact L2.wipe_out hj
            · intro t ht; exact ht
          exact idem _ _
        · cases h2 : t η3 M3 with
          | ex e0 M0 => rw [h2] at w'; exact w'.elim
          | no => rw [h2] at w'; exact w'.elim
          | ok bb M4 =>
          simp only [h2, R.calm_ok, R.bind_ok] at w'
          refine ⟨η3, _, B3, ρ3, M3, e3, m3, ?_⟩
          rw [h2]
          intro B4 ρ4 H4 l4 m4
          have lz : Le B' ρ' B4 ρ4 := (l2.trans l3).trans l4
          cases bb with
          | false =>
            simp only [Bool.false_eq_true, if_false] at w' ⊢
            have hp4 : H4 p = some (.lst acc) := m4.fr p _ upd_same
            obtain ⟨hB4, hρ4⟩ := m4.dj p _ upd_same
            have m5 := (drop_frame m4 hFp (.lst acc)).1
            have same : upd H4 p (.lst acc) = H4 := by
              funext q
              by_cases hq : q = p
              · subst hq; rw [upd_same, hp4]
              · rw [upd_ne hq]
            rw [same] at m5
            exact ⟨B4, ρ4, M4, acc, dacc, m5, l'.trans lz, hp4, hB4, hρ4, ra.mono lz, by omega, w'.mono lz⟩
          | true =>
            simp only [if_true] at w' ⊢
            cases h3 : f η3 M4 with
            | ex e0 M0 => rw [h3] at w'; exact w'.elim
            | no => rw [h3] at w'; exact w'.elim
            | ok yy M5 =>
            simp only [h3, R.calm_ok, R.bind_ok] at w'
            refine ⟨η3, _, B4, ρ4, M4, e3.mono l4, m4, ?_⟩
            rw [h3]
            intro B5 ρ5 H5 l5 m5 v5 r5
            have lz5 : Le B' ρ' B5 ρ5 := lz.trans l5
            have hp5 : H5 p = some (.lst acc) := m5.fr p _ upd_same
            obtain ⟨m6, hB6, hρ6⟩ := drop_frame m5 hFp (.lst (acc ++ [v5]))
            have hl := ra.len
            have hi' : i < 100000 := by omega
            refine ⟨acc, hp5, by rw [← hl]; exact sz_lt (by omega), B5, ρ5, M5, acc ++ [v5], dacc ++ [yy], m6, l'.trans lz5, upd_same, hB6, hρ6, (ra.mono lz5).snoc r5, by simp; omega, ?_⟩
            have w5 := w'.mono lz5
            cases h4 : xLcL gt t f (ds.drop (i + 1)) (wipeD η (own.map (·.2))) M5 with
            | ex e0 M0 => rw [h4] at w5; exact w5
            | no => rw [h4] at w5; exact w5.elim
            | ok r6 M6 =>
              simp only [h4, R.bind_ok] at w5
              show Wp X.K X.mg F B5 ρ5 W _ (fin (dacc ++ [yy] ++ r6) M6)
              rw [List.append_assoc]
              exact w5
      · rw [List.drop_length] at w'
        have w2 : Wp X.K X.mg F B' ρ' W (fun d B' ρ' H' => ∀ v, Rp X.K B' ρ' d v → Q v H') (fin (dacc ++ []) M') := w'
        rw [List.append_nil] at w2
        -- the heap without the new list
        have m0 : MR X.K F B' ρ' M' (fun q => if q = p then none else H' q) := by
          refine ⟨fun a v e => ?_, fun a v e => ?_, m'.dj, m'.len, m'.nd, fun n ob h => ?_⟩
          · rw [if_neg (ne_of_none e hB')]; exact m'.ex a v e
          · rw [if_neg (ne_of_none e hFp)]; exact m'.fr a v e
          · obtain ⟨a, ha, hb, r⟩ := m'.ob n ob h
            have na : a ≠ p := fun z => hρ' (z ▸ List.mem_of_getElem? ha)
            exact ⟨a, ha, hb, r.mono (Le.refl _ _) fun w q => by rw [if_neg na]; exact q⟩
        have hq := hf X.K X.mg W F B' _ ρ' M' dacc acc Q m0 ra w2 p (if_pos rfl)
        have same : upd (fun q => if q = p then none else H' q) p (.lst acc) = H' := by
          funext q
          by_cases hq : q = p
          · subst hq; rw [upd_same, hp']
          · rw [upd_ne hq, if_neg hq]
        rw [same] at hq
        exact hq
    · exact w1.elim
end
end Dn

/-! x[::-1] of lists, tuples, texts -/
namespace Dn
open PySem PySem.Spec PyProof.Rows L2 Evl
section
variable {prog : Program} {w : World} {A : Around} {E : Value → Shared → Prop} {s : Shared}
theorem sliceApplied_rev {sl : Addr} {vl vu vs : Value} {n : Nat} {Q : Int × Int × Nat → Shared → Prop} (hs : s.heap.IsSliceOf sl vl vu vs) (pl : IsPart vl none) (pu : IsPart vu none) (ps : IsPart vs (some (-1)))
    (h : Q ((n : Int) - 1, -1, n) s) : wpAny (model prog w) A (Builtin.Slice.sliceApplied (.ref sl) (pure (n : Int))) Q E s := by
  obtain ⟨os, hos, hcs, hds⟩ := id hs
  unfold Builtin.Slice.sliceApplied Builtin.Slice.sliceFields
  refine wpAny_bind (wpAny_bind (wpAny_field hos hds (x := vl) rfl (wpAny_bind (wpAny_field hos hds (x := vu) rfl (wpAny_bind (wpAny_field hos hds (x := vs) rfl (wpAny_pure ?_)))))))
  refine wpAny_bind (HT.slicePart_ ps ?_)
  show wpAny _ _ (if ((-1 : Int) == 0) = true then _ else _) _ _ s
  rw [if_neg (by decide)]
  refine wpAny_bind (HT.slicePart_ pl (wpAny_bind (HT.slicePart_ pu (wpAny_bind (wpAny_pure ?_)))))
  have e1 : Builtin.Slice.sliceAdjust none none (-1) (n : Int) = ((n : Int) - 1, -1) := by
    unfold Builtin.Slice.sliceAdjust
    simp
  have e2 : Builtin.Slice.slicePlaces ((n : Int) - 1) (-1) (-1) = n := by
    unfold Builtin.Slice.slicePlaces
    have h1 : ¬ ((-1 : Int) > 0) := by omega
    simp only [h1, if_false]
    have e : (- -1 : Int) = 1 := by decide
    rw [e, Int.ediv_one]
    split <;> omega
  show wpAny _ _ (match Builtin.Slice.sliceAdjust none none (-1) (n : Int) with | (lo, hi) => pure (lo, (-1 : Int), Builtin.Slice.slicePlaces lo hi (-1))) _ _ s
  rw [e1]
  show wpAny _ _ (pure ((n : Int) - 1, (-1 : Int), Builtin.Slice.slicePlaces ((n : Int) - 1) (-1) (-1))) _ _ s
  rw [e2]
  exact wpAny_pure h
theorem pick_rev (xs : Array Value) : ((List.range xs.size).filterMap fun (k : Nat) => xs[((xs.size : Int) - 1 + (k : Int) * -1).toNat]?).toArray = xs.toList.reverse.toArray := by
  apply congrArg List.toArray
  have e : (List.range xs.size).filterMap (fun (k : Nat) => xs[((xs.size : Int) - 1 + (k : Int) * -1).toNat]?) = (List.range xs.size).filterMap (fun (k : Nat) => xs[xs.size - 1 - k]?) := by
    have gen : ∀ (l : List Nat) (f g : Nat → Option Value), (∀ k ∈ l, f k = g k) → l.filterMap f = l.filterMap g := by
      intro l f g
      induction l with
      | nil => intro _; rfl
      | cons a l ih =>
        intro h
        rw [List.filterMap_cons, List.filterMap_cons, h a (List.mem_cons_self ..), ih fun k hk => h k (List.mem_cons_of_mem _ hk)]
    refine gen _ _ _ fun k hk => ?_
    have hk' : k < xs.size := List.mem_range.mp hk
    have : ((xs.size : Int) - 1 + (k : Int) * -1).toNat = xs.size - 1 - k := by omega
    rw [this]
  rw [e]
  have e2 : (fun (k : Nat) => xs[xs.size - 1 - k]?) = (fun i => xs[i]?) ∘ (fun k => xs.size - 1 - k) := rfl
  rw [e2, ← List.filterMap_map, PySem.W.krv_range, List.filterMap_reverse, PySem.W.krv_all]
theorem getItem_tuple_rev {t sl : Addr} {items : Array Value} {vl vu vs : Value} {Q : Value → Shared → Prop} (ht : IsTup s.heap t items) (hs : s.heap.IsSliceOf sl vl vu vs) (pl : IsPart vl none) (pu : IsPart vu none) (ps : IsPart vs (some (-1)))
    (h : Q (.ref s.heap.objs.size) { s with heap := s.heap.push { cls := .type "tuple", data := .seq items.toList.reverse.toArray } })
    (hsz : items.size ≤ sizeLine) : wpAny (model prog w) A (getItem (.ref t) (.ref sl)) Q E s := by
  have htake : sizeOk (.seq items.toList.reverse.toArray) := by
    show items.toList.reverse.toArray.size ≤ sizeLine
    rw [List.size_toArray, List.length_reverse, Array.length_toList]
    exact hsz
  obtain ⟨os, hos, hcs, hds⟩ := id hs
  have hTs : s.TypeIs (.ref sl) "slice" := ⟨os, hos, hcs⟩
  unfold getItem
  try with_reducible refine wpAny_holding ?_
  first | refine wpAny_bind (wpAny_pure ?_) | skip
  refine wpAny_bind (wpAny_sequenceKey ht.typeIs (by decide) ?_)
  refine wpAny_bind (wpAny_callSpecial?_slot (name := Str.ofString "__getitem__") ht.typeIs PyProof.Rows.slot_tuple_getitem
    (wpAny_call_entry PyProof.Rows.slot_tuple_getitem ht.typeIs PyProof.Rows.entry_tuple_getitem ?_ (PyProof.Rows.args_tuple_getitem _ _)))
  show wpAny _ _ (Builtin.Tuple.tupleItemsOf (.ref t) >>= _) _ _ s
  refine wpAny_bind (PyProof.Rows.tupleItemsOf_ ht ?_)
  refine wpAny_bind (wpAny_typeOf hTs ?_)
  rw [if_pos (by decide)]
  refine wpAny_bind (sliceApplied_rev hs pl pu ps ?_)
  have hno : ¬ ((((items.size : Int) - 1) == 0 && (-1 : Int) == 1 && items.size == items.size) = true) := by
    intro q
    rw [Bool.and_eq_true, Bool.and_eq_true] at q
    exact absurd q.1.2 (by decide)
  show wpAny _ _ (if (((items.size : Int) - 1) == 0 && (-1 : Int) == 1 && items.size == items.size) = true then _ else _) _ _ s
  rw [if_neg hno, pick_rev]
  first
    | exact wpAny_bind (m := Builtin.Tuple.tupleExact _) (wpAny_newObj_type (wpAny_pure ⟨_, rfl, wpAny_pure h⟩) htake)
    | exact wpAny_bind (m := Builtin.Tuple.tupleExact _) (wpAny_newObj_type (wpAny_bind (wpAny_pure (wpAny_pure ⟨_, rfl, wpAny_pure h⟩))) htake)
    | exact wpAny_bind (wpAny_bind (m := Builtin.Tuple.tupleExact _) (wpAny_newObj_type (wpAny_pure (wpAny_pure ⟨_, rfl, wpAny_pure h⟩)) htake))
    | exact wpAny_bind (wpAny_bind (m := Builtin.Tuple.tupleExact _) (wpAny_newObj_type (wpAny_pure ⟨_, rfl, wpAny_pure h⟩) htake))
end
section
variable {X : Cx} {W : XK}
def revS (z : Str) : Str := ⟨z.cps.toList.reverse.toArray⟩
def tRevA (K : PySem.W.Frag) (te : TE) : TE := fun σ H Q => te σ H fun x H1 => (∃ a xs, x = .ref a ∧ SqL K H1 a xs ∧ ∀ p, H1 p = none → Q (.ref p) (upd H1 p (.lst xs.reverse))) ∨
  (∃ a xs, x = .ref a ∧ SqT K H1 a xs ∧ ∀ p, H1 p = none → Q (.ref p) (upd H1 p (.tup xs.reverse))) ∨ (∃ z, x = .str z ∧ z.length ≤ sizeLine ∧ Q (.str (revS z)) H1)
theorem pe_revA {e : Expr} {te : TE} {k : Nat} {p1 p2 p3 pos : Pos} (he : PE X e te) : PE X (.Subscript e (.Slice none none (some (.UnaryOp .USub (.Constant (.int 1) k p1) p2)) p3) pos) (tRevA X.K te) := by
  refine ⟨fun pins s σ H Q I h => ?_⟩
  refine PyProof.Rows.Subscript_ (thn (he.run pins s σ H _ I h) fun v s1 ⟨x, H1, I1, r1, q1⟩ => ?_)
  have hst : PO X (some (.UnaryOp .USub (.Constant (.int 1) k p1) p2)) (tPart (tUn (rU fun i => .int (-i)) (tC (.int 1)))) := po_some (pe_un un_neg pe_int)
  refine wpAny_Slice (thn (po_none.run pins s1 σ H1 (fun o H2 => o = none ∧ H2 = H1) I1 ⟨rfl, rfl⟩) fun vl s2 ⟨l, H2, I2, pl, el, e2⟩ => ?_)
  subst el e2
  refine thn (po_none.run pins s2 σ H2 (fun o H3 => o = none ∧ H3 = H2) I2 ⟨rfl, rfl⟩) fun vu s3 ⟨u, H3, I3, pu, eu, e3⟩ => ?_
  subst eu e3
  refine thn (hst.run pins s3 σ H3 (fun o H4 => o = some (-1) ∧ H4 = H3) I3 ⟨1, rfl, -1, rfl, rfl, rfl⟩) fun vs s4 ⟨o, H4, I4, ps, eo, e4⟩ => ?_
  subst eo e4
  have I5 : Inv X pins σ H4 { s4 with heap := s4.heap.push { cls := .type "slice", data := .fields #[vl, vu, vs] } } := I4.kept (t' := s4.toks) fun b ob q => Heap.get?_push_of_some _ q
  rcases q1 with ⟨a, xs, ex, hx, q⟩ | ⟨a, xs, ex, hx, q⟩ | ⟨z, ex, hz, q⟩
  · subst ex
    cases r1
    obtain ⟨its, r, ht, hz⟩ := I5.list hx
    have hlen := r.length
    show wpAny (model X.prog X.w) X.A (subscriptTail e (.Slice none none (some (.UnaryOp .USub (.Constant (.int 1) k p1) p2)) p3) (.ref a) (.ref s4.heap.objs.size)) (EP X pins σ Q) X.xe { s4 with heap := s4.heap.push { cls := .type "slice", data := .fields #[vl, vu, vs] } }
    refine PyProof.Rows.tail_any (ops := [.ref a, .ref s4.heap.objs.size]) ht.isList.typeIs (PySem.slot_list_getitem.lookup) ?_ (by with_unfolding_all rfl)
    refine wpAny_getItem_list_slice ht.isList (Heap.IsSliceOf.new _ vl vu vs) pl pu ps (by decide) ?_ (by rw [List.size_toArray]; omega)
    rw [PySem.W.krv_pick]
    refine ⟨.ref _, _, I5.laid (t' := s4.toks) (o := .lst xs.reverse) (fun b ob q => Heap.get?_push_of_some _ q) (Nat.le_refl _) ?_, rfl, q _ (I5.hok.fresh (Nat.le_refl _))⟩
    exact ⟨by rw [List.length_reverse]; exact hz, _, 0, r.reverse, Heap.get?_push_size _ rfl⟩
  · subst ex
    cases r1
    obtain ⟨its, r, ht, hz⟩ := I5.tuple hx
    have hlen := r.length
    show wpAny (model X.prog X.w) X.A (subscriptTail e (.Slice none none (some (.UnaryOp .USub (.Constant (.int 1) k p1) p2)) p3) (.ref a) (.ref s4.heap.objs.size)) (EP X pins σ Q) X.xe { s4 with heap := s4.heap.push { cls := .type "slice", data := .fields #[vl, vu, vs] } }
    refine PyProof.Rows.tail_any (ops := [.ref a, .ref s4.heap.objs.size]) ht.typeIs (PyProof.Rows.slot_tuple_getitem.lookup) ?_ (by with_unfolding_all rfl)
    refine getItem_tuple_rev ht (Heap.IsSliceOf.new _ vl vu vs) pl pu ps ?_ (by rw [List.size_toArray]; omega)
    refine ⟨.ref _, _, I5.laid (t' := s4.toks) (o := .tup xs.reverse) (fun b ob q => Heap.get?_push_of_some _ q) (Nat.le_refl _) ?_, rfl, q _ (I5.hok.fresh (Nat.le_refl _))⟩
    exact ⟨by rw [List.length_reverse]; exact hz, _, r.reverse, IsTup.new _ _⟩
  · subst ex
    obtain ⟨t, rfl⟩ := r1
    obtain ⟨l, rfl, hl⟩ := IsPart.raw pl
    obtain ⟨u, rfl, hu⟩ := IsPart.raw pu
    obtain ⟨st, rfl, hst⟩ := IsPart.raw ps
    show wpAny (model X.prog X.w) X.A (subscriptTail e (.Slice none none (some (.UnaryOp .USub (.Constant (.int 1) k p1) p2)) p3) (.str z t) (.ref s4.heap.objs.size)) (EP X pins σ Q) X.xe { s4 with heap := s4.heap.push { cls := .type "slice", data := .fields #[_, _, _] } }
    refine PyProof.Rows.tail_any (ops := [.str z t, .ref s4.heap.objs.size]) (typeIs_str _ _ _) (PySem.F.slot_str_getitem.lookup) ?_ (by with_unfolding_all rfl)
    have hl' : l = none := by cases l <;> simp at hl <;> rfl
    have hu' : u = none := by cases u <;> simp at hu <;> rfl
    subst hl' hu'
    cases st with
    | none => simp at hst
    | some stv =>
      obtain ⟨si, sk⟩ := stv
      simp at hst
      subst hst
      refine wpAny_getItem_str_slice (l := none) (u := none) (st := some (-1, sk)) ⟨_, Heap.get?_push_size _ rfl, rfl, rfl⟩ rfl ?_
      have e1 : Builtin.Str.strSliceIndices none none (-1) z.length = (List.range z.length).map fun k => z.length - 1 - k := PyProof.Rows.picked_rev z.length
      have e2 : ((List.range z.length).map fun k => z.length - 1 - k).filterMap (fun i => z.cps[i]?) = z.cps.toList.reverse := by
        have ez : z.length = z.cps.size := rfl
        rw [ez, PySem.W.krv_range, List.filterMap_reverse, PySem.W.krv_all]
      show Made.post (if ((-1 : Int) == 1 && (Builtin.Str.strSliceIndices none none (-1) z.length).length == z.length) = true then Made.val (.str z t)
        else Made.str ⟨((Builtin.Str.strSliceIndices none none (-1) z.length).filterMap (z.cps[·]?)).toArray⟩) (EP X pins σ Q) _
      rw [if_neg (by intro q; rw [Bool.and_eq_true] at q; exact absurd q.1 (by decide)), e1, e2]
      refine ⟨?_, .str _, H4, I5.tok _, ⟨_, rfl⟩, q⟩
      show z.cps.toList.reverse.toArray.size ≤ sizeLine
      rw [List.size_toArray, List.length_reverse, Array.length_toList]
      exact hz
variable {e : Expr} {f : XE}
/-- turned about -/
def revD (M : Mem) (d : D) : Option D := match asL M d with
  | some ds => some (.lst ds.reverse)
  | none => match asT d with
    | some ds => some (.tup ds.reverse)
    | none => (asS d).bind fun s => if s.length ≤ sizeLine then some (.str (revS s)) else none
def xRev (f : XE) : XE := fun η M => (f η M).bind fun d M1 => R.of (revD M1 d) M1
theorem de_rev {k : Nat} {p1 p2 p3 pos : Pos} (he : DE X W e f) : DE X W (.Subscript e (.Slice none none (some (.UnaryOp .USub (.Constant (.int 1) k p1) p2)) p3) pos) (xRev f) := PE.imp (pe_revA he) fun σ H Q z => by
  obtain ⟨η, F, B, ρ, M, er, m, w⟩ := z
  refine ⟨η, F, B, ρ, M, er, m, w.bind fun d M1 B1 ρ1 H1 l1 m1 w1 v rv => ?_⟩
  obtain ⟨dz, hz, w2⟩ := w1.of
  unfold revD at hz
  split at hz
  · next ds hd =>
    obtain rfl := Option.some.inj hz
    obtain ⟨a, vs, rfl, hs, rs⟩ := asL_snd m1 rv hd
    exact .inl ⟨a, vs, rfl, hs, (done_of w2).newL m1 rs.rev⟩
  · split at hz
    · next ds hd =>
      obtain rfl := Option.some.inj hz
      obtain ⟨a, vs, rfl, hs, rs⟩ := asT_snd m1 rv hd
      exact .inr (.inl ⟨a, vs, rfl, hs, (done_of w2).newT m1 rs.rev⟩)
    · cases hs : asS d with
      | none => simp [hs] at hz
      | some s =>
        simp only [hs, Option.bind_some] at hz
        split at hz
        · next hl =>
          obtain rfl := Option.some.inj hz
          exact .inr (.inr ⟨s, asS_snd rv hs, hl, (done_of w2).same m1 (.str _)⟩)
        · cases hz
end
end Dn

namespace Dn
open PySem PyProof.Rows L2 Evl
/-! ### a def -/
abbrev Fn := List D → Mem → R D
def toVal : Fl → Mem → R D := fun fl M => match fl with
  | .rt d => .ok d M
  | .nx _ => .ok .non M
  | _ => .no
/-- n parameters, N slots -/
def callB (n N : Nat) (body : XS) : Fn := fun ds M => if ds.length = n then (body (ds.map some ++ List.replicate (N - n) none) M).bind toVal else .no
/-- the promise: it does what f says -/
def spF (K : PySem.W.Frag) (mg : Str → Option Value) (n : Nat) (f : Fn) : Sp := fun vs H Q E => ∃ ds F B ρ M, ds.length = n ∧ Rps K B ρ ds vs ∧ MR K F B ρ M H ∧ Wp K mg F B ρ E (fun d B' ρ' H' => ∀ v, Rp K B' ρ' d v → Q v H') (f ds M)
theorem er_start {K : PySem.W.Frag} {B : Hp} {ρ : List Addr} {N : List Str} {ds : List D} {vs : List V} (r : Rps K B ρ ds vs) : ER K B ρ (ds.map some ++ List.replicate (N.length - ds.length) none) (L2.start N vs) := by
  have hl := r.len
  refine ⟨by simp [L2.start, hl], fun i d h => ?_⟩
  by_cases hi : i < ds.length
  · rw [List.getElem?_append_left (by simpa using hi), List.getElem?_map] at h
    cases hd : ds[i]? with
    | none => rw [hd] at h; cases h
    | some d' =>
      rw [hd] at h
      simp at h
      subst h
      obtain ⟨v, h1, h2⟩ := r.get hd
      refine ⟨v, ?_, h2⟩
      unfold L2.start
      rw [List.getElem?_append_left (by simp; omega), List.getElem?_map, h1]
      rfl
  · rw [List.getElem?_append_right (by simpa using hi)] at h
    rw [List.getElem?_replicate] at h
    split at h <;> cases h
section
variable {P : Program} {w : World} {K : PySem.W.Frag} {mg : Str → Option Value} {base : Heap}
theorem fn_ok {x qual : Str} {st : Stmt} {f : Addr} {fd : FuncData} {N ps : List Str} {k : Nat} {body : XS} (F : Fun K x qual st f fd) (S : FnScope N ps (defScope st))
    (hb : ∀ (cdv : Value) (A : Around) (outer : List Env) (s : Shared) (H : Hp) (E W : XK), Room k (A.deeper (envOfC qual (defScope st) s.heap.objs.size f cdv)) → DSs (cxOf CX0 P w K mg base N qual (defScope st) f cdv A outer s H E).nox W (defBody st) body) :
    FnOk P w K mg base CX0 (k + 1) f fd ps (spF K mg ps.length (callB ps.length N.length body)) := by
  refine F.ok S (fun vs H Q E h => ?_) (fun cdv A outer s H vs Q E hr h => ?_)
  · obtain ⟨ds, _, _, _, _, hl, r, _⟩ := h
    rw [← r.len]
    exact hl
  · obtain ⟨ds, Fr, B, ρ, M, hl, r, m, wp⟩ := h
    refine ⟨_, hb cdv A outer s H E E hr, ?_⟩
    have e := er_start (N := N) r
    rw [hl] at e
    refine ⟨_, Fr, B, ρ, M, e, m, ?_⟩
    unfold callB at wp
    rw [if_pos hl] at wp
    exact wp.bind fun fl M1 B1 ρ1 H1 l1 m1 w1 => by
      cases fl with
      | nx η' => exact fun σ' _ => Wp.ret w1 m1 _ .non
      | rt d => exact fun v rv => Wp.ret w1 m1 v rv
      | bk η' => exact w1.elim
      | ct η' => exact w1.elim
end
/-- a def of the module, by its name: it keeps its promise -/
structure FnD (P : Program) (w : World) (K : PySem.W.Frag) (mg : Str → Option Value) (base : Heap) (k : Nat) (x : Str) (n : Nat) (f : Fn) : Prop where
  ex : ∃ (a : Addr) (fd : FuncData) (ps : List Str), FnOk P w K mg base CX0 k a fd ps (spF K mg n f) ∧ mg x = some (.ref a) ∧ PySem.W.keepIn K (.ref a) = true ∧ Binds K fd ps []
/-- the same, called with keywords ks behind n values; g puts them in the parameters' order -/
structure FnK (P : Program) (w : World) (K : PySem.W.Frag) (mg : Str → Option Value) (base : Heap) (k : Nat) (x : Str) (n : Nat) (ks : List Str) (g : {α : Type} → List α → List α → List α) (f : Fn) : Prop where
  ex : ∃ (a : Addr) (fd : FuncData) (ps : List Str), FnOk P w K mg base CX0 k a fd ps (spF K mg ps.length f) ∧ mg x = some (.ref a) ∧ PySem.W.keepIn K (.ref a) = true ∧ KBn K fd ps n ks (fun us ws => g us ws) (fun vs zs => g vs zs)
section
variable {X : Cx} {W : XK} {a b c e o : Expr} {es : List Expr} {fa fk : XA} {pos : Pos}
theorem passW {W : XK} : Passes CX0 X W := fun _ _ _ _ _ _ _ h => h.elim
def xFn (n : Nat) (f : Fn) (fa : XA) : XE := fun η M => (fa η M).bind fun ds M1 => if ds.length = n then f ds M1 else .no
theorem de_call {k n : Nat} {x : Str} {f : Fn} {p0 : Pos} (G : FnD X.prog X.w X.K X.mg X.base k x n f) (hr : Room k X.A) (hg : Gl X x) (ha : DA X W (e :: es) fa) (hdb : (x == ("__debug__" : Str)) = false := by decide)
    (he : starEach (e :: es) X.env = (false, eval e X.env) :: starEach es X.env := by rfl) (hpl : (backTo pos (starEach es X.env)).any (·.1) = false := by rfl) : DE X W (.Call (.Name x p0) (e :: es) [] pos) (xFn n f fa) := by
  obtain ⟨ad, fd, ps, F, hm, hk, hb⟩ := G.ex
  refine PE.imp (pe_call (E := W) F hr hg hm hk hb .nil passW ha hdb he hpl) fun σ H Q z => ?_
  obtain ⟨η, Fr, B, ρ, M, er, m, w⟩ := z
  refine ⟨η, Fr, B, ρ, M, er, m, w.bind fun ds M1 B1 ρ1 H1 l1 m1 w1 vs rv => ?_⟩
  split at w1
  · next hl =>
    rw [List.append_nil]
    exact ⟨ds, Fr, B1, ρ1, M1, hl, rv, m1, w1⟩
  · exact w1.elim
/-! keywords -/
structure PKD (X : Cx) (W : XK) (kws : List Keyword) (f : XA) : Prop where
  pk : PK X kws (tA X.K X.mg W f)
theorem PK.imp {kws : List Keyword} {t t' : TA} (h : PK X kws t) (i : ∀ σ H Q, t' σ H Q → t σ H Q) : PK X kws t' := ⟨fun pos pins s σ H Q I q => h.run pos pins s σ H Q I (i σ H Q q)⟩
theorem dk_nil : PKD X W [] xNil := ⟨PK.imp pk_nil fun σ H Q z => by
  obtain ⟨η, F, B, ρ, M, e, m, w⟩ := z
  exact Wp.ret w m [] .nil⟩
theorem dk_cons {nm : Option Str} {kpos : Pos} {kws : List Keyword} {f : XE} {g : XA} (ha : DE X W e f) (hr : PKD X W kws g) : PKD X W (⟨nm, e, kpos⟩ :: kws) (xCons f g) := ⟨PK.imp (pk_cons ha hr.pk) fun σ H Q z => by
    obtain ⟨η, F, B, ρ, M, er, m, w⟩ := z
    refine ⟨η, F, B, ρ, M, er, m, w.bind fun d M1 B1 ρ1 H1 l1 m1 w1 x rx => ?_⟩
    exact ⟨η, F, B1, ρ1, M1, er.mono l1, m1, w1.bind fun ds M2 B2 ρ2 H2 l2 m2 w2 xs rxs => Wp.ret w2 m2 _ (.cons (rx.mono l2) rxs)⟩⟩
def xFnK (n k m : Nat) (g : {α : Type} → List α → List α → List α) (f : Fn) (fa fk : XA) : XE := fun η M => (fa η M).bind fun ds M1 => (fk η M1).bind fun es M2 => if ds.length = n ∧ es.length = k ∧ (g ds es).length = m then f (g ds es) M2 else .no
theorem rps_app_all {K : PySem.W.Frag} {B : Hp} {ρ : List Addr} {ds es : List D} {vs us : List V} (r : Rps K B ρ ds vs) (r' : Rps K B ρ es us) : Rps K B ρ (ds ++ es) (vs ++ us) := r.app r'
end
/-! ### sorted of texts -/
def leS (a b : Str) : Bool := !PySem.Spec.ltCps b.cps.toList a.cps.toList
def srt (l : List Str) : List Str := l.mergeSort leS
theorem ltCps_irr : ∀ a : List Nat, PySem.Spec.ltCps a a = false
  | [] => rfl
  | a :: r => by simp [PySem.Spec.ltCps, ltCps_irr r]
theorem ltCps_anti : ∀ a b : List Nat, PySem.Spec.ltCps a b = false → PySem.Spec.ltCps b a = false → a = b
  | [], [], _, _ => rfl
  | [], _ :: _, h, _ => by simp [PySem.Spec.ltCps] at h
  | _ :: _, [], _, h => by simp [PySem.Spec.ltCps] at h
  | a :: r, b :: t, h1, h2 => by
    simp [PySem.Spec.ltCps] at h1 h2
    have e : a = b := by omega
    subst e
    rw [ltCps_anti r t (h1.2 rfl) (h2.2 rfl)]
theorem ltCps_asymm : ∀ a b : List Nat, PySem.Spec.ltCps a b = true → PySem.Spec.ltCps b a = false
  | [], [], h => by simp [PySem.Spec.ltCps] at h
  | [], _ :: _, _ => rfl
  | _ :: _, [], h => by simp [PySem.Spec.ltCps] at h
  | a :: r, b :: t, h => by
    simp [PySem.Spec.ltCps] at h ⊢
    rcases h with h | ⟨e, h⟩
    · exact ⟨by omega, fun z => by omega⟩
    · subst e
      exact ⟨by omega, fun _ => ltCps_asymm r t h⟩
theorem ltCps_trans : ∀ a b c : List Nat, PySem.Spec.ltCps b a = false → PySem.Spec.ltCps c b = false → PySem.Spec.ltCps c a = false
  | [], _, [], _, _ => rfl
  | [], [], _ :: _, _, _ => rfl
  | [], _ :: _, _ :: _, _, _ => rfl
  | _ :: _, [], _, h, _ => by simp [PySem.Spec.ltCps] at h
  | _ :: _, _ :: _, [], _, h => by simp [PySem.Spec.ltCps] at h
  | a :: r, b :: t, c :: u, h1, h2 => by
    simp [PySem.Spec.ltCps] at h1 h2 ⊢
    refine ⟨by omega, fun e => ?_⟩
    have e1 : b = a := by omega
    have e2 : c = b := by omega
    exact ltCps_trans r t u (h1.2 e1) (h2.2 e2)
theorem leS_trans (a b c : Str) (h1 : leS a b = true) (h2 : leS b c = true) : leS a c = true := by
  unfold leS at *
  simp at *
  exact ltCps_trans _ _ _ h1 h2
theorem leS_total (a b : Str) : (leS a b || leS b a) = true := by
  unfold leS
  cases h : PySem.Spec.ltCps b.cps.toList a.cps.toList with
  | false => rfl
  | true => rw [ltCps_asymm _ _ h]; rfl
theorem leS_anti (a b : Str) (h1 : leS a b = true) (h2 : leS b a = true) : a = b := by
  unfold leS at *
  simp at *
  have := ltCps_anti _ _ h1 h2
  cases a; cases b
  simp at this
  rw [this]
theorem srt_uniq : ∀ (ys zs : List Str), ys.Perm zs → ys.Pairwise (fun a b => leS a b = true) → zs.Pairwise (fun a b => leS a b = true) → ys = zs
  | [], zs, p, _, _ => (List.nil_perm.mp p).symm
  | y :: ys, [], p, _, _ => by simpa using p.length_eq
  | y :: ys, z :: zs, p, h1, h2 => by
    have a1 := List.pairwise_cons.mp h1
    have a2 := List.pairwise_cons.mp h2
    have e : y = z := by
      have m1 : y ∈ z :: zs := p.subset (List.mem_cons_self ..)
      have m2 : z ∈ y :: ys := p.symm.subset (List.mem_cons_self ..)
      rcases List.mem_cons.mp m1 with e | m1
      · exact e
      · rcases List.mem_cons.mp m2 with e | m2
        · exact e.symm
        · exact leS_anti _ _ (a1.1 z m2) (a2.1 y m1)
    subst e
    rw [srt_uniq ys zs (List.Perm.cons_inv p) a1.2 a2.2]
theorem risingS_pw : ∀ (p : Str) (l : List Str), PyProof.Rows.risingS p l = true → (p :: l).Pairwise (fun a b => leS a b = true)
  | p, [], _ => by simp
  | p, x :: r, h => by
    unfold PyProof.Rows.risingS at h
    rw [Bool.and_eq_true] at h
    have ih := risingS_pw x r h.2
    refine List.pairwise_cons.mpr ⟨fun q hq => ?_, ih⟩
    have hpx : leS p x = true := h.1
    rcases List.mem_cons.mp hq with e | hq
    · rw [e]; exact hpx
    · exact leS_trans _ _ _ hpx ((List.pairwise_cons.mp ih).1 q hq)
theorem sorted_is {ys xs : List Str} (p : ys.Perm xs) (h : PyProof.Rows.sortedS ys = true) : ys = srt xs := by
  refine srt_uniq _ _ (p.trans (List.mergeSort_perm xs leS).symm) ?_ (List.pairwise_mergeSort (le := leS) leS_trans leS_total xs)
  cases ys with
  | nil => simp
  | cons y ys => exact risingS_pw y ys h
section
variable {X : Cx} {W : XK}
def bSorted : OpC := one fun M d => (asL M d).bind fun ds => (asSs ds).bind fun ss => if ss.length < 64 then some (.lst ((srt ss).map D.str)) else none
theorem cd_sorted : CallD X (.builtin "sorted") bSorted := by
  refine ⟨_, cr_sortedS, fun F B ρ M H xs ds dz Q m rx e k => ?_⟩
  obtain ⟨d, rfl, h⟩ := one_some e
  cases rx with
  | cons r rr =>
    cases rr
    cases h1 : asL M d with
    | none => simp [h1] at h
    | some es =>
      cases h2 : asSs es with
      | none => simp [h1, h2] at h
      | some ss =>
        simp only [h1, h2, Option.bind_some] at h
        split at h
        · next hl =>
          obtain rfl := Option.some.inj h
          obtain ⟨a, vs, rfl, hs, rs⟩ := asL_snd m r h1
          have := asSs_snd rs h2
          subst this
          refine ⟨a, ss, rfl, hs, hl, fun ys p pm so hp => ?_⟩
          rw [sorted_is pm so]
          exact k.newL m (rps_strs _) p hp
        · cases h
/-! ### methods of texts -/
variable {o e : Expr} {f g : XE} {apos pos : Pos}
def xJoin (f g : XE) : XE := fun η M => (f η M).bind fun s M1 => (R.of (asS s) M1).bind fun z M2 => (g η M2).bind fun d M3 => R.of ((match asL M3 d with | some ds => some ds | none => asT d).bind fun ds => (asSs ds).bind fun ss =>
  if (ss.map fun (q : Str) => q.length).sum + ss.length * z.length ≤ 16777216 then some (.str (Txt.join z ss)) else none) M3
theorem de_join (ho : DE X W o f) (he : DE X W e g) (hs : starEach [e] X.env = [(false, eval e X.env)] := by rfl) (hbase : attributeBase o "join" X.env (eval o X.env) = eval o X.env := by rfl) (hline : (apos.endLine == pos.line) = true := by rfl) :
    DE X W (.Call (.Attribute o "join" apos) [e] [] pos) (xJoin f g) := PE.imp (pe_join ho he hs hbase hline) fun σ H Q z => by
  obtain ⟨η, F, B, ρ, M, er, m, w⟩ := z
  refine ⟨η, F, B, ρ, M, er, m, w.bind fun d M1 B1 ρ1 H1 l1 m1 w1 v rv => ?_⟩
  cases hz : asS d with
  | none => rw [hz] at w1; exact w1.elim
  | some z =>
    rw [hz] at w1
    have w1 : Wp X.K X.mg F B1 ρ1 W _ ((g η M1).bind _) := w1
    have ev := asS_snd rv hz
    subst ev
    refine ⟨⟨z, rfl⟩, η, F, B1, ρ1, M1, er.mono l1, m1, w1.bind fun c M2 B2 ρ2 H2 l2 m2 w2 u ru => ?_⟩
    obtain ⟨dz, hd, w3⟩ := w2.of
    cases h1 : (match asL M2 c with | some ds => some ds | none => asT c) with
    | none => simp [h1] at hd
    | some ds =>
      simp only [h1, Option.bind_some] at hd
      cases h2 : asSs ds with
      | none => simp [h2] at hd
      | some ss =>
        simp only [h2, Option.bind_some] at hd
        split at hd
        · next hl =>
          obtain rfl := Option.some.inj hd
          cases h3 : asL M2 c with
          | some es =>
            simp only [h3, Option.some.injEq] at h1
            subst h1
            obtain ⟨a, vs, rfl, hs, rs⟩ := asL_snd m2 ru h3
            have := asSs_snd rs h2
            subst this
            exact ⟨z, a, ss, rfl, rfl, .inl hs, hl, (done_of w3).same m2 (.str _)⟩
          | none =>
            simp only [h3] at h1
            obtain ⟨a, vs, rfl, hs, rs⟩ := asT_snd m2 ru h1
            have := asSs_snd rs h2
            subst this
            exact ⟨z, a, ss, rfl, rfl, .inr hs, hl, (done_of w3).same m2 (.str _)⟩
        · cases hd
def xUpper (f : XE) : XE := fun η M => (f η M).bind fun s M1 => (R.of (asS s) M1).bind fun z M2 => if z.length ≤ 5592405 then .ok (.str (Txt.upper z)) M2 else .no
theorem de_upper (ho : DE X W o f) (hbase : attributeBase o "upper" X.env (eval o X.env) = eval o X.env := by rfl) (hline : (apos.endLine == pos.line) = true := by rfl) :
    DE X W (.Call (.Attribute o "upper" apos) [] [] pos) (xUpper f) := PE.imp (pe_upper ho hbase hline) fun σ H Q z => by
  obtain ⟨η, F, B, ρ, M, er, m, w⟩ := z
  refine ⟨η, F, B, ρ, M, er, m, w.bind fun d M1 B1 ρ1 H1 l1 m1 w1 v rv => ?_⟩
  cases hz : asS d with
  | none => rw [hz] at w1; exact w1.elim
  | some z =>
    rw [hz] at w1
    have w1 : Wp X.K X.mg F B1 ρ1 W _ (if z.length ≤ 5592405 then R.ok (D.str (Txt.upper z)) M1 else .no) := w1
    split at w1
    · next hl =>
      have ev := asS_snd rv hz
      subst ev
      exact ⟨⟨z, rfl⟩, z, rfl, rfl, hl, (done_of w1).same m1 (.str _)⟩
    · exact w1.elim
/-! ### - of ints; dicts displayed -/
def xNeg (f : XE) : XE := fun η M => (f η M).bind fun d M1 => R.of ((asI d).map fun i => .int (-i)) M1
theorem de_neg (ha : DE X W e f) : DE X W (.UnaryOp .USub e pos) (xNeg f) := PE.imp (pe_un un_neg ha) fun σ H Q z => by
  obtain ⟨η, F, B, ρ, M, er, m, w⟩ := z
  refine ⟨η, F, B, ρ, M, er, m, w.bind fun d M1 B1 ρ1 H1 l1 m1 w1 v rv => ?_⟩
  cases hz : asI d with
  | none => rw [hz] at w1; exact w1.elim
  | some i =>
    rw [hz] at w1
    exact ⟨i, asI_snd rv hz, (done_of w1).same m1 (.int _)⟩
/-- {} that stays -/
def xDict0 : XE := fun _ M => .ok (.dct []) M
theorem de_dict0 : DE X W (.Dict [] [] pos) xDict0 := PE.imp pe_dnewK fun σ H Q z => by
  obtain ⟨η, F, B, ρ, M, er, m, w⟩ := z
  exact (done_of w).new m fun p hp => .dct upd_same .nil
def keyD : D → Option Key
  | .int i => some (.inl i)
  | .str s => some (.inr s)
  | _ => none
theorem keyD_snd {K : PySem.W.Frag} {B : Hp} {ρ : List Addr} {d : D} {v : V} {k : Key} (r : Rp K B ρ d v) (h : keyD d = some k) : v = kV k := by
  cases r with
  | int i => cases h; rfl
  | str s => cases h; rfl
  | _ => cases h
/-- {k: v} that stays -/
def xDict1 (f g : XE) : XE := fun η M => (f η M).bind fun x M1 => (g η M1).bind fun y M2 => R.of ((keyD x).map fun k => .dct [(k, y)]) M2
theorem de_dict1 {k v : Expr} (hk : DE X W k f) (hv : DE X W v g) : DE X W (.Dict [some k] [v] pos) (xDict1 f g) := PE.imp (pe_disp (pps_cons hk hv pps_nil) rfl rfl (fun z => by cases z) (by simp)) fun σ H Q z => by
  obtain ⟨η, F, B, ρ, M, er, m, w⟩ := z
  intro p hp
  have hF : F p = none := fresh_back m.fr hp
  have m0 : MR X.K (upd F p (.dK [])) B ρ M (upd H p (.dK [])) := add_frame (m.more (Ex.new hp)) upd_same (fresh_back m.ex hp) (m.notin hp)
  cases h1 : f η M with
  | no => simp only [xDict1, h1, R.bind_no] at w; exact w.elim
  | ex e1 M1 =>
    simp only [xDict1, h1, R.bind_ex] at w
    refine ⟨η, _, B, ρ, M, er, m0, ?_⟩
    rw [h1]
    intro c dx B' ρ' H' l mm xr
    have m2 : MR X.K F B' ρ' M1 H' := by
      refine ⟨mm.ex, fun a o e => mm.fr a o ?_, fun a o e => mm.dj a o ?_, mm.len, mm.nd, mm.ob⟩
      · rw [upd_ne (ne_of_none e hF)]; exact e
      · rw [upd_ne (ne_of_none e hF)]; exact e
    exact w c dx B' ρ' H' l m2 xr
  | ok x M1 =>
    simp only [xDict1, h1, R.bind_ok] at w
    refine ⟨η, _, B, ρ, M, er, m0, ?_⟩
    rw [h1]
    intro B1 ρ1 H1 l1 m1 v1 r1
    cases h2 : g η M1 with
    | no => simp only [h2, R.bind_no] at w; exact w.elim
    | ex e1 M2 =>
      simp only [h2, R.bind_ex] at w
      refine ⟨η, _, B1, ρ1, M1, er.mono l1, m1, ?_⟩
      rw [h2]
      intro c dx B' ρ' H' l mm xr
      have m2 : MR X.K F B' ρ' M2 H' := by
        refine ⟨mm.ex, fun a o e => mm.fr a o ?_, fun a o e => mm.dj a o ?_, mm.len, mm.nd, mm.ob⟩
        · rw [upd_ne (ne_of_none e hF)]; exact e
        · rw [upd_ne (ne_of_none e hF)]; exact e
      exact w c dx B' ρ' H' (l1.trans l) m2 xr
    | ok y M2 =>
      simp only [h2, R.bind_ok] at w
      obtain ⟨dz, hz, w2⟩ := w.of
      cases hk : keyD x with
      | none => simp [hk] at hz
      | some kk =>
        simp [hk] at hz
        subst hz
        refine ⟨η, _, B1, ρ1, M1, er.mono l1, m1, ?_⟩
        rw [h2]
        intro B2 ρ2 H2 l2 m2 v2 r2
        refine ⟨m2.fr p _ upd_same, [(kk, v2)], ?_, by simp, ?_⟩
        · rw [keyD_snd r1 hk]; rfl
        · have e0 : mergeK [] [(kk, v2)] = [(kk, v2)] := rfl
          rw [e0]
          obtain ⟨hB, hρ⟩ := m2.dj p _ upd_same
          obtain ⟨m3, _, _⟩ := drop_frame m2 hF (.dK [(kk, v2)])
          -- the dict is now one that stays
          have l3 : Le B2 ρ2 (upd B2 p (.dK [(kk, v2)])) ρ2 := ⟨Ex.new hB, [], by simp⟩
          have m4 : MR X.K F (upd B2 p (.dK [(kk, v2)])) ρ2 M2 (upd H2 p (.dK [(kk, v2)])) := by
            refine ⟨fun a o e => ?_, m3.fr, fun a o e => ⟨?_, (m3.dj a o e).2⟩, m3.len, m3.nd, fun n ob h => ?_⟩
            · by_cases q : a = p
              · subst q; rw [upd_same] at e ⊢; exact e
              · rw [upd_ne q] at e; exact m3.ex a o e
            · rw [upd_ne (ne_of_none e hF)]; exact (m3.dj a o e).1
            · obtain ⟨a, ha, hb, r⟩ := m3.ob n ob h
              have na : a ≠ p := fun z => hρ (z ▸ List.mem_of_getElem? ha)
              exact ⟨a, ha, fun z => by rw [upd_ne na]; exact hb z, r.mono l3 fun _ q => q⟩
          exact w2 _ _ _ ((l1.trans l2).trans l3) m4 _ (.dct upd_same (.cons (r2.mono l3) .nil))
/-! ### keywords of a call -/
variable {es : List Expr} {fa fk : XA}
/-- the values in the order of the parameters: positions of the keywords' values behind the others -/
theorem de_callK {k n m : Nat} {x : Str} {ks : List Str} {kws : List Keyword} {fn : Fn} {p0 : Pos} {ad : Addr} {fd : FuncData} {ps : List Str} {g : List Value → List Value → List Value} {gV : List V → List V → List V} {gD : List D → List D → List D}
    (Fo : FnOk X.prog X.w X.K X.mg X.base CX0 k ad fd ps (spF X.K X.mg m fn)) (hm : X.mg x = some (.ref ad)) (hk : PySem.W.keepIn X.K (.ref ad) = true) (hb : KBn X.K fd ps n ks g gV)
    (hrel : ∀ {B : Hp} {ρ : List Addr} {ds es : List D} {vs us : List V}, Rps X.K B ρ ds vs → Rps X.K B ρ es us → ds.length = n → es.length = ks.length → Rps X.K B ρ (gD ds es) (gV vs us) ∧ (gD ds es).length = m)
    (hr : Room k X.A) (hg : Gl X x) (ha : DA X W (e :: es) fa) (hkw : PKD X W kws fk) (hall : (backToKw pos (keywordEach kws X.env)).all (·.1.isSome) = true := by rfl) (hks : (backToKw pos (keywordEach kws X.env)).filterMap (·.1) = ks := by rfl)
    (hdb : (x == ("__debug__" : Str)) = false := by decide) (he : starEach (e :: es) X.env = (false, eval e X.env) :: starEach es X.env := by rfl)
    (hpl : ((backTo pos (starEach (e :: es) X.env)).any (·.1) || (backToKw pos (keywordEach kws X.env)).any (·.1.isNone)) = false := by rfl) :
    DE X W (.Call (.Name x p0) (e :: es) kws pos) (fun η M => (fa η M).bind fun ds M1 => (fk η M1).bind fun cs M2 => if ds.length = n ∧ cs.length = ks.length then fn (gD ds cs) M2 else .no) := by
  refine PE.imp (pe_callN (E := W) Fo hr hg hm hk hb passW ha hkw.pk hall hks hdb he hpl) fun σ H Q z => ?_
  obtain ⟨η, Fr, B, ρ, M, er, m0, w⟩ := z
  refine ⟨η, Fr, B, ρ, M, er, m0, w.bind fun ds M1 B1 ρ1 H1 l1 m1 w1 vs rv => ?_⟩
  refine ⟨η, Fr, B1, ρ1, M1, er.mono l1, m1, w1.bind fun cs M2 B2 ρ2 H2 l2 m2 w2 us ru => ?_⟩
  split at w2
  · next hl =>
    have rv2 := rv.mono l2
    obtain ⟨hR, hL⟩ := hrel rv2 ru hl.1 hl.2
    exact ⟨by rw [← rv2.len]; exact hl.1, by rw [← ru.len]; exact hl.2, _, Fr, B2, ρ2, M2, hL, hR, m2, w2⟩
  · exact w2.elim
end
end Dn
namespace Dn
open PySem PyProof.Rows L2 Evl
/-! ### truth of any thing -/
def truD (M : Mem) (d : D) : Option Bool := match d with
  | .bl b => some b
  | .non => some false
  | .int i => some (i != 0)
  | .str s => if s.length ≤ sizeLine then some ((s.length : Int) != 0) else none
  | _ => match asL M d with
    | some ds => some (!ds.isEmpty)
    | none => (asT d).map fun ds => !ds.isEmpty
theorem emp_rel {K : PySem.W.Frag} {B : Hp} {ρ : List Addr} {ds : List D} {vs : List V} (r : Rps K B ρ ds vs) : (!vs.isEmpty) = !ds.isEmpty := by
  cases r <;> rfl
theorem truD_snd {K : PySem.W.Frag} {F B H : Hp} {ρ : List Addr} {M : Mem} (m : MR K F B ρ M H) {d : D} {v : V} {b : Bool} (r : Rp K B ρ d v) (h : truD M d = some b) : TruV K v H b := by
  have gen : (match asL M d with | some ds => some (!ds.isEmpty) | none => (asT d).map fun ds => !ds.isEmpty) = some b → TruV K v H b := by
    intro h
    split at h
    · next ds hd =>
      obtain ⟨a, vs, rfl, hs, rs⟩ := asL_snd m r hd
      obtain rfl := Option.some.inj h
      exact .inl ⟨vs, hs, (emp_rel rs).symm⟩
    · cases hd : asT d with
      | none => simp [hd] at h
      | some ds =>
        simp only [hd, Option.map_some] at h
        obtain ⟨a, vs, rfl, hs, rs⟩ := asT_snd m r hd
        obtain rfl := Option.some.inj h
        exact .inr (.inl ⟨vs, hs, (emp_rel rs).symm⟩)
  cases d with
  | bl c => cases r; obtain rfl := Option.some.inj h; exact rfl
  | non => cases r; obtain rfl := Option.some.inj h; exact rfl
  | int i => cases r; obtain rfl := Option.some.inj h; exact rfl
  | str s =>
    cases r
    have h : (if s.length ≤ sizeLine then some ((s.length : Int) != 0) else none) = some b := h
    split at h
    · next hz => obtain rfl := Option.some.inj h; exact ⟨hz, rfl⟩
    · cases h
  | lst ds => exact gen h
  | tup ds => exact gen h
  | dct ds => exact gen h
  | scr ds => exact gen h
  | ptr n => exact gen h
  | raw u => exact gen h
section
variable {X : Cx} {W : XK} {a : Expr} {f : XE}
def xTru (f : XE) : XT := fun η M => (f η M).bind fun d M1 => R.of (truD M1 d) M1
theorem dt_tru (ha : DE X W a f) (he : ∀ whole, isTrue a X.env whole = (do let v ← whole; standAt a.pos; holding [v] (truthy v)) := by intro _; rfl) : DT X W a (xTru f) :=
  PT.imp (pt_truth ha he) fun σ H Q z => by
    obtain ⟨η, F, B, ρ, M, er, m, w⟩ := z
    refine ⟨η, F, B, ρ, M, er, m, w.bind fun d M1 B1 ρ1 H1 l1 m1 w1 v rv => ?_⟩
    obtain ⟨b, hb, w2⟩ := w1.of
    exact ⟨b, truD_snd m1 rv hb, Wp.ret (P := fun b _ _ H' => Q b H') w2 m1⟩
theorem de_gl {x : Str} {v : V} {pos : Pos} (h : ∃ u, X.mg x = some u ∧ RelV v u) (hg : Gl X x) (hd : (x == ("__debug__" : Str)) = false := by decide) : DE X W (.Name x pos) (xC (dOf v)) := by
  obtain ⟨u, hm, r⟩ := h
  exact de_glob hg hm r hd
end
/-! ### == of data -/
mutual
def toP : D → Option PyData
  | .non => some .none
  | .bl b => some (.bool b)
  | .int i => some (.int i)
  | .str s => some (.str s)
  | .lst ds => (toPs ds).map PyData.list
  | .tup ds => (toPs ds).map PyData.tuple
  | _ => none
def toPs : List D → Option (List PyData)
  | [] => some []
  | d :: ds => (toP d).bind fun p => (toPs ds).map (p :: ·)
end
section
variable {K : PySem.W.Frag} {B H : Hp} {ρ : List Addr}
mutual
theorem toP_snd (ex : Ex B H) : ∀ {d : D} {v : V} {p : PyData}, Rp K B ρ d v → toP d = some p → Dp K H v p
  | _, _, _, .non, h => by unfold toP at h; cases h; exact .non
  | _, _, _, .bl b, h => by unfold toP at h; cases h; exact .bl b
  | _, _, _, .int i, h => by unfold toP at h; cases h; exact .int i
  | _, _, _, .str s, h => by unfold toP at h; cases h; exact .str s
  | _, _, _, .lst (ds := ds) e r, h => by
    unfold toP at h
    cases hp : toPs ds with
    | none => simp [hp] at h
    | some ps =>
      simp [hp] at h
      subst h
      exact .lst (sq_of (ex _ _ e)) (toPs_snd ex r hp)
  | _, _, _, .tup (ds := ds) e r, h => by
    unfold toP at h
    cases hp : toPs ds with
    | none => simp [hp] at h
    | some ps =>
      simp [hp] at h
      subst h
      exact .tup (ex_t ex e) (toPs_snd ex r hp)
  | _, _, _, .dct _ _, h => by unfold toP at h; cases h
  | _, _, _, .scr _, h => by unfold toP at h; cases h
  | _, _, _, .ptr _, h => by unfold toP at h; cases h
  | _, _, _, .raw _, h => by unfold toP at h; cases h
theorem toPs_snd (ex : Ex B H) : ∀ {ds : List D} {vs : List V} {ps : List PyData}, Rps K B ρ ds vs → toPs ds = some ps → DpAll K H vs ps
  | _, _, _, .nil, h => by unfold toPs at h; cases h; exact .nil
  | _, _, _, .cons (d := d) (ds := ds) r rs, h => by
    unfold toPs at h
    cases hp : toP d with
    | none => simp [hp] at h
    | some p =>
      cases hq : toPs ds with
      | none => simp [hp, hq] at h
      | some ps =>
        simp [hp, hq] at h
        subst h
        exact .cons (toP_snd ex r hp) (toPs_snd ex rs hq)
end
end
def eqP (neg : Bool) : Op2 := fun _ x y => (toP x).bind fun p => (toP y).bind fun q => if SeqAt.shaped p = true ∧ SeqAt.shaped q = true then some (.bl (if neg then !PyData.eqv p q else PyData.eqv p q)) else none
theorem eqP_some {neg : Bool} {M : Mem} {x y z : D} (h : eqP neg M x y = some z) : ∃ p q, toP x = some p ∧ toP y = some q ∧ SeqAt.shaped p = true ∧ SeqAt.shaped q = true ∧ z = .bl (if neg then !PyData.eqv p q else PyData.eqv p q) := by
  unfold eqP at h
  cases h1 : toP x with
  | none => simp [h1] at h
  | some p =>
    cases h2 : toP y with
    | none => simp [h1, h2] at h
    | some q =>
      simp only [h1, h2, Option.bind_some] at h
      split at h
      · next hs => exact ⟨p, q, rfl, rfl, hs.1, hs.2, (Option.some.inj h).symm⟩
      · cases h
theorem od_eq {X : Cx} {k : Nat} (hr : Room k X.A) : OpD X (compareOp .Eq) (eqP false) := by
  refine ⟨_, op_eqD hr.units, fun F B ρ M H x y dx dy dz Q m rx ry e k => ?_⟩
  obtain ⟨p, q, h1, h2, h3, h4, rfl⟩ := eqP_some e
  exact ⟨p, q, toP_snd m.ex rx h1, toP_snd m.ex ry h2, h3, h4, k.same m (.bl _)⟩
theorem od_ne {X : Cx} {k : Nat} (hr : Room k X.A) : OpD X (compareOp .NotEq) (eqP true) := by
  refine ⟨_, op_neD hr.units, fun F B ρ M H x y dx dy dz Q m rx ry e k => ?_⟩
  obtain ⟨p, q, h1, h2, h3, h4, rfl⟩ := eqP_some e
  exact ⟨p, q, toP_snd m.ex rx h1, toP_snd m.ex ry h2, h3, h4, k.same m (.bl _)⟩
theorem bt_len : bootBuiltins "len" = some (.builtin "len") := by decide +kernel
theorem bt_abs : bootBuiltins "abs" = some (.builtin "abs") := by decide +kernel
theorem bt_max : bootBuiltins "max" = some (.builtin "max") := by decide +kernel
theorem bt_min : bootBuiltins "min" = some (.builtin "min") := by decide +kernel
theorem bt_all : bootBuiltins "all" = some (.builtin "all") := by decide +kernel
theorem bt_isinstance : bootBuiltins "isinstance" = some (.builtin "isinstance") := by decide +kernel
theorem bt_sorted : bootBuiltins "sorted" = some (.builtin "sorted") := by decide +kernel
theorem bt_int : bootBuiltins "int" = some (.type "int") := by decide +kernel
theorem bt_str : bootBuiltins "str" = some (.type "str") := by decide +kernel
theorem bt_bool : bootBuiltins "bool" = some (.type "bool") := by decide +kernel
theorem bt_list : bootBuiltins "list" = some (.type "list") := by decide +kernel
theorem bt_tuple : bootBuiltins "tuple" = some (.type "tuple") := by decide +kernel
theorem bt_dict : bootBuiltins "dict" = some (.type "dict") := by decide +kernel
end Dn
namespace Dn
open PySem PyProof.Rows L2 Evl
/-- a def called with keywords behind n values, in the parameters' order -/
structure FnKD (P : Program) (w : World) (K : PySem.W.Frag) (mg : Str → Option Value) (base : Heap) (k : Nat) (x : Str) (n : Nat) (ks : List Str) (f : Fn) : Prop where
  ex : ∃ (a : Addr) (fd : FuncData) (ps : List Str), FnOk P w K mg base CX0 k a fd ps (spF K mg (n + ks.length) f) ∧ mg x = some (.ref a) ∧ PySem.W.keepIn K (.ref a) = true ∧ KBn K fd ps n ks (fun us ws => us ++ ws) (fun vs zs => vs ++ zs)
theorem kb_of {K : PySem.W.Frag} {x qual : Str} {st : Stmt} {f : Addr} {fd : FuncData} {ps ks : List Str} {n : Nat} (F : Fun K x qual st f fd)
    (h : ∀ (kV doc pm : Value) (an : Option Addr) (cdv ct : Value) (us ws : List Value), us.length = n → ws.length = ks.length → bindArgs (PySem.W.fnOf x qual (defArgs st) (defBody st) (defScope st) .none kV doc pm an cdv ct) ⟨us, ks.zip ws⟩ = pure (ps.zip (us ++ ws))) :
    KBn K fd ps n ks (fun us ws => us ++ ws) (fun vs zs => vs ++ zs) := by
  obtain ⟨oc, od, kV, doc, pm, an, cdv, ct, osl, rfl, lk, hcd⟩ := F.ex
  exact ⟨fun s us ws _ l1 l2 => .of_eq (h kV doc pm an cdv ct us ws l1 l2), fun r1 r2 => r1.append r2⟩
section
variable {X : Cx} {W : XK} {e : Expr} {es : List Expr} {fa fk : XA} {pos : Pos}
def xFnK' (n k : Nat) (f : Fn) (fa fk : XA) : XE := fun η M => (fa η M).bind fun ds M1 => (fk η M1).bind fun cs M2 => if ds.length = n ∧ cs.length = k then f (ds ++ cs) M2 else .no
theorem de_callKw {k n kk : Nat} {x : Str} {ks : List Str} {kws : List Keyword} {fn : Fn} {p0 : Pos} (G : FnKD X.prog X.w X.K X.mg X.base k x n ks fn)
    (hr : Room k X.A) (hg : Gl X x) (ha : DA X W (e :: es) fa) (hkw : PKD X W kws fk) (hall : (backToKw pos (keywordEach kws X.env)).all (·.1.isSome) = true := by rfl) (hks : (backToKw pos (keywordEach kws X.env)).filterMap (·.1) = ks := by rfl)
    (hdb : (x == ("__debug__" : Str)) = false := by decide) (he : starEach (e :: es) X.env = (false, eval e X.env) :: starEach es X.env := by rfl)
    (hpl : ((backTo pos (starEach (e :: es) X.env)).any (·.1) || (backToKw pos (keywordEach kws X.env)).any (·.1.isNone)) = false := by rfl)
    (hkl : ks.length = kk := by rfl) : DE X W (.Call (.Name x p0) (e :: es) kws pos) (xFnK' n kk fn fa fk) := by
  subst hkl
  obtain ⟨ad, fd, ps, Fo, hm, hk, hb⟩ := G.ex
  exact de_callK (gD := fun ds cs => ds ++ cs) Fo hm hk hb (fun r1 r2 l1 l2 => ⟨r1.app r2, by rw [List.length_append, l1, l2]⟩) hr hg ha hkw hall hks hdb he hpl
end
end Dn
namespace Dn
open PySem PyProof.Rows L2 Evl
theorem fn_okE {P : Program} {w : World} {K : PySem.W.Frag} {mg : Str → Option Value} {base : Heap} {x qual : Str} {st : Stmt} {f : Addr} {fd : FuncData} {N ps : List Str} {k n m lv : Nat} {body : XS} {fF : Fn} (F : Fun K x qual st f fd) (S : FnScope N ps (defScope st))
    (hf : fF = callB n m body) (hn : ps.length = n) (hm : N.length = m) (hlv : lv = k + 1)
    (hb : ∀ (cdv : Value) (A : Around) (outer : List Env) (s : Shared) (H : Hp) (E W : XK), Room k (A.deeper (envOfC qual (defScope st) s.heap.objs.size f cdv)) → DSs (cxOf CX0 P w K mg base N qual (defScope st) f cdv A outer s H E).nox W (defBody st) body) :
    FnOk P w K mg base CX0 lv f fd ps (spF K mg n fF) := by
  subst hf hn hm hlv
  exact fn_ok F S hb
end Dn
namespace Dn
open PySem PyProof.Rows L2 Evl
/-! ### the end of a law -/
def spLaw (K : PySem.W.Frag) : Sp := fun vs H Q _ => ∃ (a : Addr) (ns : List Int), vs = [.ref a] ∧ SqL K H a (ns.map V.int) ∧ ns.length ≤ 63 ∧ (∀ z ∈ ns, Builtin.Int.intBits z ≤ 1048576) ∧ ∀ H', Q (.bl true) H'
theorem law_sp {K : PySem.W.Frag} {mg : Str → Option Value} {f : Fn} (h : ∀ ns : List Int, ns.length ≤ 63 → (∀ z ∈ ns, Builtin.Int.intBits z ≤ 1048576) → ∃ M', f [.scr ns] [] = .ok (.bl true) M') : ∀ vs H Q E, spLaw K vs H Q E → spF K mg 1 f vs H Q E := by
  intro vs H Q E ⟨a, ns, ev, hs, hl, hb, k⟩
  subst ev
  obtain ⟨M', e⟩ := h ns hl hb
  refine ⟨[.scr ns], fun _ => none, H, [], [], rfl, .cons (.scr hs) .nil, ⟨Ex.refl H, fun _ _ e => (nomatch e), fun _ _ e => (nomatch e), rfl, List.nodup_nil, fun n o e => (by simp at e)⟩, ?_⟩
  rw [e]
  intro B' ρ' H' _ _ v r
  cases r
  exact k H'
theorem law_walk {l : PySem.W.OpenLaw} {q : Program} {loose : List Str} {XP : (Str → Option Value) → Heap → Prop} {YP : World → Heap → Prop} {d : DefRec} {K : Params → PySem.W.Frag} {k : Nat} {x : Str} (hn : l.most = some 63) (hdf : d.params.defaults = []) (hr : Room k callerA)
    (hY : ∀ (w : World) (h : Heap), YP w h → (K w.params).In h)
    (F : ∀ (w : World) (mg : Str → Option Value) (fa : Addr) (h : Heap), (K w.params).In h → h.Ns mainGlobals mg → mg d.name = some (.ref fa) →
      ∃ fd : FuncData, (∀ (s : Shared) (u : Value), BindsTo s fd ⟨[u], []⟩ [(x, u)]) ∧ ∀ base : Heap, (K w.params).In base → base.Ns mainGlobals mg → FnOk l.prog w (K w.params) mg base CX0 k fa fd [x] (spLaw (K w.params))) :
    PySem.W.WalkO q loose XP YP l.row.toRowW d [] (fun f vs => PySem.call f vs) :=
  L2.walk_ofB (n := 63) (k := k) (x := x) (CX := fun _ => CX0) (sp := fun w => spLaw (K w.params)) hn (by decide) hdf hr hY F (fun _ _ a ns hl hb _ hS => ⟨a, ns, rfl, hS, hl, hb, fun _ => rfl⟩) fun _ _ _ _ _ z => z
end Dn

/-! DnSort: sorted of any data, sorted by key=f, < of any data -/
namespace Dn
open PySem PyProof.Rows L2 Evl
open PySem.W (alike dataLt dataLe AllAlike Sortable EachIs)
def pD (d : D) : PyData := (toP d).getD .none
def isT1 : PyData → Bool
  | .tuple (_ :: _) => true
  | _ => false
def notT : PyData → Bool
  | .none => false
  | .tuple _ => false
  | _ => true
def sortOk (ps : List PyData) : Bool := (ps.all fun a => ps.all fun b => alike a b) && (ps.all isT1 || ps.all notT) && ps.all fun p => decide (p.depth ≤ 60)
theorem sortOk_snd {ps : List PyData} (h : sortOk ps = true) : AllAlike ps ∧ Sortable ps ∧ ∀ p ∈ ps, p.depth ≤ 60 := by
  unfold sortOk at h
  simp only [Bool.and_eq_true, Bool.or_eq_true, List.all_eq_true, decide_eq_true_eq] at h
  refine ⟨fun d hd d' hd' => h.1.1 d hd d' hd', ?_, h.2⟩
  rcases h.1.2 with q | q
  · refine .inl fun d hd => ?_
    have := q d hd
    unfold isT1 at this
    split at this
    · exact ⟨_, _, rfl⟩
    · cases this
  · refine .inr fun d hd => ?_
    have := q d hd
    unfold notT at this
    split at this
    · cases this
    · cases this
    · next h1 h2 => exact ⟨fun e => h1 e, fun xs e => h2 xs e⟩
theorem pD_map : ∀ {ds : List D} {ps : List PyData}, toPs ds = some ps → ds.map pD = ps
  | [], _, h => by unfold toPs at h; cases h; rfl
  | d :: ds, _, h => by
    unfold toPs at h
    cases h1 : toP d with
    | none => simp [h1] at h
    | some p =>
      cases h2 : toPs ds with
      | none => simp [h1, h2] at h
      | some ps =>
        simp [h1, h2] at h
        subst h
        rw [List.map_cons, pD_map h2]
        simp [pD, h1]
section
variable {X : Cx} {W : XK} {pins : List (Addr × Obj)} {σ : L2.St} {H B : Hp} {ρ : List Addr} {s : Shared}
/-- u stands for d -/
def StD (K : PySem.W.Frag) (B : Hp) (ρ : List Addr) (u : Value) (d : D) : Prop := ∃ v, RelV v u ∧ Rp K B ρ d v
theorem each_std {K : PySem.W.Frag} : ∀ {ds : List D} {vs : List V} {us : List Value}, Rps K B ρ ds vs → Vals vs us → EachIs (StD K B ρ) us ds
  | _, _, _, .nil, r => by cases r; exact .nil
  | _, _, _, .cons h t, r => by
    cases r with
    | cons r1 r2 => exact .cons ⟨_, r1, h⟩ (each_std t r2)
theorem std_each {K : PySem.W.Frag} : ∀ {ds : List D} {us : List Value}, EachIs (StD K B ρ) us ds → ∃ vs, Vals vs us ∧ Rps K B ρ ds vs
  | _, _, .nil => ⟨[], .nil, .nil⟩
  | _, _, .cons ⟨v, r, h⟩ t => by
    obtain ⟨vs, r2, h2⟩ := std_each t
    exact ⟨v :: vs, .cons r r2, .cons h h2⟩
theorem each_reads (I : Inv X pins σ H s) (ex : Ex B H) : ∀ {ds : List D} {vs : List V} {us : List Value} {ps : List PyData}, Rps X.K B ρ ds vs → Vals vs us → toPs ds = some ps → EachIs (fun u d => ∃ as, Reads s.heap u (pD d) as) us ds
  | _, _, _, _, .nil, r, _ => by cases r; exact .nil
  | _, _, _, _, .cons (d := d) (ds := ds) h t, r, hp => by
    cases r with
    | cons r1 r2 =>
      unfold toPs at hp
      cases h1 : toP d with
      | none => simp [h1] at hp
      | some p =>
        cases h2 : toPs ds with
        | none => simp [h1, h2] at hp
        | some ps =>
          refine .cons ?_ (each_reads I ex t r2 h2)
          have e : pD d = p := by simp [pD, h1]
          rw [e]
          exact Dp.reads I p _ _ (toP_snd ex h h1) r1
end
/-! ### sorted(xs) -/
noncomputable def sortD (ds : List D) : List D := ds.mergeSort (dataLe false pD)
noncomputable def bSortD : OpC := one fun M d => (asL M d).bind fun ds => (toPs ds).bind fun ps => if sortOk ps = true then some (.lst (sortD ds)) else none
def rSortD (K : PySem.W.Frag) : List V → Hp → VK → Prop := fun vs H Q => ∃ F B ρ M a xs ds ps, vs = [V.ref a] ∧ SqL K H a xs ∧ MR K F B ρ M H ∧ Rps K B ρ ds xs ∧ toPs ds = some ps ∧ sortOk ps = true ∧ Done K F B ρ M (.lst (sortD ds)) Q
section
variable {X : Cx} {W : XK}
theorem cr_sortD {k : Nat} (hr : Room k X.A) : CallR X (.builtin "sorted") (rSortD X.K) := by
  intro pins s σ H vs us Q I r h
  obtain ⟨F, B, ρ, M, a, xs, ds, ps, rfl, hs, m, rs, hp, ok, q⟩ := h
  obtain ⟨its, rv, hl, hz⟩ := I.list hs
  obtain ⟨u, rfl, ru⟩ := vals1 r
  obtain rfl : u = Value.ref a := ru
  obtain ⟨o1, o2, o3⟩ := sortOk_snd ok
  have em := pD_map hp
  have hun := hr.un
  refine PySem.W.sorted_data (R := StD X.K B ρ) (enc := pD) (bs := ds) hl.isList (each_std rs rv) (each_reads I m.ex rs rv hp) (by rw [em]; exact o1) (by rw [em]; exact o2) (by rw [rs.len]; exact hz) (fun b hb => ?_) fun out ho eo => ?_
  · have : pD b ∈ ps := by rw [← em]; exact List.mem_map.mpr ⟨b, hb, rfl⟩
    have := o3 _ this
    omega
  · obtain ⟨ys, ry, rd⟩ := std_each eo
    have hl2 := rs.len
    refine ⟨.ref (s.heap.objs.size + 1), upd H (s.heap.objs.size + 1) (.lst ys), I.laid (t' := s.toks) (fun b o e => sortedAll_old e) (Nat.le_succ _) ⟨?_, out, ?_⟩, rfl, q.newL m rd _ (I.hok.fresh (Nat.le_succ _))⟩
    · have := ry.length
      omega
    · obtain ⟨n, hn⟩ := sortedAll_at s.heap its out.toArray
      exact ⟨n, ry, hn⟩
theorem cd_sortD {k : Nat} (hr : Room k X.A) : CallD X (.builtin "sorted") bSortD := by
  refine ⟨_, cr_sortD hr, fun F B ρ M H xs ds dz Q m rx e k => ?_⟩
  obtain ⟨d, rfl, h⟩ := one_some e
  cases rx with
  | cons r rr =>
    cases rr
    cases h1 : asL M d with
    | none => simp [h1] at h
    | some es =>
      cases h2 : toPs es with
      | none => simp [h1, h2] at h
      | some ps =>
        simp only [h1, h2, Option.bind_some] at h
        split at h
        · next hl =>
          obtain rfl := Option.some.inj h
          obtain ⟨a, vs, rfl, hs, rs⟩ := asL_snd m r h1
          exact ⟨F, B, ρ, M, a, vs, es, ps, rfl, hs, m, rs, h2, hl, k⟩
        · cases h
end
end Dn
namespace Dn
open PySem PyProof.Rows L2 Evl
open PySem.W (alike dataLt dataLe AllAlike Sortable EachIs)
/-! ### sorted(xs, key=f) -/
theorem R.bind_assoc {α β γ : Type} (r : R α) (f : α → Mem → R β) (g : β → Mem → R γ) : (r.bind f).bind g = r.bind fun a m => (f a m).bind g := by
  cases r <;> rfl
def keysR (f : Fn) : List D → Mem → R (List D)
  | [], M => .ok [] M
  | d :: ds, M => (f [d] M).bind fun k M1 => (keysR f ds M1).bind fun ks M2 => .ok (k :: ks) M2
noncomputable def sortBy (ks es : List D) : List D := ((es.zip ks).mergeSort (dataLe false fun p => pD p.2)).map Prod.fst
noncomputable def sortK (es ks : List D) : Option (List D) := if ks.length = es.length then (toPs ks).bind fun ps => if sortOk ps = true then some (sortBy ks es) else none else none
noncomputable def xSortK (fin : List D → Mem → R D) (f : Fn) (fe : XE) : XE := fun η M => (fe η M).bind fun d M1 => (R.of (asL M1 d) M1).bind fun es M2 => (keysR f es M2).bind fun ks M3 => (R.of (sortK es ks) M3).bind fin
/-- amid sorted -/
def inX (X : Cx) : Cx := { X with A := X.A.in1.in1, xe := fun _ _ => False }
section
variable {X : Cx} {pins : List (Addr × Obj)} {σ : L2.St} {H : Hp} {s : Shared}
theorem inv_in (I : Inv X pins σ H s) : Inv (inX X) pins σ H s :=
  ⟨⟨I.ok.mod, I.ok.kind, I.ok.glob, I.ok.blt, I.ok.above, I.ok.inj, I.ok.has, I.ok.cab, I.ok.hd, I.ok.frames, I.ok.stk, I.ok.exf, I.ok.bs, I.ok.bsz, I.ok.noex, I.ok.exfs, I.ok.funs, I.ok.frf⟩, I.os, I.bare, I.base, I.loc, I.cell, I.free, I.freeC, I.pin, I.hok, I.len⟩
theorem inv_out (ok : X.Ok) (I : Inv (inX X) pins σ H s) : Inv X pins σ H s := ⟨ok, I.os, I.bare, I.base, I.loc, I.cell, I.free, I.freeC, I.pin, I.hok, I.len⟩
/-- a thing of ours that was not looked at is looked at -/
theorem inv_track {a : Addr} {o : HO} (I : Inv X pins σ H s) (hf : FpOk X pins H a) (ha : X.s_0.heap.objs.size ≤ a) (new : ObjOk X.prog X.w (upd H a o) s.heap a o) : Inv X pins σ (upd H a o) s := by
  have hn : H a = none := hf.1
  have ne0 : ∀ b ob, X.s_0.heap.get? b = some ob → b ≠ a := fun b ob q => Nat.ne_of_lt (Nat.lt_of_lt_of_le (Heap.lt_size q) ha)
  refine ⟨I.ok, I.os, I.bare, ⟨I.base.keep, I.base.slot, fun b ob q n hx => ?_, I.base.there, fun b xs q => ?_, fun b ob y q => ?_, fun b qs q => ?_⟩, I.loc, I.cell, ?_, fun x c e => ?_, fun p hp => ?_, fun b u q => ?_, I.len⟩
  · rw [upd_ne (ne0 b ob q)]; exact I.base.free b ob q n hx
  · have q2 := I.base.tups b xs q
    rw [upd_ne (ne_of_none q2 hn)]; exact q2
  · have q2 := I.base.frzs b ob y q
    rw [upd_ne (ne_of_none q2 hn)]; exact q2
  · obtain ⟨more, q2⟩ := I.base.tbls b qs q
    exact ⟨more, by rw [upd_ne (ne_of_none q2 hn)]; exact q2⟩
  · rw [upd_ne (Ne.symm hf.2.1)]; exact I.free
  · rw [upd_ne (hf.2.2.2.2.1 x c e)]; exact I.freeC x c e
  · obtain ⟨p1, p2, p3, p4, p5⟩ := I.pin p hp
    exact ⟨p1, by rw [upd_ne (hf.2.2.2.2.2 p hp)]; exact p2, p3, p4, p5⟩
  · by_cases hb : b = a
    · subst hb
      rw [upd_same] at q
      cases q
      exact new
    · rw [upd_ne hb] at q
      exact (I.hok b u q).stay (fun _ _ _ z => z) (fun d z => by rw [upd_ne (ne_of_none z hn)]; exact z) fun d xs z => by rw [upd_ne (ne_of_none z hn)]; exact z
end
/-- a heap without the thing at a -/
def holeAt (h : Heap) (a : Addr) : Heap := h.update a fun o => { o with data := .freed }
theorem hole_none (h : Heap) (a : Addr) : (holeAt h a).get? a = none := by
  obtain ⟨objs, l⟩ := h
  unfold holeAt Heap.update Heap.get?
  dsimp only
  rw [Array.getElem?_modify]
  simp only [if_true]
  cases objs[a]? with
  | none => rfl
  | some o => obtain ⟨c, d, dt, sl⟩ := o; rfl
theorem hole_ne {h : Heap} {a b : Addr} (n : b ≠ a) : (holeAt h a).get? b = h.get? b := Heap.get?_update_ne h b a _ n
theorem vals_get : ∀ {xs : List V} {us : List Value} {j : Nat} {u : Value}, Vals xs us → us[j]? = some u → ∃ x, xs[j]? = some x ∧ RelV x u
  | _, _, _, _, .nil, h => by simp at h
  | _, _, 0, _, .cons r _, h => by simp at h; subst h; exact ⟨_, rfl, r⟩
  | _, _, j + 1, u, .cons _ t, h => by
    obtain ⟨x, h1, h2⟩ := vals_get (j := j) (u := u) t (by simpa using h)
    exact ⟨x, by simpa using h1, h2⟩
theorem each_zip {α β γ : Type} {R : α → β → Prop} : ∀ {us : List α} {bs : List β} {cs : List γ}, EachIs R us bs → cs.length = bs.length → EachIs (fun u (p : β × γ) => R u p.1) us (bs.zip cs)
  | _, _, _, .nil, _ => by simp; exact .nil
  | _, _, [], .cons _ _, h => by simp at h
  | _, _, _ :: _, .cons r t, h => .cons r (each_zip t (by simpa using h))
theorem each_fst {α β γ : Type} {R : α → β → Prop} : ∀ {us : List α} {ps : List (β × γ)}, EachIs (fun u (p : β × γ) => R u p.1) us ps → EachIs R us (ps.map Prod.fst)
  | _, _, .nil => .nil
  | _, _, .cons r t => .cons r (each_fst t)
theorem each_pd {h : Heap} : ∀ {us : List Value} {ds : List D}, EachIs (fun u d => ∃ as, Reads h u (pD d) as) us ds → EachIs (fun u k => ∃ as, Reads h u k as) us (ds.map pD)
  | _, _, .nil => .nil
  | _, _, .cons r t => .cons r (each_pd t)
section
variable {X : Cx} {W : XK}
def rSortK (fin : List D → Mem → R D) (X : Cx) (W : XK) (ad : Addr) (f : Fn) : List V → List V → Hp → VK → Prop := fun vs zs H Q => ∃ F B ρ M a xs es, vs = [V.ref a] ∧ zs = [V.ref ad] ∧ SqL X.K H a xs ∧ MR X.K F B ρ M H ∧ Rps X.K B ρ es xs ∧
  Wp X.K X.mg F B ρ W (fun d B' ρ' H' => ∀ v, Rp X.K B' ρ' d v → Q v H') ((keysR f es M).bind fun ks M3 => (R.of (sortK es ks) M3).bind fin)
/-- amid the keys -/
structure AtKey (fin : List D → Mem → R D) (X : Cx) (W : XK) (f : Fn) (pins : List (Addr × Obj)) (σ : L2.St) (Q : VK) (F B : Hp) (ρ : List Addr) (es : List D) (kS a : Addr) (e1 i : Nat) (s' : Shared) : Prop where
  ex : ∃ H B1 ρ1 M kA e dks vks, Inv (inX X) ([(kS, seqObj "list" kA e), (a, seqObj "list" #[] e1)] ++ pins) σ H s' ∧ Le B ρ B1 ρ1 ∧ MR X.K F B1 ρ1 M H ∧ Rps X.K B1 ρ1 dks vks ∧ Vals vks kA.toList ∧ dks.length = i ∧
    Wp X.K X.mg F B1 ρ1 W (fun d B' ρ' H' => ∀ v, Rp X.K B' ρ' d v → Q v H') ((keysR f (es.drop i) M).bind fun ks M3 => (R.of (sortK es (dks ++ ks)) M3).bind fin)
/-- a thing of ours, whatever the heap -/
structure Ours (X : Cx) (pins : List (Addr × Obj)) (b : Addr) : Prop where
  u : (b ∈ X.ex ∨ X.s_0.heap.objs.size ≤ b) ∧ (∀ x c, X.env.cells.lookup x = some c → c ≠ b) ∧ ∀ p ∈ X.pn ++ pins, p.1 ≠ b
theorem Ours.fp {pins : List (Addr × Obj)} {H : Hp} {b : Addr} (o : Ours X pins b) (h1 : H b = none) (h2 : b ≠ X.env.locals) (h3 : b ∉ X.fs) : FpOk (inX X) pins H b := ⟨h1, h2, h3, o.u⟩
theorem key_loop {fin : List D → Mem → R D} (hfin : FinOk fin) {k : Nat} {ad : Addr} {fd : FuncData} {ps : List Str} {f : Fn} {pins : List (Addr × Obj)} {σ : L2.St} {Q : VK} {F B : Hp} {ρ : List Addr} {es : List D} {xs : List V} {its : List Value} {kS a : Addr} {e1 : Nat} {s : Shared} {P : PySem.Fin → Shared → Prop} {E : Value → Shared → Prop}
    (Fo : FnOk X.prog X.w X.K X.mg X.base CX0 k ad fd ps (spF X.K X.mg 1 f)) (hr : Room (k + 2) X.A) (hb : Binds X.K fd ps []) (ok : X.Ok) (hka : kS ≠ a) (oK : Ours X pins kS) (oA : Ours X pins a) (hax : X.s_0.heap.objs.size ≤ a)
    (rs : Rps X.K B ρ es xs) (rv : Vals xs its) (hZ : its.length ≤ sizeLine) (st : AtKey fin X W f pins σ Q F B ρ es kS a e1 0 s)
    (hP : ∀ s', EP X pins σ Q (.ref a) s' → P (.done (.ret .none)) s') :
    wpAny (model X.prog X.w) X.A.in1.in1 (ksk_rest a (.ref ad) false its.toArray e1 (.ref kS)) P E s := by
  unfold ksk_rest
  refine wpAny_bind (wpAny_rule ?_)
  first
    | rw [List.forIn_toArray]
    | (rw [← Array.forIn_toList]; simp only [List.toList_toArray])
  have hel : es.length = its.length := by rw [rs.len]; exact rv.length
  refine wpAny_bind (ksk_fold (fun i s' => AtKey fin X W f pins σ Q F B ρ es kS a e1 i s') its 0 s st ?step ?done)
  case step =>
    rintro j u s' hu ⟨H, B1, ρ1, M, kA, e, dks, vks, I, l, m, rk, vk, hl, w⟩
    simp only [Nat.zero_add] at hl w ⊢
    have hj : j < its.length := (List.getElem?_eq_some_iff.mp hu).1
    have hje : j < es.length := by omega
    obtain ⟨x, hx, rx⟩ : ∃ x, xs[j]? = some x ∧ RelV x u := vals_get rv hu
    obtain ⟨d, hd, rd⟩ := rs.getV hx
    have ed : es.drop j = d :: es.drop (j + 1) := by
      rw [List.drop_eq_getElem_cons hje]
      congr 1
      have := List.getElem?_eq_getElem hje
      rw [this] at hd
      exact Option.some.inj hd
    rw [ed] at w
    unfold keysR at w
    rw [R.bind_assoc] at w
    have hkA : kA.size = j := by
      have h1 : vks.length = kA.toList.length := vk.length
      have h2 := rk.len
      have h3 : kA.toList.length = kA.size := Array.length_toList
      omega
    obtain ⟨pk1, pk2, pk3, pk4, _⟩ := I.pin (kS, seqObj "list" kA e) (List.mem_append_right _ (List.mem_append_left _ (by simp)))
    refine wpAny_bind (wpAny_attempt (wpAny_mono (run_fn (X := inX X) (E := W) (Q := fun v' H' => ∃ kd M1 B2 ρ2, Le B1 ρ1 B2 ρ2 ∧ MR X.K F B2 ρ2 M1 H' ∧ Rp X.K B2 ρ2 kd v' ∧
        Wp X.K X.mg F B2 ρ2 W (fun d B' ρ' H' => ∀ v, Rp X.K B' ρ' d v → Q v H') (((keysR f (es.drop (j + 1)) M1).bind fun ks M2 => R.ok (kd :: ks) M2).bind fun ks M3 => (R.of (sortK es (dks ++ ks)) M3).bind fin))
      Fo hr.in1.in1 hb .nil passW I (.cons rx .nil) ?_) (fun v s'' he => ?_) fun _ _ z => z.elim))
    · refine ⟨[d], F, B1, ρ1, M, rfl, .cons (rd.mono l) .nil, m, w.bind fun kd M1 B2 ρ2 H2 l2 m2 w2 v' rv' => ?_⟩
      exact ⟨kd, M1, B2, ρ2, l2, m2, rv', w2⟩
    · obtain ⟨v', H2, I2, r2, kd, M1, B2, ρ2, l2, m2, rk2, w2⟩ := he
      obtain ⟨q1, q2, q3, q4, q5⟩ := I2.pin (kS, seqObj "list" kA e) (List.mem_append_right _ (List.mem_append_left _ (by simp)))
      obtain ⟨a1, a2, a3, a4, a5⟩ := I2.pin (a, seqObj "list" #[] e1) (List.mem_append_right _ (List.mem_append_left _ (by simp)))
      try dsimp only at q1 a1 q2 q3 q4 a2 a3 a4
      have s1 := Heap.SameBut.update s''.heap kS (Obj.mapSeq (·.push v))
      obtain ⟨c2, hc2⟩ : ∃ c2, (s''.heap.update kS (Obj.mapSeq (·.push v))).get? kS = some (seqObj "list" (kA.push v) c2) := ⟨_, get?_update_seq q1 (·.push v)⟩
      refine wpAny_bind (listUpdate_at q1 rfl ?_ (by omega) (Nat.le_trans (Nat.le_of_eq (Array.size_push ..)) (by omega)))
      refine wpAny_pure ⟨rfl, H2, B2, ρ2, M1, kA.push v, c2, dks ++ [kd], vks ++ [v'], ?_, l.trans l2, m2, (rk.mono l2).snoc rk2, ?_, by simp [hl], ?_⟩
      · have I3 : Inv (inX X) pins σ H2 s'' := I2.pins_of fun p hp => I2.pin p (List.mem_append_right _ (List.mem_append_right _ hp))
        have I4 : Inv (inX X) pins σ H2 { s'' with heap := s''.heap.update kS (Obj.mapSeq (·.push v)), toks := s''.toks } := I3.turnedL (ch := [kS]) (fun b o hb e => (s1.2 b (by simpa using hb)).trans e) fun b hb => by
          rw [List.mem_singleton.mp hb]
          exact oK.fp q2 q3 q4
        refine I4.pins_of fun p hp => ?_
        rcases List.mem_append.mp hp with hp | hp
        · rcases List.mem_cons.mp hp with rfl | hp
          · exact ⟨hc2, q2, q3, q4, fun v e => by cases e⟩
          · rw [List.mem_singleton.mp hp]
            exact ⟨(s1.2 a hka.symm).trans a1, a2, a3, a4, fun v e => by cases e⟩
        · exact I4.pin p (List.mem_append_right _ hp)
      · rw [Array.toList_push]
        exact vk.append (.cons r2 .nil)
      · rw [R.bind_assoc] at w2
        simpa using w2
  case done =>
    rintro s' ⟨H, B1, ρ1, M, kA, e, dks, vks, I, l, m, rk, vk, hl, w⟩
    simp only [Nat.zero_add] at hl w
    rw [List.drop_of_length_le (by omega)] at w
    unfold keysR at w
    rw [R.bind_ok, List.append_nil] at w
    obtain ⟨dz, hz, w⟩ : ∃ dz, sortK es dks = some dz ∧ Wp X.K X.mg F B1 ρ1 W (fun d B' ρ' H' => ∀ v, Rp X.K B' ρ' d v → Q v H') (fin dz M) := by
      cases hq : sortK es dks with
      | none => rw [hq] at w; exact w.elim
      | some dz => rw [hq] at w; exact ⟨dz, rfl, w⟩
    unfold sortK at hz
    split at hz
    · next hlen =>
      cases hp : toPs dks with
      | none => simp [hp] at hz
      | some pz =>
        simp only [hp, Option.bind_some] at hz
        split at hz
        · next hok =>
          obtain rfl := Option.some.inj hz
          obtain ⟨o1, o2, o3⟩ := sortOk_snd hok
          have em := pD_map hp
          obtain ⟨q1, q2, q3, q4, q5⟩ := I.pin (kS, seqObj "list" kA e) (List.mem_append_right _ (List.mem_append_left _ (by simp)))
          obtain ⟨a1, a2, a3, a4, a5⟩ := I.pin (a, seqObj "list" #[] e1) (List.mem_append_right _ (List.mem_append_left _ (by simp)))
          try dsimp only at q1 a1 q2 q3 q4 a2 a3 a4
          refine wpAny_bind (listItems_at q1 rfl ?_)
          have hk' : EachIs (fun v k => ∃ as, Reads s'.heap v k as) kA.toList pz := by
            rw [← em]
            exact each_pd (each_reads I m.ex rk vk hp)
          have hsz : kA.size = its.length := by
            have h1 : vks.length = kA.toList.length := vk.length
            have h2 := rk.len
            have h3 : kA.toList.length = kA.size := Array.length_toList
            omega
          have hun := hr.un
          refine PySem.W.keyH_end (κ := PySem.W.dataKind s'.heap pz) (h₁ := holeAt s'.heap kS) (fun b o hb q => ?_) (hole_none _ _) q1 a1 hka (PySem.W.SortsAt.data hk' o1 o2 fun d hd => ?_) hsz hZ fun h3 tk3 c k3 n3 => hP _ ?_
          · by_cases hbk : b = kS
            · rw [hbk, hole_none] at q; cases q
            · rw [hole_ne hbk] at q; exact q
          · have := o3 d hd
            show X.A.units + 1 + 1 + _ < _
            omega
          · have ezip : (es.zip dks).map (fun p : D × D => pD p.2) = pz := by
              have e1 : (es.zip dks).map (fun p : D × D => pD p.2) = ((es.zip dks).map Prod.snd).map pD := by rw [List.map_map]; rfl
              rw [e1, List.map_snd_zip (by omega), em]
            have ko : PySem.W.KeyedOut false ((es.zip dks).map fun p : D × D => pD p.2) its (PySem.W.sortVals (PySem.W.dataKind s'.heap pz) false kA.toList its) := by
              rw [ezip]
              exact ⟨s'.heap, kA.toList, o1, rfl, hk'⟩
            have eo := each_fst (PySem.W.keyedOut_each (fun p : D × D => pD p.2) ko (each_zip (each_std (rs.mono l) rv) hlen))
            obtain ⟨ys, ry, rd⟩ := std_each eo
            have I3 : Inv (inX X) pins σ H s' := I.pins_of fun p hp => I.pin p (List.mem_append_right _ (List.mem_append_right _ hp))
            have I4 : Inv (inX X) pins σ H { s' with heap := h3, toks := tk3 } := I3.turnedL (ch := [kS, a]) (fun b o hb e => k3 b o (fun z => hb (by simp [z])) (by rw [hole_ne (fun z => hb (by simp [z]))]; exact e)) fun b hb => by
              rcases List.mem_cons.mp hb with rfl | hb
              · exact oK.fp q2 q3 q4
              · rw [List.mem_singleton.mp hb]
                exact oA.fp a2 a3 a4
            have hlo := ko.length (by rw [List.length_map, List.length_zip]; omega)
            have I5 : Inv (inX X) pins σ (upd H a (.lst ys)) { s' with heap := h3, toks := tk3 } := inv_track I4 (oA.fp a2 a3 a4) hax ⟨by have := ry.length; omega, _, c, ry, n3⟩
            exact ⟨.ref a, _, inv_out ok I5, rfl, hfin X.K X.mg W F B1 H ρ1 M _ ys Q m rd w a a2⟩
        · cases hz
    · cases hz
theorem ours_of {pins : List (Addr × Obj)} {σ : L2.St} {H : Hp} {s : Shared} {b : Addr} (I : Inv X pins σ H s) (hb : s.heap.objs.size ≤ b) : Ours X pins b := ⟨(I.fpOk hb (I.hok.fresh hb)).2.2.2⟩
theorem cr_sortK {fin : List D → Mem → R D} (hfin : FinOk fin) {k : Nat} {ad : Addr} {fd : FuncData} {ps : List Str} {f : Fn} (Fo : FnOk X.prog X.w X.K X.mg X.base CX0 k ad fd ps (spF X.K X.mg 1 f)) (hr : Room (k + 2) X.A) (hb : Binds X.K fd ps []) :
    CallRK X (.builtin "sorted") [Str.ofString "key"] (rSortK fin X W ad f) := by
  intro pins s σ H vs zs us ws Q I r r2 h
  obtain ⟨F, B, ρ, M, a, xs, es, rfl, rfl, hs, m, rs, w⟩ := h
  obtain ⟨its, rv, hl, hz⟩ := I.list hs
  obtain ⟨u, rfl, ru⟩ := vals1 r
  obtain rfl : u = Value.ref a := ru
  obtain ⟨u2, rfl, ru2⟩ := vals1 r2
  obtain rfl : u2 = Value.ref ad := ru2
  have hZ : its.length ≤ sizeLine := by
    have : xs.length = its.length := rv.length
    omega
  refine PySem.W.sorted_of_sort (Q := EP X pins σ Q) hl.isList hZ (ksk_s1 _ _) (fun _ => ksk_l1 _ _) fun E' => ?_
  rw [show ([Str.ofString "key"].zip [Value.ref ad]) = [(Str.ofString "key", Value.ref ad)] from rfl, ksk_t1]
  have hA := PySem.W.copyHeap_at s.heap its
  have hsz : (PySem.W.copyHeap s.heap its).objs.size = s.heap.objs.size + 2 := by
    unfold PySem.W.copyHeap
    rw [size_push', Heap.size_update, size_push']
  generalize eA : s.heap.objs.size + 1 = A1 at hA ⊢
  obtain ⟨e1, ho1⟩ : ∃ e1, ((PySem.W.copyHeap s.heap its).update A1 (Obj.mapSeq fun _ => (#[] : Array Value))).get? A1 = some (seqObj "list" #[] e1) := ⟨_, get?_update_seq hA fun _ => #[]⟩
  have hkS : (((PySem.W.copyHeap s.heap its).update A1 (Obj.mapSeq fun _ => (#[] : Array Value))).push (seqObj "tuple" its.toArray 0)).objs.size = s.heap.objs.size + 3 := by rw [size_push', Heap.size_update, hsz]
  unfold ksk_tree
  refine wpAny_bind (listItems_at hA rfl ?_)
  refine wpAny_bind (listUpdate_at hA rfl ?_ (by rw [List.size_toArray]; exact hZ) (Nat.zero_le _))
  refine wpAny_bind (seqEpoch_at ho1 rfl ?_)
  refine wpAny_bind (wpAny_newTuple ?_ (by show its.length ≤ _; exact hZ))
  refine wpAny_bind (wpAny_newList ?_ (Nat.zero_le _))
  refine wpAny_holding ?_
  have kp : ∀ b o, s.heap.get? b = some o → (PySem.W.sortingHeap (PySem.W.copyHeap s.heap its) A1 its).get? b = some o := fun b o q => by
    rw [← eA]
    exact PySem.W.sorting_copy_old q
  have I1 : Inv (inX X) pins σ H { s with heap := PySem.W.sortingHeap (PySem.W.copyHeap s.heap its) A1 its, toks := s.toks } := inv_in (I.kept kp)
  have oK := ours_of I (b := s.heap.objs.size + 3) (by omega)
  have oA := ours_of I (b := A1) (by omega)
  have fK := I.fpOk (b := s.heap.objs.size + 3) (by omega) (I.hok.fresh (by omega))
  have fA := I.fpOk (b := A1) (by omega) (I.hok.fresh (by omega))
  show wpAny (model X.prog X.w) X.A.in1.in1 (ksk_rest A1 (.ref ad) false its.toArray e1 (.ref (((PySem.W.copyHeap s.heap its).update A1 (Obj.mapSeq fun _ => (#[] : Array Value))).push (seqObj "tuple" its.toArray 0)).objs.size)) _ _ { s with heap := PySem.W.sortingHeap (PySem.W.copyHeap s.heap its) A1 its }
  have gK : (PySem.W.sortingHeap (PySem.W.copyHeap s.heap its) A1 its).get? (s.heap.objs.size + 3) = some (seqObj "list" #[] 0) := by
    rw [← hkS]
    exact Heap.get?_push_size _ rfl
  have gA : (PySem.W.sortingHeap (PySem.W.copyHeap s.heap its) A1 its).get? A1 = some (seqObj "list" #[] e1) := Heap.get?_push_of_some _ (Heap.get?_push_of_some _ ho1)
  have hne : s.heap.objs.size + 3 ≠ A1 := by omega
  rw [hkS]
  refine key_loop hfin (W := W) (Q := Q) (F := F) (B := B) (ρ := ρ) (es := es) (xs := xs) (σ := σ) (pins := pins) Fo hr hb I.ok hne oK oA (by have := I.sz; omega) rs rv hZ ⟨H, B, ρ, M, #[], 0, [], [], ?_, Le.refl _ _, m, .nil, .nil, rfl, ?_⟩ fun s' z => ⟨rfl, z⟩
  · refine I1.pins_of fun p hp => ?_
    rcases List.mem_append.mp hp with hp | hp
    · rcases List.mem_cons.mp hp with rfl | hp
      · exact ⟨gK, fK.1, fK.2.1, fK.2.2.1, fun v e => by cases e⟩
      · rw [List.mem_singleton.mp hp]
        exact ⟨gA, fA.1, fA.2.1, fA.2.2.1, fun v e => by cases e⟩
    · exact I1.pin p (List.mem_append_right _ hp)
  · simpa using w
theorem de_sortK {fin : List D → Mem → R D} {k : Nat} {xf : Str} {f : Fn} {e : Expr} {fe : XE} {p p2 kpos pos : Pos} (hfin : FinOk fin) (G : FnD X.prog X.w X.K X.mg X.base k xf 1 f) (hr : Room (k + 2) X.A) (hgf : Gl X xf) (hg : Gl X "sorted") (hm : X.mg "sorted" = none) (ha : DE X W e fe)
    (hd : (xf == ("__debug__" : Str)) = false := by decide)
    (he : backTo pos (starEach [e] X.env) = (false, eval e X.env) :: backTo pos (starEach [] X.env) := by rfl) (hpl : (backTo pos (starEach [e] X.env)).any (·.1) = false := by rfl)
    (hall : (backToKw pos (keywordEach [⟨some (Str.ofString "key"), .Name xf p2, kpos⟩] X.env)).all (·.1.isSome) = true := by rfl) (hnone : (backToKw pos (keywordEach [⟨some (Str.ofString "key"), .Name xf p2, kpos⟩] X.env)).any (·.1.isNone) = false := by rfl) (hks : (backToKw pos (keywordEach [⟨some (Str.ofString "key"), .Name xf p2, kpos⟩] X.env)).filterMap (·.1) = [Str.ofString "key"] := by rfl)
    (hs : starEach [e] X.env = [(false, eval e X.env)] := by rfl) :
    DE X W (.Call (.Name "sorted" p) [e] [⟨some (Str.ofString "key"), .Name xf p2, kpos⟩] pos) (xSortK fin f fe) := by
  obtain ⟨ad, fd, ps, Fo, hmf, hk, hb⟩ := G.ex
  have dn : DE X W (.Name xf p2) (xC (dOf (V.ref ad))) := de_glob hgf hmf (show RelV (.ref ad) (.ref ad) from rfl) hd
  refine PE.imp (pe_callBK (cr_sortK (W := W) hfin Fo hr hb) hg hm bt_sorted (da_cons ha da_nil hs) (dk_cons dn dk_nil).pk (by decide) (by decide) he hpl hall hnone hks) fun σ H Q z => ?_
  obtain ⟨η, F, B, ρ, M, er, m, w⟩ := z
  unfold xSortK at w
  refine ⟨η, F, B, ρ, M, er, m, ?_⟩
  have e1 : xCons fe xNil η M = (fe η M).bind fun d M1 => .ok [d] M1 := rfl
  rw [e1]
  have w' : Wp X.K X.mg F B ρ W (fun d B' ρ' H' => ∀ v, Rp X.K B' ρ' d v → Q v H') (((fe η M).bind fun d M1 => R.ok [d] M1).bind fun ds M1 => match ds with
    | [d] => (R.of (asL M1 d) M1).bind fun es M2 => (keysR f es M2).bind fun ks M3 => (R.of (sortK es ks) M3).bind fin
    | _ => .no) := by
    rw [R.bind_assoc]
    exact w
  refine w'.bind fun ds M1 B1 ρ1 H1 l1 m1 w1 vs rvs => ?_
  cases rvs with
  | nil => exact w1.elim
  | @cons d0 _ _ _ rd rr =>
    cases rr with
    | cons _ _ => exact w1.elim
    | nil =>
      refine ⟨η, F, B1, ρ1, M1, er.mono l1, m1, ?_⟩
      have w2 := w1
      obtain ⟨es, he', w3⟩ : ∃ es, asL M1 d0 = some es ∧ Wp X.K X.mg F B1 ρ1 W _ ((keysR f es M1).bind fun ks M3 => (R.of (sortK es ks) M3).bind fin) := by
        cases hq : asL M1 d0 with
        | none => dsimp only at w2; rw [hq] at w2; exact w2.elim
        | some es => dsimp only at w2; rw [hq] at w2; exact ⟨es, rfl, w2⟩
      intro B2 ρ2 H2 l2 m2 zs rz
      cases rz with
      | cons rz1 rz2 =>
        cases rz2
        have ez : dOf (V.ref ad) = .raw (.ref ad) := rfl
        rw [ez] at rz1
        cases rz1
        obtain ⟨a, xs, rfl, hs', rs⟩ := asL_snd m2 (rd.mono l2) he'
        exact ⟨F, B2, ρ2, M1, a, xs, es, rfl, rfl, hs', m2, rs, w3.mono l2⟩
end
end Dn

/-! DnMore: range(a, b), sum, any, in, == with things that may change, append and reverse, name = [..] -/
namespace Dn
open PySem PyProof.Rows L2 Evl
section
variable {X : Cx} {W : XK} {a b c e o tg it : Expr} {es : List Expr} {f g k : XE} {fa : XA} {p : XT} {pos apos : Pos}
/-! ### range(a, b) -/
def xRng2 (g : XA) : XI := fun η M => (g η M).bind fun ds M1 => match ds with
  | [.int i, .int j] => if -(2 ^ 62) ≤ i ∧ i < 2 ^ 62 ∧ -(2 ^ 62) ≤ j ∧ j < 2 ^ 62 then .ok ((List.range (j - i).toNat).map fun q => .int (i + (q : Nat))) M1 else .no
  | _ => .no
theorem walk_rng2 {K : PySem.W.Frag} {B : Hp} {ρ : List Addr} {lo : Int} {n : Nat} : WalkD K (Itr lo n) B ρ ((List.range n).map fun q => .int (lo + (q : Nat))) := by
  refine ⟨⟨fun _ => True, _, by simpa using walk_range, fun _ _ => trivial, fun i d h F B1 ρ1 M H x H2 l m y => ?_⟩⟩
  obtain ⟨rfl, rfl⟩ := y
  refine ⟨B1, Le.refl _ _, m, ?_, Ex.refl _⟩
  rw [List.getElem?_map] at h
  cases hr : (List.range n)[i]? with
  | none => rw [hr] at h; cases h
  | some q =>
    rw [hr] at h
    simp at h
    have : q = i := by
      have := (List.getElem?_eq_some_iff.mp hr).2
      simpa using this.symm
    subst this
    rw [← h]
    exact Rp.int (K := K) (B := B1) (ρ := ρ1) (lo + ((q : Nat) : Int))
theorem di_range2 {p0 pos : Pos} (hg : Gl X "range") (hm : X.mg "range" = none) (ha : DA X W [a, b] fa) (hs : starEach [a, b] X.env = [(false, eval a X.env), (false, eval b X.env)] := by rfl) (hs2 : starEach [b] X.env = [(false, eval b X.env)] := by rfl) :
    DI X W tg (.Call (.Name "range" p0) [a, b] [] pos) (xRng2 fa) :=
  PI.imp (pi_range2 hg hm ha hs hs2) fun σ H Q z => by
    obtain ⟨η, F, B, ρ, M, er, m, w⟩ := z
    refine ⟨η, F, B, ρ, M, er, m, w.bind fun ds M1 B1 ρ1 H1 l1 m1 w1 vs rv => ?_⟩
    split at w1
    · next i j =>
      split at w1
      · next hj =>
        cases rv with
        | cons r rr =>
          cases rr with
          | cons r' rr =>
            cases rr
            cases r
            cases r'
            exact ⟨i, j, rfl, hj, Wp.ret w1 m1 _ walk_rng2⟩
      · exact w1.elim
    · exact w1.elim
/-! ### sum, any -/
def asIs : List D → Option (List Int)
  | [] => some []
  | d :: ds => (asI d).bind fun b => (asIs ds).map (b :: ·)
theorem asIs_snd {K : PySem.W.Frag} {B : Hp} {ρ : List Addr} : ∀ {ds : List D} {vs : List V} {bs : List Int}, Rps K B ρ ds vs → asIs ds = some bs → vs = bs.map V.int
  | _, _, _, .nil, h => by cases h; rfl
  | _, _, bs, .cons (d := d) (ds := ds) r t, h => by
    unfold asIs at h
    cases h1 : asI d with
    | none => simp [h1] at h
    | some b =>
      cases h2 : asIs ds with
      | none => simp [h1, h2] at h
      | some cs =>
        simp [h1, h2] at h
        subst h
        rw [asIs_snd t h2, asI_snd r h1]
        rfl
def bSum : OpC := one fun M d => (asL M d).bind fun ds => (asIs ds).map fun ns => .int ns.sum
theorem cd_sum (hc : X.calm = true) : CallD X (.builtin "sum") bSum := by
  refine ⟨_, cr_sum hc, fun F B ρ M H xs ds dz Q m rx e k => ?_⟩
  obtain ⟨d, rfl, h⟩ := one_some e
  cases rx with
  | cons r rr =>
    cases rr
    cases h1 : asL M d with
    | none => simp [h1] at h
    | some es =>
      cases h2 : asIs es with
      | none => simp [h1, h2] at h
      | some bs =>
        simp only [h1, h2, Option.bind_some, Option.map_some] at h
        obtain rfl := Option.some.inj h
        obtain ⟨a, vs, rfl, hs, rs⟩ := asL_snd m r h1
        have := asIs_snd rs h2
        subst this
        exact ⟨a, bs, rfl, hs, k.same m (.int _)⟩
def bAny : OpC := one fun M d => (asL M d).bind fun ds => (asBs ds).map fun bs => .bl (bs.any id)
theorem cd_any (hc : X.calm = true) : CallD X (.builtin "any") bAny := by
  refine ⟨_, cr_any hc, fun F B ρ M H xs ds dz Q m rx e k => ?_⟩
  obtain ⟨d, rfl, h⟩ := one_some e
  cases rx with
  | cons r rr =>
    cases rr
    cases h1 : asL M d with
    | none => simp [h1] at h
    | some es =>
      cases h2 : asBs es with
      | none => simp [h1, h2] at h
      | some bs =>
        simp only [h1, h2, Option.bind_some, Option.map_some] at h
        obtain rfl := Option.some.inj h
        obtain ⟨a, vs, rfl, hs, rs⟩ := asL_snd m r h1
        have := asBs_snd rs h2
        subst this
        exact ⟨a, bs, rfl, hs, k.same m (.bl _)⟩
theorem bt_sum : bootBuiltins "sum" = some (.builtin "sum") := by decide +kernel
theorem bt_any : bootBuiltins "any" = some (.builtin "any") := by decide +kernel
/-! ### == with things that may change -/
def toPM (M : Mem) : D → Option PyData
  | .ptr n => match M[n]? with
    | some (.lst ds) => (toPs ds).map PyData.list
    | _ => none
  | d => toP d
theorem toPM_snd {K : PySem.W.Frag} {F B H : Hp} {ρ : List Addr} {M : Mem} (m : MR K F B ρ M H) {d : D} {v : V} {p : PyData} (r : Rp K B ρ d v) (h : toPM M d = some p) : Dp K H v p := by
  cases r with
  | @ptr n a ha =>
    have h' : (match M[n]? with | some (.lst ds) => (toPs ds).map PyData.list | _ => none) = some p := h
    split at h'
    · next ds hm =>
      obtain ⟨vs, hH, rs, hB⟩ := m.list ha hm
      cases hp : toPs ds with
      | none => simp [hp] at h'
      | some ps =>
        simp [hp] at h'
        subst h'
        exact .lst (sq_of hH) (toPs_snd m.ex rs hp)
    · cases h'
  | non => exact toP_snd (ρ := ρ) m.ex .non h
  | bl b => exact toP_snd (ρ := ρ) m.ex (.bl b) h
  | int b => exact toP_snd (ρ := ρ) m.ex (.int b) h
  | str b => exact toP_snd (ρ := ρ) m.ex (.str b) h
  | lst e q => exact toP_snd m.ex (.lst e q) h
  | tup e q => exact toP_snd m.ex (.tup e q) h
  | dct e q => exact toP_snd m.ex (.dct e q) h
  | scr e => exact toP_snd (ρ := ρ) m.ex (.scr e) h
  | raw v => exact toP_snd (ρ := ρ) m.ex (.raw v) h
mutual
theorem toP_plain : ∀ {d : D} {p : PyData}, toP d = some p → p.plain = true
  | .non, _, h => by unfold toP at h; cases h; rfl
  | .bl _, _, h => by unfold toP at h; cases h; rfl
  | .int _, _, h => by unfold toP at h; cases h; rfl
  | .str _, _, h => by unfold toP at h; cases h; rfl
  | .lst ds, _, h => by
    unfold toP at h
    cases hp : toPs ds with
    | none => simp [hp] at h
    | some ps => simp [hp] at h; subst h; simp only [PyData.plain]; exact toPs_plain hp
  | .tup ds, _, h => by
    unfold toP at h
    cases hp : toPs ds with
    | none => simp [hp] at h
    | some ps => simp [hp] at h; subst h; simp only [PyData.plain]; exact toPs_plain hp
  | .dct _, _, h => by unfold toP at h; cases h
  | .scr _, _, h => by unfold toP at h; cases h
  | .ptr _, _, h => by unfold toP at h; cases h
  | .raw _, _, h => by unfold toP at h; cases h
theorem toPs_plain : ∀ {ds : List D} {ps : List PyData}, toPs ds = some ps → PyData.plainAll ps = true
  | [], _, h => by unfold toPs at h; cases h; rfl
  | d :: ds, _, h => by
    unfold toPs at h
    cases h1 : toP d with
    | none => simp [h1] at h
    | some p =>
      cases h2 : toPs ds with
      | none => simp [h1, h2] at h
      | some ps =>
        simp [h1, h2] at h
        subst h
        simp only [PyData.plainAll, toP_plain h1, toPs_plain h2, Bool.and_self]
end
theorem toPM_plain {M : Mem} {d : D} {p : PyData} (h : toPM M d = some p) : p.plain = true := by
  unfold toPM at h
  split at h
  · split at h
    · next ds _ =>
      cases hp : toPs ds with
      | none => simp [hp] at h
      | some ps => simp [hp] at h; subst h; simp only [PyData.plain]; exact toPs_plain hp
    · cases h
  · exact toP_plain h
def eqM (neg : Bool) : Op2 := fun M x y => (toPM M x).bind fun p => (toPM M y).bind fun q => if p.depth ≤ 60 then some (.bl (if neg then !PyData.eqv p q else PyData.eqv p q)) else none
theorem eqM_some {neg : Bool} {M : Mem} {x y z : D} (h : eqM neg M x y = some z) : ∃ p q, toPM M x = some p ∧ toPM M y = some q ∧ p.depth ≤ 60 ∧ z = .bl (if neg then !PyData.eqv p q else PyData.eqv p q) := by
  unfold eqM at h
  cases h1 : toPM M x with
  | none => simp [h1] at h
  | some p =>
    cases h2 : toPM M y with
    | none => simp [h1, h2] at h
    | some q =>
      simp only [h1, h2, Option.bind_some] at h
      split at h
      · next hs => exact ⟨p, q, rfl, rfl, hs, (Option.some.inj h).symm⟩
      · cases h
def rEqP (K : PySem.W.Frag) (neg : Bool) : R2 := fun x y H Q => ∃ p q, Dp K H x p ∧ Dp K H y q ∧ p.plain = true ∧ q.plain = true ∧ p.depth ≤ 60 ∧ Q (.bl (if neg then !PyData.eqv p q else PyData.eqv p q)) H
theorem op_eqP {k : Nat} (hr : Room k X.A) : OpR X (compareOp .Eq) (rEqP X.K false) := by
  intro pins s σ H x y v u Q I rx ry h
  obtain ⟨p, q, hp, hq, pp, pq, hd, z⟩ := h
  obtain ⟨as, r1⟩ := Dp.reads I p x v hp rx
  obtain ⟨bs, r2⟩ := Dp.reads I q y u hq ry
  have hu := hr.un
  exact PySem.SeqAt.eq_plain r1 r2 pp pq (by omega) ⟨.bl _, H, I, rfl, z⟩
theorem op_neP {k : Nat} (hr : Room k X.A) : OpR X (compareOp .NotEq) (rEqP X.K true) := by
  intro pins s σ H x y v u Q I rx ry h
  obtain ⟨p, q, hp, hq, pp, pq, hd, z⟩ := h
  obtain ⟨as, r1⟩ := Dp.reads I p x v hp rx
  obtain ⟨bs, r2⟩ := Dp.reads I q y u hq ry
  have hu := hr.un
  exact PySem.SeqAt.ne_plain r1 r2 pp pq (by omega) ⟨.bl _, H, I, rfl, z⟩
theorem od_eqM {k : Nat} (hr : Room k X.A) : OpD X (compareOp .Eq) (eqM false) := by
  refine ⟨_, op_eqP hr, fun F B ρ M H x y dx dy dz Q m rx ry e k => ?_⟩
  obtain ⟨p, q, h1, h2, h3, rfl⟩ := eqM_some e
  exact ⟨p, q, toPM_snd m rx h1, toPM_snd m ry h2, toPM_plain h1, toPM_plain h2, h3, k.same m (.bl _)⟩
theorem od_neM {k : Nat} (hr : Room k X.A) : OpD X (compareOp .NotEq) (eqM true) := by
  refine ⟨_, op_neP hr, fun F B ρ M H x y dx dy dz Q m rx ry e k => ?_⟩
  obtain ⟨p, q, h1, h2, h3, rfl⟩ := eqM_some e
  exact ⟨p, q, toPM_snd m rx h1, toPM_snd m ry h2, toPM_plain h1, toPM_plain h2, h3, k.same m (.bl _)⟩
/-- a tuple == () -/
def rEqT0 (K : PySem.W.Frag) : R2 := fun x y H Q => ∃ (a b : Addr) (xs : List V), x = .ref a ∧ y = .ref b ∧ SqT K H a xs ∧ SqT K H b [] ∧ Q (.bl (decide (xs.length = 0))) H
def eqT0 : Op2 := fun _ x y => match x, y with
  | .tup ds, .tup [] => some (.bl (decide (ds.length = 0)))
  | _, _ => none
theorem op_eqT0 {k : Nat} (hr : Room k X.A) : OpR X (compareOp .Eq) (rEqT0 X.K) := by
  intro pins s σ H x y v u Q I rx ry h
  obtain ⟨a, b, xs, rfl, rfl, hs, ht, q⟩ := h
  cases rx
  cases ry
  obtain ⟨its, r, pl, hz⟩ := I.tuple hs
  obtain ⟨it2, r2, pl2, hz2⟩ := I.tuple ht
  cases r2
  have hu := hr.un
  have hl : xs.length = its.length := r.length
  refine SeqAt.eq_tupleAt (e := fun _ => true) pl pl2 (by omega) (fun j h1 h2 => absurd h2 (by simp)) ⟨.bl (decide (xs.length = 0)), H, I, ?_, q⟩
  show _ = Value.bool _
  congr 1
  rw [hl]
  cases its <;> simp
theorem od_eqT0 {k : Nat} (hr : Room k X.A) : OpD X (compareOp .Eq) eqT0 := by
  refine ⟨_, op_eqT0 hr, fun F B ρ M H x y dx dy dz Q m rx ry e k => ?_⟩
  unfold eqT0 at e
  split at e
  · next ds =>
    obtain rfl := Option.some.inj e
    obtain ⟨a, vs, rfl, hs, rs⟩ := asT_snd m rx (ds := ds) rfl
    obtain ⟨b, us, rfl, ht, rt⟩ := asT_snd m ry (ds := []) rfl
    cases rt
    refine ⟨a, b, vs, rfl, rfl, hs, ht, ?_⟩
    rw [← rs.len]
    exact k.same m (.bl _)
  · cases e
def dEq : Op2 := oOr (eqM false) eqT0
theorem od_eq2 {k : Nat} (hr : Room k X.A) : OpD X (compareOp .Eq) dEq := (od_eqM hr).or (od_eqT0 hr)
/-! ### in -/
def flatD : D → Option V
  | .non => some .non
  | .bl b => some (.bl b)
  | .int i => some (.int i)
  | .str s => some (.str s)
  | _ => none
theorem flatD_snd {K : PySem.W.Frag} {B : Hp} {ρ : List Addr} {d : D} {v u : V} (r : Rp K B ρ d v) (h : flatD d = some u) : v = u ∧ flatV u = true := by
  cases r <;> simp [flatD] at h <;> subst h <;> exact ⟨rfl, rfl⟩
def flatDs : List D → Option (List V)
  | [] => some []
  | d :: ds => (flatD d).bind fun b => (flatDs ds).map (b :: ·)
theorem flatDs_snd {K : PySem.W.Frag} {B : Hp} {ρ : List Addr} : ∀ {ds : List D} {vs us : List V}, Rps K B ρ ds vs → flatDs ds = some us → vs = us ∧ us.all flatV = true
  | _, _, _, .nil, h => by cases h; exact ⟨rfl, rfl⟩
  | _, _, _, .cons (d := d) (ds := ds) r t, h => by
    unfold flatDs at h
    cases h1 : flatD d with
    | none => simp [h1] at h
    | some b =>
      cases h2 : flatDs ds with
      | none => simp [h1, h2] at h
      | some cs =>
        simp [h1, h2] at h
        subst h
        obtain ⟨rfl, q⟩ := flatDs_snd t h2
        obtain ⟨rfl, q2⟩ := flatD_snd r h1
        exact ⟨rfl, by rw [List.all_cons, q2, q]; rfl⟩
def seqD (M : Mem) (d : D) : Option (List D) := match asL M d with
  | some ds => some ds
  | none => asT d
def inF (neg : Bool) : Op2 := fun M x y => (flatD x).bind fun v => (seqD M y).bind fun ds => (flatDs ds).map fun us => .bl (if neg then !inV v us else inV v us)
theorem inF_snd {neg : Bool} {K : PySem.W.Frag} : OSnd K (rIn K neg) (inF neg) := fun F B ρ M H x y dx dy dz Q m rx ry e k => by
  unfold inF at e
  cases h1 : flatD dx with
  | none => simp [h1] at e
  | some v =>
    cases h2 : seqD M dy with
    | none => simp [h1, h2] at e
    | some ds =>
      cases h3 : flatDs ds with
      | none => simp [h1, h2, h3] at e
      | some us =>
        simp only [h1, h2, h3, Option.bind_some, Option.map_some] at e
        obtain rfl := Option.some.inj e
        obtain ⟨rfl, fx⟩ := flatD_snd rx h1
        unfold seqD at h2
        split at h2
        · next es he =>
          cases h2
          obtain ⟨a, vs, rfl, hs, rs⟩ := asL_snd m ry he
          obtain ⟨rfl, fs⟩ := flatDs_snd rs h3
          exact ⟨a, _, rfl, .inl hs, fx, fs, k.same m (.bl _)⟩
        · obtain ⟨a, vs, rfl, hs, rs⟩ := asT_snd m ry h2
          obtain ⟨rfl, fs⟩ := flatDs_snd rs h3
          exact ⟨a, _, rfl, .inr hs, fx, fs, k.same m (.bl _)⟩
def inD (neg : Bool) : Op2 := fun M x y => (toP x).bind fun p => (toPM M y).bind fun q => match q with
  | .list ps => if p.depth ≤ 60 then some (.bl (if neg then !ps.any fun z => PyData.eqv z p else ps.any fun z => PyData.eqv z p)) else none
  | .tuple ps => if p.depth ≤ 60 then some (.bl (if neg then !ps.any fun z => PyData.eqv z p else ps.any fun z => PyData.eqv z p)) else none
  | _ => none
theorem inD_some {neg : Bool} {M : Mem} {x y z : D} (h : inD neg M x y = some z) : ∃ p q ps, toP x = some p ∧ toPM M y = some q ∧ (q = .list ps ∨ q = .tuple ps) ∧ p.depth ≤ 60 ∧ z = .bl (if neg then !ps.any fun z => PyData.eqv z p else ps.any fun z => PyData.eqv z p) := by
  unfold inD at h
  cases h1 : toP x with
  | none => simp [h1] at h
  | some p =>
    cases h2 : toPM M y with
    | none => simp [h1, h2] at h
    | some q =>
      simp only [h1, h2, Option.bind_some] at h
      split at h
      · next ps =>
        split at h
        · next hs => exact ⟨p, _, ps, rfl, rfl, .inl rfl, hs, (Option.some.inj h).symm⟩
        · cases h
      · next ps =>
        split at h
        · next hs => exact ⟨p, _, ps, rfl, rfl, .inr rfl, hs, (Option.some.inj h).symm⟩
        · cases h
      · cases h
def rInP (K : PySem.W.Frag) (neg : Bool) : R2 := fun x y H Q => ∃ p q ps, Dp K H x p ∧ Dp K H y q ∧ (q = .list ps ∨ q = .tuple ps) ∧ p.plain = true ∧ PyData.plainAll ps = true ∧ p.depth ≤ 60 ∧ Q (.bl (if neg then !ps.any fun z => PyData.eqv z p else ps.any fun z => PyData.eqv z p)) H
theorem op_inP {k : Nat} (hr : Room k X.A) : OpR X (compareOp .In) (rInP X.K false) := by
  intro pins s σ H x y v u Q I rx ry h
  obtain ⟨p, q, ps, hp, hq, hl, pp, pq, hd, z⟩ := h
  obtain ⟨as, r1⟩ := Dp.reads I p x v hp rx
  obtain ⟨bs, r2⟩ := Dp.reads I q y u hq ry
  have hu := hr.un
  rcases hl with rfl | rfl
  · exact PySem.SeqAt.in_list_data r2 r1 pq pp (by omega) ⟨.bl _, H, I, rfl, z⟩
  · exact PySem.SeqAt.in_tuple_data r2 r1 pq pp (by omega) ⟨.bl _, H, I, rfl, z⟩
theorem op_notInP {k : Nat} (hr : Room k X.A) : OpR X (compareOp .NotIn) (rInP X.K true) := by
  intro pins s σ H x y v u Q I rx ry h
  obtain ⟨p, q, ps, hp, hq, hl, pp, pq, hd, z⟩ := h
  obtain ⟨as, r1⟩ := Dp.reads I p x v hp rx
  obtain ⟨bs, r2⟩ := Dp.reads I q y u hq ry
  have hu := hr.un
  rcases hl with rfl | rfl
  · exact PySem.SeqAt.notIn_list_data r2 r1 pq pp (by omega) ⟨.bl _, H, I, rfl, z⟩
  · exact PySem.SeqAt.notIn_tuple_data r2 r1 pq pp (by omega) ⟨.bl _, H, I, rfl, z⟩
theorem inD_snd {K : PySem.W.Frag} {neg : Bool} : OSnd K (rInP K neg) (inD neg) := fun F B ρ M H x y dx dy dz Q m rx ry e k => by
  obtain ⟨p, q, ps, h1, h2, hl, h3, rfl⟩ := inD_some e
  refine ⟨p, q, ps, toP_snd m.ex rx h1, toPM_snd m ry h2, hl, toP_plain h1, ?_, h3, k.same m (.bl _)⟩
  have := toPM_plain h2
  rcases hl with rfl | rfl <;> (simp only [PyData.plain] at this; exact this)
theorem od_inD {k : Nat} (hr : Room k X.A) : OpD X (compareOp .In) (inD false) := ⟨_, op_inP hr, inD_snd⟩
theorem od_notInD {k : Nat} (hr : Room k X.A) : OpD X (compareOp .NotIn) (inD true) := ⟨_, op_notInP hr, inD_snd⟩
def dIn : Op2 := oOr dInS (oOr (inF false) (inD false))
theorem od_in {k : Nat} (hr : Room k X.A) : OpD X (compareOp .In) dIn := od_inS.or (OpD.or ⟨_, op_in_seq, inF_snd⟩ (od_inD hr))
def dNotIn : Op2 := oOr (inF true) (inD true)
theorem od_notIn {k : Nat} (hr : Room k X.A) : OpD X (compareOp .NotIn) dNotIn := OpD.or ⟨_, op_notIn_seq, inF_snd⟩ (od_notInD hr)
/-! ### lists that change -/
def xAppend (f g : XE) : XE := fun η M => (f η M).bind fun d M1 => match d with
  | .ptr n => match M1[n]? with
    | some (.lst _) => (g η M1).bind fun x M2 => match M2[n]? with
      | some (.lst ds) => if ds.length < 1000000 then .ok .non (M2.set n (.lst (ds ++ [x]))) else .no
      | _ => .no
    | _ => .no
  | _ => .no
theorem de_append (ho : DE X W o f) (he : DE X W e g) (hbase : attributeBase o "append" X.env (eval o X.env) = eval o X.env := by rfl)
    (hfew : ((backTo pos (starEach [e] X.env)).all (fun x => !x.1) && (backToKw pos (keywordEach [] X.env)).all (fun x => x.1.isSome)
      && decide ([e].length + ([] : List Keyword).length + (if ([] : List Keyword).isEmpty then 0 else 1) < 30)) = true := by rfl)
    (hline : (apos.endLine == pos.line) = true := by rfl) (hs : starEach [e] X.env = (false, eval e X.env) :: starEach [] X.env := by rfl) (hplain : (backTo pos (starEach [] X.env)).any (·.1) = false := by rfl) :
    DE X W (.Call (.Attribute o "append" apos) [e] [] pos) (xAppend f g) :=
  PE.imp (pe_bm PySem.F.plainAttrs_list PySem.F.slot_list_append PySem.F.type_list_append mt_append ho (da_cons he da_nil hs) hbase hfew hline hs hplain) fun σ H Q z => by
    obtain ⟨η, F, B, ρ, M, er, m, w⟩ := z
    refine ⟨η, F, B, ρ, M, er, m, w.bind fun d M1 B1 ρ1 H1 l1 m1 w1 x rx => ?_⟩
    cases rx with
    | @ptr n a ha =>
      dsimp only at w1
      split at w1
      · next ds0 hm0 =>
        obtain ⟨us0, hH0, rs0, hB0⟩ := m1.list ha hm0
        refine ⟨.inl ⟨rfl, us0, sq_of hH0⟩, η, F, B1, ρ1, M1, er.mono l1, m1, ?_⟩
        have w1' : Wp X.K X.mg F B1 ρ1 W (fun d B' ρ' H' => ∀ v, Rp X.K B' ρ' d v → Q v H') (((g η M1).bind fun d M1 => R.ok [d] M1).bind fun ds M2 => match ds with
          | [x] => (match M2[n]? with
            | some (.lst ds) => if ds.length < 1000000 then R.ok D.non (M2.set n (.lst (ds ++ [x]))) else .no
            | _ => .no)
          | _ => .no) := by
          rw [R.bind_assoc]
          exact w1
        refine w1'.bind fun ds M2 B2 ρ2 H2 l2 m2 w2 vs rv => ?_
        cases rv with
        | nil => exact w2.elim
        | @cons dx vx _ _ rx rr =>
          cases rr with
          | cons _ _ => exact w2.elim
          | nil =>
            dsimp only at w2
            split at w2
            · next ds hm =>
              split at w2
              · next hlt =>
                obtain ⟨us, hH, rs, hB⟩ := m2.list (l2.at ha) hm
                have hl := rs.len
                refine ⟨a, us, vx, rfl, rfl, hH, by rw [sizeLine_eq]; omega, ?_⟩
                exact w2 _ _ _ (Le.refl _ _) (m2.put (o := .lst (us ++ [vx])) (ob := .lst (ds ++ [dx])) (l2.at ha) hm (by intro z; cases z) ⟨_, upd_same, rs.snoc rx⟩) _ .non
              · exact w2.elim
            · exact w2.elim
      · exact w1.elim
    | _ => exact w1.elim
def xReverse (f : XE) : XE := fun η M => (f η M).bind fun d M1 => match d with
  | .ptr n => match M1[n]? with
    | some (.lst ds) => .ok .non (M1.set n (.lst ds.reverse))
    | _ => .no
  | _ => .no
theorem de_reverse (ho : DE X W o f) (hbase : attributeBase o "reverse" X.env (eval o X.env) = eval o X.env := by rfl) (hline : (apos.endLine == pos.line) = true := by rfl) :
    DE X W (.Call (.Attribute o "reverse" apos) [] [] pos) (xReverse f) :=
  PE.imp (pe_bm0 PySem.F.plainAttrs_list PySem.F.slot_list_reverse PySem.F.type_list_reverse mt_reverse ho hbase hline) fun σ H Q z => by
    obtain ⟨η, F, B, ρ, M, er, m, w⟩ := z
    refine ⟨η, F, B, ρ, M, er, m, w.bind fun d M1 B1 ρ1 H1 l1 m1 w1 x rx => ?_⟩
    cases rx with
    | @ptr n a ha =>
      dsimp only at w1
      split at w1
      · next ds hm =>
        obtain ⟨us, hH, rs, hB⟩ := m1.list ha hm
        refine ⟨.inl ⟨rfl, us, sq_of hH⟩, a, us, rfl, rfl, hH, ?_⟩
        exact w1 _ _ _ (Le.refl _ _) (m1.put (o := .lst us.reverse) (ob := .lst ds.reverse) ha hm (by intro z; cases z) ⟨_, upd_same, rs.rev⟩) _ .non
      · exact w1.elim
    | _ => exact w1.elim
/-! ### name = [.. for ..] -/
theorem ds_setLc {i : Nat} {y : Str} {py spos : Pos} {elt : Expr} {ifs : List Expr} {scope : Scope} {own : List (Str × Nat)} {fi : XI} {ts : List Nat} {gt : XG} {t : XT} {W' : XK} {fin : List D → Mem → R D} (hf : FinOk fin) (hc : X.calm = true) (hN : X.N.Nodup) (hi : DI X W tg it fi) (ok : BlkOk X.N X.env.scope scope own)
    (hg : ∀ (s : Shared) (H : Hp) (C : Addr) (cl : List (Str × Addr)) (fp : List Addr), DG (X.blk s H scope (compEnvC scope cl C X.env) fp) W' tg ts gt) (ht : ∀ (s : Shared) (H : Hp) (C : Addr) (cl : List (Str × Addr)) (fp : List Addr), DTs (X.blk s H scope (compEnvC scope cl C X.env) fp) W' ifs t)
    (he : ∀ (s : Shared) (H : Hp) (C : Addr) (cl : List (Str × Addr)) (fp : List Addr), DE (X.blk s H scope (compEnvC scope cl C X.env) fp) W' elt f) (hts : ∀ i ∈ ts, i ∈ own.map (·.2)) (hy : X.N[i]? = some y := by rfl) (hyl : X.env.scope.names.lookup y = some .local := by rfl)
    (hsw : swapsWith (.ListComp elt [⟨tg, it, ifs, 0⟩] scope pos) (some (.Name y py)) spos.line X.env = pure true := by rfl) (hs : ∀ x, foldedSetIterable it X.env x = pure x := by intro _; rfl) :
    DS X W (.Assign [.Name y py] (.ListComp elt [⟨tg, it, ifs, 0⟩] scope pos) spos) (xAsg (xLc fin fi gt t f (own.map (·.2))) (xgName i)) :=
  PS.imp (ps_setLc (g := tG X.K X.mg W' ts gt) (tt := tT X.K X.mg W' t) (te := tE X.K X.mg W' f) hc hN hy hyl hsw hi ok hg ht he hs) fun E σ H z => de_lc.lcGo hf hts σ H _ (set_snd E σ H z)
end
end Dn

/-! DnPtr: walks over lists that may change (but do not while they are walked) -/
namespace Dn
open PySem L2 Evl
abbrev XP := Dv → Mem → R (Nat × List D)
/-- the list at n is still ds -/
def Ck (n : Nat) (ds : List D) (M : Mem) : Prop := M[n]? = some (.lst ds)
structure WalkP (K : PySem.W.Frag) (J : It) (B : Hp) (ρ : List Addr) (n : Nat) (ds : List D) : Prop where
  w : ∃ (G : Hp → Prop) (Y : Nat → Hp → V → Hp → Prop), Walk J ds.length G Y ∧ (∀ F B1 ρ1 M H, Le B ρ B1 ρ1 → MR K F B1 ρ1 M H → Ck n ds M → G H) ∧
    ∀ (i : Nat) (d : D), ds[i]? = some d → ∀ F B1 ρ1 M H x H2, Le B ρ B1 ρ1 → MR K F B1 ρ1 M H → Ck n ds M → Y i H x H2 → ∃ B2, Le B1 ρ1 B2 ρ1 ∧ MR K F B2 ρ1 M H2 ∧ Rp K B2 ρ1 d x ∧ Ex H H2
def tP (K : PySem.W.Frag) (mg : Str → Option Value) (W : XK) (f : XP) : TI := fun σ H Z => ∃ η F B ρ M, ER K B ρ η σ ∧ MR K F B ρ M H ∧ Wp K mg F B ρ W (fun p B' ρ' H' => ∀ J, WalkP K J B' ρ' p.1 p.2 → Z J H') (f η M)
def DP (X : Cx) (W : XK) (tg iter : Expr) (f : XP) : Prop := PI X tg iter (tP X.K X.mg W f)
section
variable {X : Cx} {W : XK} {a b c e o tg it : Expr} {es : List Expr} {f g k : XE} {fa : XA} {p : XT} {pos : Pos}
def xPt (f : XE) : XP := fun η M => (f η M).bind fun d M1 => match d with
  | .ptr n => match M1[n]? with
    | some (.lst ds) => .ok (n, ds) M1
    | _ => .no
  | _ => .no
theorem dp_ptr (he : DE X W it f) : DP X W tg it (xPt f) := PI.imp (pi_list he) fun σ H Q z => by
  obtain ⟨η, F, B, ρ, M, er, m, w⟩ := z
  refine ⟨η, F, B, ρ, M, er, m, w.bind fun d M1 B1 ρ1 H1 l1 m1 w1 v rv => ?_⟩
  cases rv with
  | @ptr n a ha =>
    dsimp only at w1
    split at w1
    · next ds hm =>
      obtain ⟨vs, hH, rs, hB⟩ := m1.list ha hm
      refine ⟨a, rfl, ⟨vs, sq_of hH⟩, Wp.ret w1 m1 _ ⟨⟨fun H => ∃ vs, SqL X.K H a vs ∧ vs.length = ds.length, fun i H x H2 => H2 = H ∧ ∀ vs, SqL X.K H a vs → vs[i]? = some x, ⟨?_, ?_, ?_⟩, ?_, ?_⟩⟩⟩
      · rintro i H hi ⟨vs, q, hl⟩
        have hi : i < ds.length := hi
        exact ⟨vs, vs[i]'(by omega), q, by simp⟩
      · rintro H ⟨vs, q, hl⟩
        exact ⟨vs, q, by show vs.length ≤ ds.length; omega⟩
      · rintro i H x H2 hi ⟨vs, q, hl⟩ y
        exact ⟨y.1, fun us q2 => y.2 us q2⟩
      · intro F2 B2 ρ2 M2 H2 l2 m2 ck
        obtain ⟨us, h2, r2, _⟩ := m2.list (l2.at ha) ck
        exact ⟨us, sq_of h2, by rw [← r2.len]⟩
      · intro i d hd F2 B2 ρ2 M2 H2 x H3 l2 m2 ck y
        obtain ⟨rfl, hx⟩ := y
        obtain ⟨us, h2, r2, _⟩ := m2.list (l2.at ha) ck
        obtain ⟨v, h3, h4⟩ := r2.get hd
        rw [hx us (sq_of h2)] at h3
        cases h3
        exact ⟨B2, Le.refl _ _, m2, h4, Ex.refl _⟩
    · exact w1.elim
  | _ => exact w1.elim
open Classical in
noncomputable def xForLP (n : Nat) (ds0 : List D) (g : XG) (body : XS) : List D → Dv → Mem → R Fl
  | [], η, M => if Ck n ds0 M then .ok (.nx η) M else .no
  | d :: ds, η, M => if Ck n ds0 M then (g d η M).bind fun η' M1 => (body η' M1).bind fun fl M2 => match fl with
    | .nx η2 => xForLP n ds0 g body ds η2 M2
    | .ct η2 => xForLP n ds0 g body ds η2 M2
    | .bk η2 => .ok (.nx η2) M2
    | .rt v => .ok (.rt v) M2
    else .no
noncomputable def xForP (i : XP) (g : XG) (body : XS) : XS := fun η M => (i η M).bind fun q M1 => xForLP q.1 q.2 g body q.2 η M1
theorem ckF {K : PySem.W.Frag} {mg : Str → Option Value} {F B : Hp} {ρ : List Addr} {P : Fl → Hp → List Addr → Hp → Prop} {n : Nat} {ds0 r : List D} {g : XG} {body : XS} {η : Dv} {M : Mem} (w : Wp K mg F B ρ W P (xForLP n ds0 g body r η M)) : Ck n ds0 M := by
  by_cases h : Ck n ds0 M
  · exact h
  · cases r <;> (unfold xForLP at w; rw [if_neg h] at w; exact w.elim)
theorem ds_forP {body : List Stmt} {fi : XP} {ts : List Nat} {gt : XG} {s : XS} (hp : PassesOwn (model X.prog X.w) X.A X.env X.xe) (hc : X.calm = true) (hi : DP X W tg it fi) (hg : DG X W tg ts gt) (hb : DSs X W body s)
    (hs : ∀ x, foldedSetIterable it X.env x = pure x := by intro _; rfl) : DS X W (.For tg it body [] pos) (xForP fi gt s) := PS.imp (ps_for hp hc hi hg hb hs) fun E σ H z => by
  obtain ⟨η, F, B, ρ, M, er, m, w⟩ := z
  refine ⟨η, F, B, ρ, M, er, m, w.bind fun q M1 B1 ρ1 H1 l1 m1 w1 J wd => ?_⟩
  obtain ⟨nn, ds⟩ := q
  dsimp only at w1 wd
  obtain ⟨G, Y, wk, hG, hY⟩ := wd.w
  refine for_it wk (fun i σ' H' => ∃ η' B' ρ' M', ER X.K B' ρ' η' σ' ∧ MR X.K F B' ρ' M' H' ∧ Le B1 ρ1 B' ρ' ∧ Wp X.K X.mg F B' ρ' W (FlP X.K E) (xForLP nn ds gt s (ds.drop i) η' M')) ⟨η, B1, ρ1, M1, er.mono l1, m1, Le.refl _ _, by simpa using w1⟩
    (fun i σ' H' _ ⟨η', B', ρ', M', _, m', l', w'⟩ => hG F B' ρ' M' H' l' m' (ckF w')) (fun i x σ' H' H2 hi ⟨η', B', ρ', M', e', m', l', w'⟩ y => ?_) (fun σ' H' ⟨η', B', ρ', M', e', m', l', w'⟩ => ?_)
  · have hd : ds[i]? = some ds[i] := List.getElem?_eq_getElem hi
    have ck := ckF w'
    rw [List.drop_eq_getElem_cons hi] at w'
    unfold xForLP at w'
    rw [if_pos ck] at w'
    obtain ⟨B2, l2, m2, r2, _⟩ := hY i ds[i] hd F B' ρ' M' H' x H2 l' m' ck y
    have w2 : Wp X.K X.mg F B2 ρ' W (FlP X.K E) ((gt ds[i] η' M').bind _) := w'.mono l2
    refine ⟨ds[i], η', F, B2, ρ', M', r2, e'.mono l2, m2, w2.bind fun η3 M3 B3 ρ3 H3 l3 m3 w3 σ3 e3 _ => ?_⟩
    refine ⟨η3, F, B3, ρ3, M3, e3, m3, w3.bind fun fl M4 B4 ρ4 H4 l4 m4 w4 => ?_⟩
    have lz : Le B1 ρ1 B4 ρ4 := ((l'.trans l2).trans l3).trans l4
    cases fl with
    | nx η4 => exact fun σ4 e4 => ⟨η4, B4, ρ4, M4, e4, m4, lz, w4⟩
    | ct η4 => exact fun σ4 e4 => ⟨η4, B4, ρ4, M4, e4, m4, lz, w4⟩
    | bk η4 => exact fun σ4 e4 => Wp.ret (P := FlP X.K E) w4 m4 σ4 e4
    | rt v => exact Wp.ret (P := FlP X.K E) w4 m4
  · have ck := ckF w'
    rw [List.drop_length] at w'
    unfold xForLP at w'
    rw [if_pos ck] at w'
    exact Wp.ret (P := FlP X.K E) w' m' σ' e'

open Classical in
noncomputable def xLcLP (n : Nat) (ds0 : List D) (g : XG) (t : XT) (f : XE) : List D → Dv → Mem → R (List D)
  | [], _, M => if Ck n ds0 M then .ok [] M else .no
  | d :: ds, η, M => if Ck n ds0 M then (g d η M).calm.bind fun η' M1 => (t η' M1).calm.bind fun b M2 => if b = true then (f η' M2).calm.bind fun y M3 => (xLcLP n ds0 g t f ds η M3).bind fun r M4 => .ok (y :: r) M4 else xLcLP n ds0 g t f ds η M2
    else .no
noncomputable def xLcP (fin : List D → Mem → R D) (i : XP) (g : XG) (t : XT) (f : XE) (vs : List Nat) : XE := fun η M => (i η M).bind fun q M1 => if q.2.length ≤ 100000 then (xLcLP q.1 q.2 g t f q.2 (wipeD η vs) M1).bind fin else .no
theorem ckL {K : PySem.W.Frag} {mg : Str → Option Value} {F B : Hp} {ρ : List Addr} {P : D → Hp → List Addr → Hp → Prop} {n : Nat} {ds0 r : List D} {g : XG} {t : XT} {f : XE} {η : Dv} {M : Mem} {k : List D → Mem → R D} (w : Wp K mg F B ρ W P ((xLcLP n ds0 g t f r η M).bind k)) : Ck n ds0 M := by
  by_cases h : Ck n ds0 M
  · exact h
  · cases r <;> (unfold xLcLP at w; rw [if_neg h] at w; exact w.elim)
theorem de_lcP {elt : Expr} {ifs : List Expr} {scope : Scope} {own : List (Str × Nat)} {fi : XP} {ts : List Nat} {gt : XG} {t : XT} {W' : XK} {fin : List D → Mem → R D} (hf : FinOk fin) (hc : X.calm = true) (hN : X.N.Nodup) (hi : DP X W tg it fi) (ok : BlkOk X.N X.env.scope scope own)
    (hg : ∀ (s : Shared) (H : Hp) (C : Addr) (cl : List (Str × Addr)) (fp : List Addr), DG (X.blk s H scope (compEnvC scope cl C X.env) fp) W' tg ts gt) (ht : ∀ (s : Shared) (H : Hp) (C : Addr) (cl : List (Str × Addr)) (fp : List Addr), DTs (X.blk s H scope (compEnvC scope cl C X.env) fp) W' ifs t)
    (he : ∀ (s : Shared) (H : Hp) (C : Addr) (cl : List (Str × Addr)) (fp : List Addr), DE (X.blk s H scope (compEnvC scope cl C X.env) fp) W' elt f) (hts : ∀ i ∈ ts, i ∈ own.map (·.2)) (hs : ∀ x, foldedSetIterable it X.env x = pure x := by intro _; rfl) :
    DE X W (.ListComp elt [⟨tg, it, ifs, 0⟩] scope pos) (xLcP fin fi gt t f (own.map (·.2))) := PE.imp (pe_lc (g := tG X.K X.mg W' ts gt) (tt := tT X.K X.mg W' t) (te := tE X.K X.mg W' f) hc hN hi ok hg ht he hs) fun σ H Q z => lcGo hf hts σ H Q z
where
  lcGo {own : List (Str × Nat)} {fi : XP} {ts : List Nat} {gt : XG} {t : XT} {W' : XK} {fin : List D → Mem → R D} {f : XE} (hf : FinOk fin) (hts : ∀ i ∈ ts, i ∈ own.map (·.2)) (σ : L2.St) (H : Hp) (Q : VK) (z : tE X.K X.mg W (xLcP fin fi gt t f (own.map (·.2))) σ H Q) :
      tLc (tP X.K X.mg W fi) (tG X.K X.mg W' ts gt) (tT X.K X.mg W' t) (tE X.K X.mg W' f) (own.map (·.2)) σ H Q := by
    obtain ⟨η, F, B, ρ, M, er, m, w⟩ := z
    refine ⟨η, F, B, ρ, M, er, m, w.bind fun q M1 B1 ρ1 H1 l1 m1 w1 J wd => fun p hp => ?_⟩
    obtain ⟨nn, ds⟩ := q
    dsimp only at w1 wd
    split at w1
    · next hlen =>
      obtain ⟨G, Y, wk, hG, hY⟩ := wd.w
      have hFp : F p = none := fresh_back m1.fr hp
      refine lc_it wk (fun i H' => ∃ B' ρ' M' acc dacc, MR X.K F B' ρ' M' H' ∧ Le B1 ρ1 B' ρ' ∧ H' p = some (.lst acc) ∧ B' p = none ∧ p ∉ ρ' ∧ Rps X.K B' ρ' dacc acc ∧ dacc.length ≤ i ∧
          Wp X.K X.mg F B' ρ' W (fun d B' ρ' H' => ∀ v, Rp X.K B' ρ' d v → Q v H') ((xLcLP nn ds gt t f (ds.drop i) (wipeD η (own.map (·.2))) M').bind fun r M2 => fin (dacc ++ r) M2))
        ⟨B1, ρ1, M1, [], [], m1.more (Ex.new hp), Le.refl _ _, upd_same, fresh_back m1.ex hp, m1.notin hp, .nil, Nat.le_refl _, by simpa using w1⟩
        (fun i H' _ ⟨B', ρ', M', _, _, m', l', _, _, _, _, _, w'⟩ => hG F B' ρ' M' H' l' m' (ckL w')) (fun i x H' H2 hi ⟨B', ρ', M', acc, dacc, m', l', hp', hB', hρ', ra, hla, w'⟩ y => ?_) (fun H' ⟨B', ρ', M', acc, dacc, m', l', hp', hB', hρ', ra, hla, w'⟩ => ?_)
      · have hd : ds[i]? = some ds[i] := List.getElem?_eq_getElem hi
        have ck := ckL w'
        rw [List.drop_eq_getElem_cons hi] at w'
        have m'' : MR X.K (upd F p (.lst acc)) B' ρ' M' H' := add_frame m' hp' hB' hρ'
        obtain ⟨B2, l2, m2, r2, _⟩ := hY i ds[i] hd _ B' ρ' M' H' x H2 l' m'' ck y
        unfold xLcLP at w'
        rw [if_pos ck] at w'
        have e' : ER X.K B2 ρ' (wipeD η (own.map (·.2))) (L2.wipe σ (own.map (·.2))) := (er.mono ((l1.trans l'))).mono l2 |>.wipe _
        cases h1 : gt ds[i] (wipeD η (own.map (·.2))) M' with
        | ex e0 M0 => rw [h1] at w'; exact w'.elim
        | no => rw [h1] at w'; exact w'.elim
        | ok η3 M3 =>
        simp only [h1, R.calm_ok, R.bind_ok] at w'
        refine ⟨ds[i], _, _, B2, ρ', M', r2, e', m2, ?_⟩
        rw [h1]
        intro B3 ρ3 H3 l3 m3 σ3 e3 off3
        refine ⟨wipe_off off3 hts ▸ ?_, ?_⟩
        · have idem : ∀ (vs : List Nat) (τ : L2.St), L2.wipe (L2.wipe τ vs) vs = L2.wipe τ vs := fun vs τ => by
            apply wipe_off (ts := vs) (σ := τ) (σ' := L2.wipe τ vs)
            · refine ⟨L2.wipe_length _ _, fun j hj => ?_⟩
              exact L2.wipe_out hj
            · intro t ht; exact ht
          exact idem _ _
        · cases h2 : t η3 M3 with
          | ex e0 M0 => rw [h2] at w'; exact w'.elim
          | no => rw [h2] at w'; exact w'.elim
          | ok bb M4 =>
          simp only [h2, R.calm_ok, R.bind_ok] at w'
          refine ⟨η3, _, B3, ρ3, M3, e3, m3, ?_⟩
          rw [h2]
          intro B4 ρ4 H4 l4 m4
          have lz : Le B' ρ' B4 ρ4 := (l2.trans l3).trans l4
          cases bb with
          | false =>
            simp only [Bool.false_eq_true, if_false] at w' ⊢
            have hp4 : H4 p = some (.lst acc) := m4.fr p _ upd_same
            obtain ⟨hB4, hρ4⟩ := m4.dj p _ upd_same
            have m5 := (drop_frame m4 hFp (.lst acc)).1
            have same : upd H4 p (.lst acc) = H4 := by
              funext q
              by_cases hq : q = p
              · subst hq; rw [upd_same, hp4]
              · rw [upd_ne hq]
            rw [same] at m5
            exact ⟨B4, ρ4, M4, acc, dacc, m5, l'.trans lz, hp4, hB4, hρ4, ra.mono lz, by omega, w'.mono lz⟩
          | true =>
            simp only [if_true] at w' ⊢
            cases h3 : f η3 M4 with
            | ex e0 M0 => rw [h3] at w'; exact w'.elim
            | no => rw [h3] at w'; exact w'.elim
            | ok yy M5 =>
            simp only [h3, R.calm_ok, R.bind_ok] at w'
            refine ⟨η3, _, B4, ρ4, M4, e3.mono l4, m4, ?_⟩
            rw [h3]
            intro B5 ρ5 H5 l5 m5 v5 r5
            have lz5 : Le B' ρ' B5 ρ5 := lz.trans l5
            have hp5 : H5 p = some (.lst acc) := m5.fr p _ upd_same
            obtain ⟨m6, hB6, hρ6⟩ := drop_frame m5 hFp (.lst (acc ++ [v5]))
            have hl := ra.len
            have hi' : i < 100000 := by omega
            refine ⟨acc, hp5, by rw [← hl]; exact sz_lt (by omega), B5, ρ5, M5, acc ++ [v5], dacc ++ [yy], m6, l'.trans lz5, upd_same, hB6, hρ6, (ra.mono lz5).snoc r5, by simp; omega, ?_⟩
            have w5 := w'.mono lz5
            cases h4 : xLcLP nn ds gt t f (ds.drop (i + 1)) (wipeD η (own.map (·.2))) M5 with
            | ex e0 M0 => rw [h4] at w5; exact w5
            | no => rw [h4] at w5; exact w5.elim
            | ok r6 M6 =>
              simp only [h4, R.bind_ok] at w5
              show Wp X.K X.mg F B5 ρ5 W _ (fin (dacc ++ [yy] ++ r6) M6)
              rw [List.append_assoc]
              exact w5
      · have ck := ckL w'
        rw [List.drop_length] at w'
        unfold xLcLP at w'
        rw [if_pos ck] at w'
        have w2 : Wp X.K X.mg F B' ρ' W (fun d B' ρ' H' => ∀ v, Rp X.K B' ρ' d v → Q v H') (fin (dacc ++ []) M') := w'
        rw [List.append_nil] at w2
        -- the heap without the new list
        have m0 : MR X.K F B' ρ' M' (fun q => if q = p then none else H' q) := by
          refine ⟨fun a v e => ?_, fun a v e => ?_, m'.dj, m'.len, m'.nd, fun n ob h => ?_⟩
          · rw [if_neg (ne_of_none e hB')]; exact m'.ex a v e
          · rw [if_neg (ne_of_none e hFp)]; exact m'.fr a v e
          · obtain ⟨a, ha, hb, r⟩ := m'.ob n ob h
            have na : a ≠ p := fun z => hρ' (z ▸ List.mem_of_getElem? ha)
            exact ⟨a, ha, hb, r.mono (Le.refl _ _) fun w q => by rw [if_neg na]; exact q⟩
        have hq := hf X.K X.mg W F B' _ ρ' M' dacc acc Q m0 ra w2 p (if_pos rfl)
        have same : upd (fun q => if q = p then none else H' q) p (.lst acc) = H' := by
          funext q
          by_cases hq : q = p
          · subst hq; rw [upd_same, hp']
          · rw [upd_ne hq, if_neg hq]
        rw [same] at hq
        exact hq
    · exact w1.elim
end
end Dn

/-! DnZip: zip of two things, each a list or a tuple -/
namespace Dn
open PySem PySem.Spec PyProof.Rows L2 Evl
/-- what stands behind one of zip's iterators: T it at a place, L the thing walked -/
structure Nx (it l : Addr) (xs : Array Value) (T : Heap → Nat → Prop) (L : Heap → Prop) : Prop where
  item : ∀ {prog : Program} {w : World} {A : Around} {E : Value → Shared → Prop} {s : Shared} {k : Nat} {x : Value} {Q : Value → Shared → Prop}, T s.heap k → L s.heap → xs[k]? = some x → (∀ h', T h' (k + 1) → Heap.SameBut it s.heap h' → Q x { s with heap := h' }) →
    wpAny (model prog w) A (Builtin.SmallTypes.nextOf (.ref it)) Q E s
  fin : ∀ {prog : Program} {w : World} {A : Around} {E : Value → Shared → Prop} {s : Shared} {k : Nat} {Q : Value → Shared → Prop}, A.handled = none → T s.heap k → L s.heap → xs[k]? = none →
    (∀ h' e, Heap.ExtBut it s.heap h' → (∃ o, h'.get? e = some o ∧ o.cls = .type "StopIteration") → E (.ref e) { s with heap := h' }) → wpAny (model prog w) A (Builtin.SmallTypes.nextOf (.ref it)) Q E s
  kT : ∀ {h h' : Heap} {k : Nat}, T h k → (∀ o, h.get? it = some o → h'.get? it = some o) → T h' k
  kL : ∀ {h h' : Heap}, L h → (∀ o, h.get? l = some o → h'.get? l = some o) → L h'
  obj : ∀ {h : Heap} {k : Nat}, T h k → ∃ o, h.get? it = some o ∧ ∀ v, o.data ≠ .cell v
theorem nx_list {it l : Addr} {xs : Array Value} : Nx it l xs (fun h k => h.IsListIter it l k) (fun h => h.IsList l xs) :=
  ⟨fun h1 h2 h3 h4 => wpAny_nextOf_list_item h1 h2 h3 h4, fun hh h1 h2 h3 h4 => wpAny_nextOf_list_end hh h1 h2 h3 h4, fun h e => h.at e, fun ⟨o, ho, r⟩ e => ⟨o, e o ho, r⟩,
    fun ⟨o, e, _, d⟩ => ⟨o, e, fun v q => by rw [d] at q; cases q⟩⟩
theorem nx_tup {it l : Addr} {xs : Array Value} : Nx it l xs (fun h k => h.IsTupleIter it l k) (fun h => h.IsTuple l xs) :=
  ⟨fun h1 h2 h3 h4 => RZ.nextOf_tuple_item h1 h2 h3 h4, fun hh h1 h2 h3 h4 => RZ.nextOf_tuple_end hh h1 h2 h3 h4, fun h e => h.at e, fun ⟨o, ho, r⟩ e => ⟨o, e o ho, r⟩,
    fun ⟨o, e, _, d⟩ => ⟨o, e, fun v q => by rw [d] at q; cases q⟩⟩
section
variable {prog : Program} {w : World} {A : Around} {E : Value → Shared → Prop} {s : Shared} {z TI TO i1 i2 l1 l2 : Addr} {k1 k2 : Nat} {xs ys : Array Value} {T1 T2 : Heap → Nat → Prop} {L1 L2 : Heap → Prop} {a b : Value}
theorem zipG_item {x y : Value} {Q : Value → Shared → Prop} (N1 : Nx i1 l1 xs T1 L1) (N2 : Nx i2 l2 ys T2 L2) (D : ZipApart z TI TO i1 i2 l1 l2)
    (hz : IsZip s.heap z TI TO .none) (hTI : IsPair s.heap TI (.ref i1) (.ref i2)) (hTO : IsPair s.heap TO a b) (h1 : T1 s.heap k1) (h2 : T2 s.heap k2) (hl1 : L1 s.heap) (hl2 : L2 s.heap) (hx : xs[k1]? = some x) (hy : ys[k2]? = some y)
    (hQ : ∀ h', IsZip h' z TI TO (rawInt s.heap.objs.size) → IsPair h' TO x y → T1 h' (k1 + 1) → T2 h' (k2 + 1) → IsPair h' s.heap.objs.size x y → h'.objs.size = s.heap.objs.size + 1 →
      (∀ c o, c ≠ z → c ≠ TO → c ≠ i1 → c ≠ i2 → s.heap.get? c = some o → h'.get? c = some o) → Q (.ref s.heap.objs.size) { s with heap := h' }) :
    wpAny (model prog w) A (Builtin.«zip.__next__» ⟨[.ref z], []⟩) (fun fin s' => ∃ v, fin = .done (.ret v) ∧ Q v s') E s := by
  show wpAny _ _ (field (.ref z) 2 >>= _) _ _ _
  refine wpAny_bind (wpAny_field hz rfl (x := .bool false) rfl ?_)
  show wpAny _ _ (field (.ref z) 3 >>= _) _ _ _
  refine wpAny_bind (wpAny_field hz rfl (x := .ref TI) rfl ?_)
  refine wpAny_bind (wpAny_seqItems hTI rfl ?_)
  show wpAny _ _ (Builtin.SmallTypes.ownedTupleIsFree (.ref z) >>= _) _ _ _
  refine wpAny_bind ?_
  unfold Builtin.SmallTypes.ownedTupleIsFree
  refine wpAny_bind (wpAny_field hz rfl (x := .none) rfl (wpAny_pure ?_))
  simp only [if_true]
  refine wpAny_bind (wpAny_rule ?_)
  refine wpAny_bind (wpAny_field hz rfl (x := .ref TO) rfl ?_)
  refine wpAny_bind (wpAny_setField_rec hz (by simp) fun g1 zg1 sg1 => ?_)
  replace zg1 : IsZip g1 z TI TO .ellipsis := zg1
  refine wpAny_bind ?_
  simp only [List.zipIdx_cons, List.zipIdx_nil, List.forIn_cons, List.forIn_nil]
  refine wpAny_bind (wpAny_bind (wpAny_onRaise ?_))
  show wpAny _ _ (Builtin.SmallTypes.nextOf (.ref i1) >>= _) _ _ _
  refine wpAny_bind (N1.item (N1.kT h1 fun o e => sg1.extBut _ _ D.i1z e) (N1.kL hl1 fun o e => sg1.extBut _ _ D.l1z e) hx fun g2 t1 sg2 => wpAny_pure ?_)
  have p2 : IsPair g2 TO a b := sg2.extBut _ _ D.TOi1 (sg1.extBut _ _ D.TOz hTO)
  refine wpAny_bind (wpAny_seqItems p2 rfl ?_)
  refine wpAny_bind (wpAny_updateSeq_pair p2 fun g3 p3 sg3 => ?_)
  replace p3 : IsPair g3 TO x b := p3
  refine wpAny_bind (wpAny_letGo (wpAny_pure ?_))
  refine wpAny_bind (wpAny_bind (wpAny_onRaise ?_))
  show wpAny _ _ (Builtin.SmallTypes.nextOf (.ref i2) >>= _) _ _ _
  refine wpAny_bind (N2.item (N2.kT h2 fun o e => sg3.extBut _ _ D.TOi2.symm (sg2.extBut _ _ D.i12.symm (sg1.extBut _ _ D.i2z e))) (N2.kL hl2 fun o e => sg3.extBut _ _ D.l2TO (sg2.extBut _ _ D.l2i1 (sg1.extBut _ _ D.l2z e))) hy fun g4 t2 sg4 => wpAny_pure ?_)
  have p4 : IsPair g4 TO x b := sg4.extBut _ _ D.TOi2 p3
  refine wpAny_bind (wpAny_seqItems p4 rfl ?_)
  refine wpAny_bind (wpAny_updateSeq_pair p4 fun g5 p5 sg5 => ?_)
  replace p5 : IsPair g5 TO x y := p5
  refine wpAny_bind (wpAny_letGo (wpAny_pure (wpAny_pure ?_)))
  refine wpAny_bind (wpAny_seqItems p5 rfl ?_)
  refine wpAny_bind (wpAny_newTuple ?_)
  have hsz : g5.objs.size = s.heap.objs.size := by rw [sg5.1, sg4.1, sg3.1, sg2.1, sg1.1]
  have z5 : IsZip g5 z TI TO .ellipsis := sg5.extBut _ _ D.TOz.symm (sg4.extBut _ _ D.i2z.symm (sg3.extBut _ _ D.TOz.symm (sg2.extBut _ _ D.i1z.symm zg1)))
  have kp : ∀ c o, c ≠ z → c ≠ TO → c ≠ i1 → c ≠ i2 → s.heap.get? c = some o → g5.get? c = some o := fun c o c1 c2 c3 c4 e =>
    sg5.extBut _ _ c2 (sg4.extBut _ _ c4 (sg3.extBut _ _ c2 (sg2.extBut _ _ c3 (sg1.extBut _ _ c1 e))))
  have u1 : T1 g5 (k1 + 1) := N1.kT t1 fun o e => sg5.extBut _ _ D.TOi1.symm (sg4.extBut _ _ D.i12 (sg3.extBut _ _ D.TOi1.symm e))
  have u2 : T2 g5 (k2 + 1) := N2.kT t2 fun o e => sg5.extBut _ _ D.TOi2.symm e
  have hzlt : z < g5.objs.size := Heap.lt_size z5
  show wpAny _ _ (Builtin.SmallTypes.ownedTupleHandOut (.ref z) (.ref g5.objs.size) >>= _) _ _ _
  refine wpAny_bind ?_
  unfold Builtin.SmallTypes.ownedTupleHandOut
  have z6 : IsZip (g5.push { cls := .type "tuple", data := .seq #[x, y] }) z TI TO .ellipsis := Heap.get?_push_of_some _ z5
  refine wpAny_bind (wpAny_setField_rec z6 (by simp) fun g7 z7 sg7 => ?_)
  replace z7 : IsZip g7 z TI TO (rawInt g5.objs.size) := z7
  refine wpAny_setField_rec z7 (by simp) fun g8 z8 sg8 => ?_
  replace z8 : IsZip g8 z TI TO (rawInt g5.objs.size) := z8
  have up : ∀ c o, c ≠ z → g5.get? c = some o → g8.get? c = some o := fun c o c1 e => sg8.extBut _ _ c1 (sg7.extBut _ _ c1 (Heap.get?_push_of_some _ e))
  have pT : IsPair g8 g5.objs.size x y := sg8.extBut _ _ (Nat.ne_of_gt hzlt) (sg7.extBut _ _ (Nat.ne_of_gt hzlt) (Heap.get?_push_size _ rfl))
  have sz8 : g8.objs.size = g5.objs.size + 1 := by rw [sg8.1, sg7.1, Heap.size_push]
  rw [hsz] at z8 pT sz8
  refine wpAny_pure ⟨_, rfl, ?_⟩
  show Q (.ref g5.objs.size) _
  rw [hsz]
  exact hQ g8 z8 (up _ _ D.TOz p5) (N1.kT u1 fun o e => up _ o D.i1z e) (N2.kT u2 fun o e => up _ o D.i2z e) pT sz8 fun c o c1 c2 c3 c4 e => up c o c1 (kp c o c1 c2 c3 c4 e)
theorem zipG_end {Q : PySem.Fin → Shared → Prop} (N1 : Nx i1 l1 xs T1 L1) (N2 : Nx i2 l2 ys T2 L2) (hh : A.handled = none) (D : ZipApart z TI TO i1 i2 l1 l2)
    (hz : IsZip s.heap z TI TO .none) (hTI : IsPair s.heap TI (.ref i1) (.ref i2)) (hTO : IsPair s.heap TO a b) (h1 : T1 s.heap k1) (h2 : T2 s.heap k2) (hl1 : L1 s.heap) (hl2 : L2 s.heap) (hend : xs[k1]? = none ∨ ys[k2]? = none)
    (hE : ∀ h' e, (∀ c o, c ≠ z → c ≠ TO → c ≠ i1 → c ≠ i2 → s.heap.get? c = some o → h'.get? c = some o) → (∃ o, h'.get? e = some o ∧ o.cls = .type "StopIteration") → E (.ref e) { s with heap := h' }) :
    wpAny (model prog w) A (Builtin.«zip.__next__» ⟨[.ref z], []⟩) Q E s := by
  show wpAny _ _ (field (.ref z) 2 >>= _) _ _ _
  refine wpAny_bind (wpAny_field hz rfl (x := .bool false) rfl ?_)
  show wpAny _ _ (field (.ref z) 3 >>= _) _ _ _
  refine wpAny_bind (wpAny_field hz rfl (x := .ref TI) rfl ?_)
  refine wpAny_bind (wpAny_seqItems hTI rfl ?_)
  show wpAny _ _ (Builtin.SmallTypes.ownedTupleIsFree (.ref z) >>= _) _ _ _
  refine wpAny_bind ?_
  unfold Builtin.SmallTypes.ownedTupleIsFree
  refine wpAny_bind (wpAny_field hz rfl (x := .none) rfl (wpAny_pure ?_))
  simp only [if_true]
  refine wpAny_bind (wpAny_rule ?_)
  refine wpAny_bind (wpAny_field hz rfl (x := .ref TO) rfl ?_)
  refine wpAny_bind (wpAny_setField_rec hz (by simp) fun g1 zg1 sg1 => ?_)
  replace zg1 : IsZip g1 z TI TO .ellipsis := zg1
  refine wpAny_bind ?_
  simp only [List.zipIdx_cons, List.zipIdx_nil, List.forIn_cons, List.forIn_nil]
  refine wpAny_bind (wpAny_bind (wpAny_onRaise ?_))
  show wpAny _ _ (Builtin.SmallTypes.nextOf (.ref i1) >>= _) _ _ _
  have j1 : T1 g1 k1 := N1.kT h1 fun o e => sg1.extBut _ _ D.i1z e
  have j2 : L1 g1 := N1.kL hl1 fun o e => sg1.extBut _ _ D.l1z e
  cases hx : xs[k1]? with
  | none =>
    refine wpAny_bind (N1.fin hh j1 j2 hx fun g2 e sg2 he => ?_)
    obtain ⟨oe, hoe, hce⟩ := he
    have z2 : IsZip g2 z TI TO .ellipsis := sg2 _ _ D.i1z.symm zg1
    have hez : e ≠ z := fun q => by subst q; rw [z2] at hoe; cases hoe; simp at hce
    exact wpAny_setField_rec z2 (by simp) fun g3 _ sg3 => hE g3 e (fun c o c1 _ c3 _ q => sg3.extBut _ _ c1 (sg2 _ _ c3 (sg1.extBut _ _ c1 q))) ⟨oe, sg3.extBut _ _ hez hoe, hce⟩
  | some x =>
    have hy : ys[k2]? = none := by rcases hend with h | h; rw [hx] at h; cases h; exact h
    refine wpAny_bind (N1.item j1 j2 hx fun g2 t1 sg2 => wpAny_pure ?_)
    have p2 : IsPair g2 TO a b := sg2.extBut _ _ D.TOi1 (sg1.extBut _ _ D.TOz hTO)
    refine wpAny_bind (wpAny_seqItems p2 rfl ?_)
    refine wpAny_bind (wpAny_updateSeq_pair p2 fun g3 p3 sg3 => ?_)
    refine wpAny_bind (wpAny_letGo (wpAny_pure ?_))
    refine wpAny_bind (wpAny_bind (wpAny_onRaise ?_))
    show wpAny _ _ (Builtin.SmallTypes.nextOf (.ref i2) >>= _) _ _ _
    refine wpAny_bind (N2.fin hh (N2.kT h2 fun o e => sg3.extBut _ _ D.TOi2.symm (sg2.extBut _ _ D.i12.symm (sg1.extBut _ _ D.i2z e))) (N2.kL hl2 fun o e => sg3.extBut _ _ D.l2TO (sg2.extBut _ _ D.l2i1 (sg1.extBut _ _ D.l2z e))) hy fun g4 e sg4 he => ?_)
    obtain ⟨oe, hoe, hce⟩ := he
    have z4 : IsZip g4 z TI TO .ellipsis := sg4 _ _ D.i2z.symm (sg3.extBut _ _ D.TOz.symm (sg2.extBut _ _ D.i1z.symm zg1))
    have hez : e ≠ z := fun q => by subst q; rw [z4] at hoe; cases hoe; simp at hce
    exact wpAny_setField_rec z4 (by simp) fun g5 _ sg5 => hE g5 e (fun c o c1 c2 c3 c4 q => sg5.extBut _ _ c1 (sg4 _ _ c4 (sg3.extBut _ _ c2 (sg2.extBut _ _ c3 (sg1.extBut _ _ c1 q))))) ⟨oe, sg5.extBut _ _ hez hoe, hce⟩
theorem nextG_item {x y : Value} {Q : Option Value → Shared → Prop} (N1 : Nx i1 l1 xs T1 L1) (N2 : Nx i2 l2 ys T2 L2) (D : ZipApart z TI TO i1 i2 l1 l2)
    (hz : IsZip s.heap z TI TO .none) (hTI : IsPair s.heap TI (.ref i1) (.ref i2)) (hTO : IsPair s.heap TO a b) (h1 : T1 s.heap k1) (h2 : T2 s.heap k2) (hl1 : L1 s.heap) (hl2 : L2 s.heap) (hx : xs[k1]? = some x) (hy : ys[k2]? = some y)
    (hQ : ∀ h', IsZip h' z TI TO (rawInt s.heap.objs.size) → IsPair h' TO x y → T1 h' (k1 + 1) → T2 h' (k2 + 1) → IsPair h' s.heap.objs.size x y → h'.objs.size = s.heap.objs.size + 1 →
      (∀ c o, c ≠ z → c ≠ TO → c ≠ i1 → c ≠ i2 → s.heap.get? c = some o → h'.get? c = some o) → Q (some (.ref s.heap.objs.size)) { s with heap := h' }) :
    wpAny (model prog w) A (pyNext (.ref z)) Q E s := by
  have hT : s.TypeIs (.ref z) "zip" := ⟨_, hz, rfl⟩
  unfold pyNext
  exact wpAny_bind (wpAny_attempt (wpAny_callSpecial?_slot (name := Str.ofString "__next__") hT F.slot_zip_next
    (wpAny_call_entry F.slot_zip_next hT F.entry_zip_next
      (zipG_item N1 N2 D hz hTI hTO h1 h2 hl1 hl2 hx hy fun h' a1 a2 a3 a4 a5 a6 a7 => wpAny_pure (hQ h' a1 a2 a3 a4 a5 a6 a7)) (F.args_zip_next_1 _))))
theorem nextG_end {Q : Option Value → Shared → Prop} (N1 : Nx i1 l1 xs T1 L1) (N2 : Nx i2 l2 ys T2 L2) (hh : A.handled = none) (D : ZipApart z TI TO i1 i2 l1 l2)
    (hz : IsZip s.heap z TI TO .none) (hTI : IsPair s.heap TI (.ref i1) (.ref i2)) (hTO : IsPair s.heap TO a b) (h1 : T1 s.heap k1) (h2 : T2 s.heap k2) (hl1 : L1 s.heap) (hl2 : L2 s.heap) (hend : xs[k1]? = none ∨ ys[k2]? = none)
    (hQ : ∀ h', (∀ c o, c ≠ z → c ≠ TO → c ≠ i1 → c ≠ i2 → s.heap.get? c = some o → h'.get? c = some o) → Q none { s with heap := h' }) : wpAny (model prog w) A (pyNext (.ref z)) Q E s := by
  have hT : s.TypeIs (.ref z) "zip" := ⟨_, hz, rfl⟩
  unfold pyNext
  refine wpAny_bind (wpAny_attempt (wpAny_callSpecial?_slot (name := Str.ofString "__next__") hT F.slot_zip_next
    (wpAny_call_entry F.slot_zip_next hT F.entry_zip_next (zipG_end N1 N2 hh D hz hTI hTO h1 h2 hl1 hl2 hend fun h' e hk he => ?_) (F.args_zip_next_1 _))))
  obtain ⟨o, ho, hc⟩ := he
  refine wpAny_bind (wpAny_isInstance (T := "StopIteration") (b := true) ⟨o, ho, hc⟩ isSubtype_stop ?_)
  exact wpAny_pure (hQ _ hk)
end
end Dn
namespace Dn
open PySem PySem.Spec PyProof.Rows L2 Evl
abbrev zm1 (h : Heap) (l1 : Addr) : Heap := h.push { cls := .type "tuple_iterator", data := .fields #[.ref l1, .int 0 0] }
abbrev zm2 (h : Heap) (l1 l2 : Addr) : Heap := (zm1 h l1).push { cls := .type "list_iterator", data := .fields #[.ref l2, .int 0 0] }
abbrev zm3 (h : Heap) (l1 l2 : Addr) : Heap := (zm2 h l1 l2).push { cls := .type "tuple", data := .seq #[.ref h.objs.size, .ref (zm1 h l1).objs.size] }
abbrev zm4 (h : Heap) (l1 l2 : Addr) : Heap := (zm3 h l1 l2).push { cls := .type "tuple", data := .seq #[.none, .none] }
abbrev zm5 (h : Heap) (l1 l2 : Addr) : Heap := (zm4 h l1 l2).push { cls := .type "zip", data := .fields #[.none, .bool false, .bool false, .ref (zm2 h l1 l2).objs.size, .ref (zm3 h l1 l2).objs.size] }
theorem meets_zm_new (l1 l2 : Addr) (xs ys : Array Value) :
    Meets (Builtin.«zip.__new__» ⟨[.type "zip", .ref l1, .ref l2], []⟩) (fun _ R s => s.heap.IsTuple l1 xs ∧ s.heap.IsList l2 ys ∧
      R (.ok (.ret (.ref (zm4 s.heap l1 l2).objs.size))) { s with heap := zm5 s.heap l1 l2 }) :=
  .of_wp fun prog w A R s h => by
    obtain ⟨hp, g, d, tk, os⟩ := s; obtain ⟨hl1, hl2, h⟩ := h
    have hsub := sub_zip
    have hL1 : Heap.IsTuple (Shared.heap ⟨hp, g, d, tk, os⟩) l1 xs := hl1
    have hL2 : Heap.IsList (Shared.heap ⟨hp.push { cls := .type "tuple_iterator", data := .fields #[.ref l1, .int 0 0] }, g, d, tk, os⟩) l2 ys := Heap.IsList.push hl2 _
    wp_walk using wpAny_pyIter_tuple hL1, wpAny_pyIter_list hL2
    exact ⟨_, rfl, h⟩
section
variable {prog : Program} {w : World} {A : Around} {E : Value → Shared → Prop} {s : Shared}
theorem call_zm {l1 l2 : Addr} {xs ys : Array Value} {Q : Value → Shared → Prop} (hl1 : s.heap.IsTuple l1 xs) (hl2 : s.heap.IsList l2 ys)
    (h : ∀ h', IsZip h' (s.heap.objs.size + 4) (s.heap.objs.size + 2) (s.heap.objs.size + 3) .none → IsPair h' (s.heap.objs.size + 2) (.ref s.heap.objs.size) (.ref (s.heap.objs.size + 1)) →
      IsPair h' (s.heap.objs.size + 3) .none .none → h'.IsTupleIter s.heap.objs.size l1 0 → h'.IsListIter (s.heap.objs.size + 1) l2 0 → (∀ c o, s.heap.get? c = some o → h'.get? c = some o) → Q (.ref (s.heap.objs.size + 4)) { s with heap := h' }) :
    wpAny (model prog w) A (call (.type "zip") [.ref l1, .ref l2]) Q E s := by
  refine callType_new F.called_zip (by decide) (F.typeCall_zip_2 _ _) (F.newCall_zip_2 _ _) (fun obj => F.args_object_init_3 obj _ _) F.entry_zip_new (meets_zm_new l1 l2 xs ys) ⟨hl1, hl2, ?_⟩
  have z1 : (zm1 s.heap l1).objs.size = s.heap.objs.size + 1 := Heap.size_push ..
  have z2 : (zm2 s.heap l1 l2).objs.size = s.heap.objs.size + 2 := by rw [Heap.size_push, z1]
  have z3 : (zm3 s.heap l1 l2).objs.size = s.heap.objs.size + 3 := by rw [Heap.size_push, z2]
  have z4 : (zm4 s.heap l1 l2).objs.size = s.heap.objs.size + 4 := by rw [Heap.size_push, z3]
  have up : ∀ {h : Heap} {c : Addr} {o o' : Obj}, h.get? c = some o → (h.push o').get? c = some o := fun e => Heap.get?_push_of_some _ e
  have g5 : (zm5 s.heap l1 l2).get? (zm4 s.heap l1 l2).objs.size = some _ := Heap.get?_push_size _ rfl
  have g4 : (zm5 s.heap l1 l2).get? (zm3 s.heap l1 l2).objs.size = some _ := up (Heap.get?_push_size _ rfl)
  have g3 : (zm5 s.heap l1 l2).get? (zm2 s.heap l1 l2).objs.size = some _ := up (up (Heap.get?_push_size _ rfl))
  have g2 : (zm5 s.heap l1 l2).get? (zm1 s.heap l1).objs.size = some _ := up (up (up (Heap.get?_push_size _ rfl)))
  have g1 : (zm5 s.heap l1 l2).get? s.heap.objs.size = some _ := up (up (up (up (Heap.get?_push_size _ rfl))))
  show _ ∧ _
  rw [z2, z3, z4] at g5
  rw [z1, z2] at g3
  rw [z3] at g4
  rw [z1] at g2
  rw [z4]
  exact ⟨⟨_, g5, rfl⟩, h _ g5 g3 g4 ⟨_, g1, rfl, rfl⟩ ⟨_, g2, rfl, rfl⟩ fun c o x => up (up (up (up (up x))))⟩
end
/-- the tuple at a and the list at b as they stand at each turn -/
def ItzM (K : PySem.W.Frag) (a b : Addr) : It :=
  ⟨fun i H => ∃ (xs ys : List V) (x y : V), SqT K H a xs ∧ SqL K H b ys ∧ xs[i]? = some x ∧ ys[i]? = some y,
    fun i H v H' => ∃ T x y, v = .ref T ∧ H T = none ∧ H' = upd H T (.tup [x, y]) ∧ (∀ xs, SqT K H a xs → xs[i]? = some x) ∧ ∀ ys, SqL K H b ys → ys[i]? = some y,
    fun i H => ∃ xs ys : List V, SqT K H a xs ∧ SqL K H b ys ∧ (xs.length ≤ i ∨ ys.length ≤ i)⟩
theorem turn_zm {P : Program} {w : World} {K : PySem.W.Frag} {elts : List Expr} {kk : Nat} {tpos : Pos} {a b z TI TO i1 i2 : Addr} (D : ZipApart z TI TO i1 i2 a b) :
    Turn P w K (.Tuple elts kk tpos) (ItzM K a b) [z, TI, TO, i1, i2] z (fun i h => IsZip h z TI TO .none ∧ IsPair h TI (.ref i1) (.ref i2) ∧ (∃ x y, IsPair h TO x y) ∧ h.IsTupleIter i1 a i ∧ h.IsListIter i2 b i) where
  mem := by simp
  obj := fun i h st c hc => by
    obtain ⟨hz, hTI, ⟨x, y, hTO⟩, ⟨o1, e1, _, d1⟩, ⟨o2, e2, _, d2⟩⟩ := st
    have e' : c = z ∨ c = TI ∨ c = TO ∨ c = i1 ∨ c = i2 := by simpa using hc
    rcases e' with q | q | q | q | q
    · rw [q]; exact ⟨_, hz, fun v q => nomatch q⟩
    · rw [q]; exact ⟨_, hTI, fun v q => nomatch q⟩
    · rw [q]; exact ⟨_, hTO, fun v q => nomatch q⟩
    · rw [q]; exact ⟨o1, e1, fun v q => by rw [d1] at q; cases q⟩
    · rw [q]; exact ⟨o2, e2, fun v q => by rw [d2] at q; cases q⟩
  keep := fun i h h' st k => by
    obtain ⟨hz, hTI, ⟨x, y, hTO⟩, h1, h2⟩ := st
    exact ⟨k z (by simp) _ hz, k TI (by simp) _ hTI, ⟨x, y, k TO (by simp) _ hTO⟩, h1.at fun o q => k i1 (by simp) o q, h2.at fun o q => k i2 (by simp) o q⟩
  item := by
    intro X hP hw hK hc i pins s σ H E I hf st hg
    subst hP hw hK
    obtain ⟨hz, hTI, ⟨x0, y0, hTO⟩, h1, h2⟩ := st
    obtain ⟨xs, ys, x, y, hqx, hqy, hx, hy⟩ := hg
    obtain ⟨its, rv, p, _⟩ := I.tuple hqx
    obtain ⟨its2, rv2, p2, _⟩ := I.list hqy
    obtain ⟨u, hu, ru⟩ := rv.get hx
    obtain ⟨u2, hu2, ru2⟩ := rv2.get hy
    have hzl : z < s.heap.objs.size := Heap.lt_size hz
    refine nextG_item nx_tup nx_list D hz hTI hTO h1 h2 p p2.isList (x := u) (y := u2) (by simpa using hu) (by simpa using hu2) fun h' z' TO' h1' h2' hT hsz hk => ?_
    refine ⟨_, rfl, wpAny_letOwnedTupleGo_zip (s := { s with heap := h' }) z' fun h'' z'' sb => ?_⟩
    have hT2 : h''.get? s.heap.objs.size = some { cls := .type "tuple", data := .seq #[u, u2] } := (sb.2 _ (Nat.ne_of_gt hzl)).trans hT
    have new : ObjOk X.prog X.w (upd H s.heap.objs.size (.tup [x, y])) h'' s.heap.objs.size (.tup [x, y]) :=
      ⟨by show 2 ≤ sizeLine; decide, [u, u2], .cons ru (.cons ru2 .nil), ⟨_, hT2, rfl, _, rfl⟩⟩
    have I1 : Inv X pins σ (upd H s.heap.objs.size (.tup [x, y])) { s with heap := h'' } :=
      I.turnedNew (t' := s.toks) (ch := [z, TI, TO, i1, i2]) (fun c o hb q => (sb.2 c (fun q' => hb (by simp [q']))).trans (hk c o (fun q' => hb (by simp [q'])) (fun q' => hb (by simp [q'])) (fun q' => hb (by simp [q'])) (fun q' => hb (by simp [q'])) q)) hf (Nat.le_refl _) new
    refine ⟨.ref s.heap.objs.size, _, I1, rfl, ⟨_, x, y, rfl, I.hok.fresh (Nat.le_refl _), rfl, fun l hl => by rw [I.tuple_inj hl hqx]; exact hx, fun l hl => by rw [I.list_inj hl hqy]; exact hy⟩, ⟨z'', ?_, ⟨u, u2, ?_⟩, ?_, ?_⟩, fun c hcm => ?_⟩
    · exact (sb.2 _ D.TIz).trans (hk _ _ D.TIz D.TITO D.TIi1 D.TIi2 hTI)
    · exact (sb.2 _ D.TOz).trans TO'
    · exact h1'.at fun o q => (sb.2 _ D.i1z).trans q
    · exact h2'.at fun o q => (sb.2 _ D.i2z).trans q
    · have hlt : c < s.heap.objs.size := by
        have e' : c = z ∨ c = TI ∨ c = TO ∨ c = i1 ∨ c = i2 := by simpa using hcm
        rcases e' with q | q | q | q | q
        · rw [q]; exact hzl
        · rw [q]; exact Heap.lt_size hTI
        · rw [q]; exact Heap.lt_size hTO
        · rw [q]; obtain ⟨_, e1, _⟩ := h1; exact Heap.lt_size e1
        · rw [q]; obtain ⟨_, e2, _⟩ := h2; exact Heap.lt_size e2
      rw [upd_ne (Nat.ne_of_lt hlt)]
      exact (hf c hcm).1
  done := by
    intro X hP hw hK hc i pins s σ H E I hf st hg
    subst hP hw hK
    obtain ⟨hz, hTI, ⟨x0, y0, hTO⟩, h1, h2⟩ := st
    obtain ⟨xs, ys, hqx, hqy, hend⟩ := hg
    obtain ⟨its, rv, p, _⟩ := I.tuple hqx
    obtain ⟨its2, rv2, p2, _⟩ := I.list hqy
    have l1 := rv.length
    have l2 := rv2.length
    have he : its.toArray[i]? = none ∨ its2.toArray[i]? = none := by
      rcases hend with q | q
      · exact .inl (by simp; omega)
      · exact .inr (by simp; omega)
    exact nextG_end nx_tup nx_list (I.ok.hd hc) D hz hTI hTO h1 h2 p p2.isList he fun h' hk => ⟨rfl, I.turnedL (t' := s.toks) (ch := [z, TI, TO, i1, i2]) (fun c o hb q =>
      hk c o (fun q' => hb (by simp [q'])) (fun q' => hb (by simp [q'])) (fun q' => hb (by simp [q'])) (fun q' => hb (by simp [q'])) q) hf⟩
  self := fun A i s Q E st h => wpAny_pyIter_zip st.1 h
def iZipM (K : PySem.W.Frag) (ta : TA) : TI := fun σ H R => ta σ H fun vs H1 => ∃ a b xs ys, vs = [.ref a, .ref b] ∧ SqT K H1 a xs ∧ SqL K H1 b ys ∧ R (ItzM K a b) H1
theorem pi_zipM {X : Cx} {e e2 : Expr} {ta : TA} {p pos tpos : Pos} {elts : List Expr} {kk : Nat} (hg : Gl X "zip") (hm : X.mg "zip" = none) (ha : PA X [e, e2] ta)
    (hs : starEach [e, e2] X.env = (false, eval e X.env) :: starEach [e2] X.env := by rfl) (hpl : (backTo pos (starEach [e2] X.env)).any (·.1) = false := by rfl) :
    PI X (.Tuple elts kk tpos) (.Call (.Name "zip" p) [e, e2] [] pos) (iZipM X.K ta) := by
  refine ⟨fun pins s σ H R I h => ?_⟩
  refine Call_ (ld_blt I hg hm PyProof.Rows.boot_zip (PyProof.Rows.callWith_type1 (thn (ha.run pos pins s σ H _ I h) fun us s1 ⟨vs, H1, I1, r1, q1⟩ => ?_) hs hpl))
  obtain ⟨a, b, xs, ys, ex, hqx, hqy, q⟩ := q1
  subst ex
  cases r1 with
  | cons r rr =>
    cases rr with
    | cons r' rr =>
      cases rr
      cases r
      cases r'
      obtain ⟨its, rv, p1, _⟩ := I1.tuple hqx
      obtain ⟨its2, rv2, p2, _⟩ := I1.list hqy
      obtain ⟨o1, ho1, _⟩ := id p1
      refine call_zm (show s1.heap.IsTuple a its.toArray from p1) p2.isList fun h' hz hTI hTO h1 h2 hk => wpAny_pyIter_zip hz ?_
      have I2 : Inv X pins σ H1 { s1 with heap := h' } := I1.kept (t' := s1.toks) hk
      refine ⟨s1.heap.objs.size + 4, [s1.heap.objs.size + 4, s1.heap.objs.size + 2, s1.heap.objs.size + 3, s1.heap.objs.size, s1.heap.objs.size + 1], _, _, H1, rfl, I2, turn_zm (PySem.W.ktu_apart s1.heap.objs.size a b (Heap.lt_size ho1) p2.lt), ⟨hz, hTI, ⟨_, _, hTO⟩, h1, h2⟩, fun c hcm => ?_, q⟩
      have hle : s1.heap.objs.size ≤ c := by
        have e' : c = s1.heap.objs.size + 4 ∨ c = s1.heap.objs.size + 2 ∨ c = s1.heap.objs.size + 3 ∨ c = s1.heap.objs.size ∨ c = s1.heap.objs.size + 1 := by simpa using hcm
        rcases e' with q | q | q | q | q <;> rw [q] <;> first | exact Nat.le_add_right _ _ | exact Nat.le_refl _
      exact I1.fpOk hle (I1.hok.fresh hle)
theorem walk_zm {K : PySem.W.Frag} {a b : Addr} {xs ys : List V} : Walk (ItzM K a b) (min xs.length ys.length) (fun H => SqT K H a xs ∧ SqL K H b ys) (YPair (fun i => xs[i]?) (fun i => ys[i]?)) := by
  refine ⟨fun i _ hi q => ?_, fun _ q => ⟨xs, ys, q.1, q.2, by omega⟩, fun i H v H' _ q y => ?_⟩
  · have h1 : i < xs.length := by omega
    have h2 : i < ys.length := by omega
    exact ⟨xs, ys, xs[i], ys[i], q.1, q.2, by simp [h1], by simp [h2]⟩
  · obtain ⟨T, x, z, h1, h2, h3, h4, h5⟩ := y
    exact ⟨T, x, z, h1, h2, h3, h4 xs q.1, h5 ys q.2⟩
section
variable {X : Cx} {W : XK} {e e2 : Expr} {fa : XA}
/-- zip of a tuple and a list that stays -/
def xZipM (g : XA) : XI := fun η M => (g η M).bind fun ds M1 => match ds with
  | [.tup xs, .lst ys] => .ok (xs.zip ys |>.map fun q => .tup [q.1, q.2]) M1
  | _ => .no
theorem di_zipM {p0 pos tpos : Pos} {elts : List Expr} {kk : Nat} (hg : Gl X "zip") (hm : X.mg "zip" = none) (ha : DA X W [e, e2] fa)
    (hs : starEach [e, e2] X.env = (false, eval e X.env) :: starEach [e2] X.env := by rfl) (hpl : (backTo pos (starEach [e2] X.env)).any (·.1) = false := by rfl) : DI X W (.Tuple elts kk tpos) (.Call (.Name "zip" p0) [e, e2] [] pos) (xZipM fa) :=
  PI.imp (pi_zipM hg hm ha hs hpl) fun σ H Q z => by
    obtain ⟨η, F, B, ρ, M, er, m, w⟩ := z
    refine ⟨η, F, B, ρ, M, er, m, w.bind fun ds M1 B1 ρ1 H1 l1 m1 w1 vs rv => ?_⟩
    split at w1
    · next xs ys =>
      cases rv with
      | cons r rr =>
        cases rr with
        | cons r' rr =>
          cases rr
          cases r with
          | tup e1 q1 =>
            cases r' with
            | lst e2 q2 =>
              exact ⟨_, _, _, _, rfl, ex_t m1.ex e1, sq_of (m1.ex _ _ e2), Wp.ret w1 m1 _ (walk_pair walk_zm (fun H hH => ⟨ex_t hH e1, sq_of (hH _ _ e2)⟩) q1 q2)⟩
    · exact w1.elim
end
end Dn

namespace Dn
open PySem PyProof.Rows L2 Evl
/-! ### how the plain functions reckon -/
section
variable {M : Mem} {i j : Int} {s t : Str} {xs ys ds : List D} {n : Nat} {η : Dv} {d e : D}
theorem ix_nat {α : Type} {l : List α} {k : Nat} : atI l (k : Int) = l[k]? := by
  unfold atI ixN
  by_cases h : k < l.length
  · rw [if_pos (by omega), if_pos (by omega)]
    simp
  · rw [if_pos (by omega), if_neg (by omega)]
    simp at h
    simp [h]
theorem ix_lit {α : Type} {l : List α} {k : Nat} : atI l (OfNat.ofNat k : Int) = l[k]? := ix_nat
theorem ix_0 {α : Type} {l : List α} : atI l (0 : Int) = l[0]? := ix_nat (k := 0)
theorem ix_1 {α : Type} {l : List α} : atI l (1 : Int) = l[1]? := ix_nat (k := 1)
theorem ix_2 {α : Type} {l : List α} : atI l (2 : Int) = l[2]? := ix_nat (k := 2)
theorem ix_3 {α : Type} {l : List α} : atI l (3 : Int) = l[3]? := ix_nat (k := 3)
theorem ix_4 {α : Type} {l : List α} : atI l (4 : Int) = l[4]? := ix_nat (k := 4)
theorem ix_in {α : Type} {l : List α} {i : Int} (h0 : 0 ≤ i) (h1 : i < l.length) : ∃ a, atI l i = some a ∧ a ∈ l := by
  obtain ⟨k, rfl⟩ := Int.eq_ofNat_of_zero_le h0
  rw [ix_nat]
  have hk : k < l.length := by omega
  exact ⟨l[k], List.getElem?_eq_getElem hk, List.getElem_mem hk⟩
theorem ixN_nat {l k : Nat} (h : k < l) : ixN l (k : Int) = some k := by
  unfold ixN
  rw [if_pos (by omega), if_pos (by omega)]
  simp
theorem add_ii : dAdd M (.int i) (.int j) = some (.int (i + j)) := rfl
theorem add_ss (h : s.length + t.length ≤ sizeLine) : dAdd M (.str s) (.str t) = some (.str (s ++ t)) := by
  simp [dAdd, oOr, oI0, asI, sAdd, oS2, asS, h]
theorem add_tt (h : xs.length + ys.length ≤ sizeLine) : dAdd M (.tup xs) (.tup ys) = some (.tup (xs ++ ys)) := by
  simp [dAdd, oOr, oI0, asI, sAdd, oS2, asS, tAdd', asT, h]
theorem add_ll (h : xs.length + ys.length ≤ sizeLine) : dAdd M (.lst xs) (.lst ys) = some (.lst (xs ++ ys)) := by
  simp [dAdd, oOr, oI0, asI, sAdd, oS2, asS, tAdd', asT, lAdd, asP, h]
theorem sub_ii : dSub M (.int i) (.int j) = some (.int (i - j)) := rfl
theorem mul_l (h0 : -(2 ^ 64) < i) (h1 : i < 2 ^ 64) : dMul M (.int i) (.int j) = some (.int (i * j)) := by
  have : CMul i j := .inl ⟨h0, h1⟩
  simp [dMul, oI, asI, this]
theorem mul_r (h0 : -(2 ^ 64) < j) (h1 : j < 2 ^ 64) : dMul M (.int i) (.int j) = some (.int (i * j)) := by
  have : CMul i j := .inr ⟨h0, h1⟩
  simp [dMul, oI, asI, this]
theorem mod_ii (h : 0 < j) : dMod M (.int i) (.int j) = some (.int (i % j)) := by simp [dMod, oI, asI, h]
theorem div_ii (h : 0 < j) (h1 : j < 1073741824) : dDiv M (.int i) (.int j) = some (.int (i / j)) := by
  have : CDiv i j := ⟨h, h1⟩
  simp [dDiv, oI, asI, this]
theorem pow_ii (h : CPw i j) : dPow M (.int i) (.int j) = some (.int (i ^ j.toNat)) := by simp [dPow, oI, asI, h]
theorem lt_ii : dLt M (.int i) (.int j) = some (.bl (decide (i < j))) := rfl
theorem lt_ss : dLt M (.str s) (.str t) = some (.bl (decide (s.cps.toList < t.cps.toList))) := rfl
theorem le_ii : dLe M (.int i) (.int j) = some (.bl (decide (i ≤ j))) := rfl
theorem gt_ii : dGt M (.int i) (.int j) = some (.bl (decide (j < i))) := rfl
theorem ge_ii : dGe M (.int i) (.int j) = some (.bl (decide (j ≤ i))) := rfl
theorem ix_l : dIx M (.lst xs) (.int i) = atI xs i := by
  simp only [dIx, oOr, lIx, tIx, sIx, asL, asI, asT, asS, Option.bind_some, Option.bind_none]
  split <;> simp_all
theorem ix_t : dIx M (.tup xs) (.int i) = atI xs i := by
  simp only [dIx, oOr, lIx, tIx, sIx, asL, asI, asT, asS, Option.bind_some, Option.bind_none]
  split <;> simp_all
theorem ix_p (h : M[n]? = some (.lst xs)) : dIx M (.ptr n) (.int i) = atI xs i := by
  simp only [dIx, oOr, lIx, tIx, sIx, asL, asI, asT, asS, Option.bind_some, Option.bind_none, h]
  split <;> simp_all
theorem ix_sc {ns : List Int} : dIx M (.scr ns) (.int i) = (atI ns i).map D.int := by
  have : atI (ns.map D.int) i = (atI ns i).map D.int := by
    unfold atI
    rw [List.length_map]
    cases ixN ns.length i with
    | none => rfl
    | some j => simp
  simp only [dIx, oOr, lIx, tIx, sIx, asL, asI, asT, asS, Option.bind_some, Option.bind_none, this]
  cases atI ns i <;> rfl
theorem ix_s (h : s.length ≤ sizeLine) : dIx M (.str s) (.int i) = (atI s.cps.toList i).map fun c => .str ⟨#[c]⟩ := by
  simp [dIx, oOr, lIx, tIx, sIx, asL, asI, asT, asS, h]
theorem sl_s {lo hi : Option Int} (h : s.length ≤ sizeLine) : dSl M (.str s) lo hi = some (.str (cutS s lo hi)) := by
  simp [dSl, sOr, lSl, tSl', sSl, asL, asT, asS, h]
theorem sl_t {lo hi : Option Int} : dSl M (.tup xs) lo hi = some (.tup (cutD xs lo hi)) := by
  simp [dSl, sOr, lSl, tSl', sSl, asL, asT, asS]
theorem sl_l {lo hi : Option Int} : dSl M (.lst xs) lo hi = some (.lst (cutD xs lo hi)) := by
  simp [dSl, sOr, lSl, tSl', sSl, asL, asT, asS]
theorem len_l : lenD M (.lst xs) = some xs.length := rfl
theorem len_t : lenD M (.tup xs) = some xs.length := rfl
theorem len_sc {ns : List Int} : lenD M (.scr ns) = some ns.length := by simp [lenD, asL]
theorem len_s (h : s.length ≤ sizeLine) : lenD M (.str s) = some s.length := by simp [lenD, asL, asT, asS, h]
theorem rev_l : revD M (.lst xs) = some (.lst xs.reverse) := rfl
theorem rev_t : revD M (.tup xs) = some (.tup xs.reverse) := rfl
theorem rev_s (h : s.length ≤ sizeLine) : revD M (.str s) = some (.str (revS s)) := by simp [revD, asL, asT, asS, h]
theorem tru_b {b : Bool} : truD M (.bl b) = some b := rfl
theorem blen_l : bLen M [.lst xs] = some (.int xs.length) := rfl
theorem blen_t : bLen M [.tup xs] = some (.int xs.length) := rfl
theorem blen_sc {ns : List Int} : bLen M [.scr ns] = some (.int ns.length) := by simp [bLen, one, len_sc]
theorem blen_s (h : s.length ≤ sizeLine) : bLen M [.str s] = some (.int s.length) := by simp [bLen, one, len_s h]
theorem babs : bAbs M [.int i] = some (.int (if i < 0 then -i else i)) := rfl
theorem bint_b {b : Bool} : bInt M [.bl b] = some (.int (if b then 1 else 0)) := rfl
theorem bmax : bMax M [.int i, .int j] = some (.int (if j > i then j else i)) := rfl
theorem bmin : bMin M [.int i, .int j] = some (.int (if j < i then j else i)) := rfl
theorem blist_t : bList M [.tup xs] = some (.lst xs) := rfl
theorem blist_l : bList M [.lst xs] = some (.lst xs) := rfl
theorem btuple_l : bTuple M [.lst xs] = some (.tup xs) := rfl
theorem btuple_t : bTuple M [.tup xs] = some (.tup xs) := rfl
theorem srt_perm (l : List Str) : (srt l).Perm l := List.mergeSort_perm l leS
theorem bsorted {ss : List Str} (h : ss.length < 64) : bSorted M [.lst (ss.map D.str)] = some (.lst ((srt ss).map D.str)) := by
  have : ∀ ss : List Str, asSs (ss.map D.str) = some ss := by
    intro ss
    induction ss with
    | nil => rfl
    | cons a l ih => simp [asSs, asS, ih]
  simp [bSorted, one, asL, this, h]
theorem line_big : 1000000 ≤ sizeLine := by decide
theorem small_line {n : Nat} (h : n ≤ 100000) : n ≤ sizeLine := Nat.le_trans h (by decide)
end
theorem asSs_map : ∀ ss : List Str, asSs (ss.map D.str) = some ss
  | [] => rfl
  | a :: l => by simp [asSs, asS, asSs_map l]
/-- it comes to something of which P holds -/
def Gv {α : Type} (r : R α) (P : α → Mem → Prop) : Prop := ∃ a M', r = .ok a M' ∧ P a M'
theorem gv_ok {α : Type} {a : α} {M : Mem} {P : α → Mem → Prop} (h : P a M) : Gv (.ok a M) P := ⟨a, M, rfl, h⟩
theorem gv_bind {α β : Type} {r : R α} {k : α → Mem → R β} {P : β → Mem → Prop} (h : Gv r fun a M => Gv (k a M) P) : Gv (r.bind k) P := by
  obtain ⟨a, M, e, h⟩ := h
  rw [e]
  exact h
theorem Gv.imp {α : Type} {r : R α} {P Q : α → Mem → Prop} (h : Gv r P) (i : ∀ a M, P a M → Q a M) : Gv r Q := let ⟨a, M, e, p⟩ := h; ⟨a, M, e, i a M p⟩
theorem gv_of {α : Type} {o : Option α} {M : Mem} {P : α → Mem → Prop} {a : α} (e : o = some a) (h : P a M) : Gv (R.of o M) P := by
  rw [e]
  exact gv_ok h
/-! one rule a word -/
section
variable {M : Mem} {η : Dv} {P : D → Mem → Prop} {PF : Fl → Mem → Prop} {PA : List D → Mem → Prop} {PB : Bool → Mem → Prop} {f g k : XE} {fa ga : XA} {p q : XT} {s u : XS} {i j : Nat} {d : D}
theorem v_var (h : η[i]? = some (some d)) (hp : P d M) : Gv (xVar i η M) P := by
  unfold xVar
  rw [h]
  exact gv_ok hp
theorem v_c (hp : P d M) : Gv (xC d η M) P := gv_ok hp
theorem v_op {h : Op2} (hp : Gv (f η M) fun x M1 => Gv (g η M1) fun y M2 => ∃ z, h M2 x y = some z ∧ P z M2) : Gv (xOp h f g η M) P :=
  gv_bind (hp.imp fun x M1 h1 => gv_bind (h1.imp fun y M2 ⟨z, e, h2⟩ => gv_of e h2))
theorem v_nil (h : PA [] M) : Gv (xNil η M) PA := gv_ok h
theorem v_cons (h : Gv (f η M) fun x M1 => Gv (fa η M1) fun xs M2 => PA (x :: xs) M2) : Gv (xCons f fa η M) PA :=
  gv_bind (h.imp fun x M1 h1 => gv_bind (h1.imp fun y M2 h2 => gv_ok h2))
theorem v_call {h : OpC} (hp : Gv (fa η M) fun ds M1 => ∃ z, h M1 ds = some z ∧ P z M1) : Gv (xCall h fa η M) P := gv_bind (hp.imp fun ds M1 ⟨z, e, h2⟩ => gv_of e h2)
theorem v_fn {n : Nat} {fn : Fn} (hp : Gv (fa η M) fun ds M1 => ds.length = n ∧ Gv (fn ds M1) P) : Gv (xFn n fn fa η M) P := gv_bind (hp.imp fun ds M1 ⟨e, h2⟩ => by
  rw [if_pos e]
  exact h2)
theorem v_fnK {n kk : Nat} {fn : Fn} {fk : XA} (hp : Gv (fa η M) fun ds M1 => Gv (fk η M1) fun cs M2 => (ds.length = n ∧ cs.length = kk) ∧ Gv (fn (ds ++ cs) M2) P) : Gv (xFnK' n kk fn fa fk η M) P := gv_bind (hp.imp fun ds M1 h1 => gv_bind (h1.imp fun cs M2 ⟨e, h2⟩ => by
  rw [if_pos e]
  exact h2))
theorem v_tup (hp : Gv (fa η M) fun ds M1 => ds.length ≤ 100000 ∧ P (.tup ds) M1) : Gv (xTup fa η M) P := gv_bind (hp.imp fun ds M1 ⟨e, h2⟩ => by
  rw [if_pos e]
  exact gv_ok h2)
theorem v_lst (hp : Gv (fa η M) fun ds M1 => ds.length ≤ 100000 ∧ P (.lst ds) M1) : Gv (xLst fa η M) P := gv_bind (hp.imp fun ds M1 ⟨e, h2⟩ => by
  rw [if_pos e]
  exact gv_ok h2)
theorem v_lstM (hp : Gv (fa η M) fun ds M1 => ds.length ≤ 100000 ∧ P (.ptr M1.length) (M1 ++ [.lst ds])) : Gv (xLstM fa η M) P := gv_bind (hp.imp fun ds M1 ⟨e, h2⟩ => by
  rw [if_pos e]
  exact gv_ok h2)
theorem v_neg (hp : Gv (f η M) fun x M1 => ∃ i, x = .int i ∧ P (.int (-i)) M1) : Gv (xNeg f η M) P := gv_bind (hp.imp fun x M1 ⟨i, e, h2⟩ => by
  subst e
  exact gv_ok h2)
theorem v_rev (hp : Gv (f η M) fun x M1 => ∃ z, revD M1 x = some z ∧ P z M1) : Gv (xRev f η M) P := gv_bind (hp.imp fun x M1 ⟨z, e, h2⟩ => gv_of e h2)
theorem v_none {PO : Option Int → Mem → Prop} (h : PO none M) : Gv (xNone η M) PO := gv_ok h
theorem v_some {PO : Option Int → Mem → Prop} (hp : Gv (f η M) fun x M1 => ∃ i, x = .int i ∧ PO (some i) M1) : Gv (xSome f η M) PO := gv_bind (hp.imp fun x M1 ⟨i, e, h2⟩ => by
  subst e
  exact gv_ok h2)
theorem v_sl {h : OpS} {l r : XO} (hp : Gv (f η M) fun x M1 => Gv (l η M1) fun lo M2 => Gv (r η M2) fun hi M3 => ∃ z, h M3 x lo hi = some z ∧ P z M3) : Gv (xSl h f l r η M) P :=
  gv_bind (hp.imp fun x M1 h1 => gv_bind (h1.imp fun lo M2 h2 => gv_bind (h2.imp fun hi M3 ⟨z, e, h3⟩ => gv_of e h3)))
theorem v_tst (hp : Gv (f η M) fun x M1 => ∃ b, x = .bl b ∧ PB b M1) : Gv (xTst f η M) PB := gv_bind (hp.imp fun x M1 ⟨b, e, h2⟩ => by
  subst e
  exact gv_ok h2)
theorem v_tru (hp : Gv (f η M) fun x M1 => ∃ b, truD M1 x = some b ∧ PB b M1) : Gv (xTru f η M) PB := gv_bind (hp.imp fun x M1 ⟨b, e, h2⟩ => gv_of e h2)
theorem v_and (hp : Gv (p η M) fun b M1 => if b = true then Gv (q η M1) PB else PB false M1) : Gv (xAnd p q η M) PB := gv_bind (hp.imp fun b M1 h => by
  cases b with
  | true => exact h
  | false => exact gv_ok h)
theorem v_or (hp : Gv (p η M) fun b M1 => if b = true then PB true M1 else Gv (q η M1) PB) : Gv (xOr p q η M) PB := gv_bind (hp.imp fun b M1 h => by
  cases b with
  | true => exact gv_ok h
  | false => exact h)
theorem v_not (hp : Gv (p η M) fun b M1 => PB (!b) M1) : Gv (xNot p η M) PB := gv_bind (hp.imp fun b M1 h => gv_ok h)
theorem v_andV (hp : Gv (f η M) fun x M1 => ∃ b, x = .bl b ∧ if b = true then Gv (g η M1) P else P (.bl false) M1) : Gv (xAndV f g η M) P := gv_bind (hp.imp fun x M1 ⟨b, e, h⟩ => by
  subst e
  cases b with
  | true => exact h
  | false => exact gv_ok h)
theorem v_if (hp : Gv (p η M) fun b M1 => if b = true then Gv (f η M1) P else Gv (g η M1) P) : Gv (xIf p f g η M) P := gv_bind (hp.imp fun b M1 h => by
  cases b with
  | true => exact h
  | false => exact h)
theorem v_chain {h h' : Op2} (hp : Gv (f η M) fun x M1 => Gv (g η M1) fun y M2 => ∃ b, h M2 x y = some (.bl b) ∧ if b = true then Gv (k η M2) fun z M3 => ∃ w, h' M3 y z = some w ∧ P w M3 else P (.bl false) M2) : Gv (xChain h h' f g k η M) P :=
  gv_bind (hp.imp fun x M1 h1 => gv_bind (h1.imp fun y M2 ⟨b, e, h2⟩ => by
    rw [e]
    show Gv (if b = true then _ else _) P
    cases b with
    | true => exact gv_bind (Gv.imp h2 fun z M3 ⟨w, e3, h3⟩ => gv_of e3 h3)
    | false => exact gv_ok h2))
theorem v_join (hp : Gv (f η M) fun x M1 => ∃ z, x = .str z ∧ Gv (g η M1) fun y M2 => ∃ ss : List Str, y = .lst (ss.map D.str) ∧ (ss.map fun (q : Str) => q.length).sum + ss.length * z.length ≤ 16777216 ∧ P (.str (Txt.join z ss)) M2) : Gv (xJoin f g η M) P :=
  gv_bind (hp.imp fun x M1 ⟨z, e, h1⟩ => by
    subst e
    refine gv_bind (gv_ok (gv_bind (h1.imp fun y M2 ⟨ss, e2, h2, h3⟩ => ?_)))
    subst e2
    exact gv_of (by simp only [asL, Option.bind_some, asSs_map, if_pos h2]) h3)
theorem v_upper (hp : Gv (f η M) fun x M1 => ∃ z : Str, x = .str z ∧ z.length ≤ 5592405 ∧ P (.str (Txt.upper z)) M1) : Gv (xUpper f η M) P := gv_bind (hp.imp fun x M1 ⟨z, e, h, h2⟩ => by
  subst e
  refine gv_bind (gv_ok ?_)
  rw [if_pos h]
  exact gv_ok h2)
theorem v_dict0 (hp : P (.dct []) M) : Gv (xDict0 η M) P := gv_ok hp
theorem v_dict1 (hp : Gv (f η M) fun x M1 => Gv (g η M1) fun y M2 => ∃ k, keyD x = some k ∧ P (.dct [(k, y)]) M2) : Gv (xDict1 f g η M) P := gv_bind (hp.imp fun x M1 h1 => gv_bind (h1.imp fun y M2 ⟨k, e, h2⟩ => gv_of (by rw [e]; rfl) h2))
/-! statements -/
theorem v_seq (h : Gv (s η M) fun fl M1 => Gv (thenS u fl M1) PF) : Gv (xSeq s u η M) PF := gv_bind h
theorem v_nx (h : PF (.nx η) M) : Gv (xNx η M) PF := gv_ok h
theorem v_thn {η' : Dv} (h : Gv (u η' M) PF) : Gv (thenS u (.nx η') M) PF := h
theorem v_thr (h : PF (.rt d) M) : Gv (thenS u (.rt d) M) PF := gv_ok h
theorem v_asg (h : Gv (f η M) fun d M1 => PF (.nx (η.set i (some d))) M1) : Gv (xAsg f (xgName i) η M) PF := gv_bind (h.imp fun d M1 h1 => gv_bind (gv_ok (gv_ok h1)))
theorem v_ret (h : Gv (f η M) fun d M1 => PF (.rt d) M1) : Gv (xRet f η M) PF := gv_bind (h.imp fun d M1 h1 => gv_ok h1)
theorem v_ifS (h : Gv (p η M) fun b M1 => if b = true then Gv (s η M1) PF else Gv (u η M1) PF) : Gv (xIfS p s u η M) PF := gv_bind (h.imp fun b M1 h => by
  cases b with
  | true => exact h
  | false => exact h)
theorem v_par (h : Gv (f η M) fun d M1 => Gv (g η M1) fun c M2 => PF (.nx ((η.set i (some d)).set j (some c))) M2) : Gv (xPar i j f g η M) PF := gv_bind (h.imp fun d M1 h1 => gv_bind (h1.imp fun c M2 h2 => gv_ok h2))
theorem v_setL (h : Gv (f η M) fun d M1 => Gv (g η M1) fun l M2 => Gv (k η M2) fun z M3 => ∃ n ds j q, l = .ptr n ∧ z = .int j ∧ M3[n]? = some (.lst ds) ∧ ixN ds.length j = some q ∧ PF (.nx η) (M3.set n (.lst (ds.set q d)))) : Gv (xSetL f g k η M) PF :=
  gv_bind (h.imp fun d M1 h1 => gv_bind (h1.imp fun l M2 h2 => gv_bind (h2.imp fun z M3 ⟨n, ds, j, q, e1, e2, e3, e4, h3⟩ => by
    subst e1 e2
    simp only [e3, e4]
    exact gv_ok h3)))
theorem v_for {fi : XI} {gt : XG} {PI : List D → Mem → Prop} (h : Gv (fi η M) fun ds M1 => Gv (xForL gt s ds η M1) PF) : Gv (xFor fi gt s η M) PF := gv_bind h
theorem v_rng (h : Gv (fa η M) fun ds M1 => ∃ n : Nat, ds = [.int (n : Int)] ∧ n < 2 ^ 62 ∧ PA ((List.range n).map fun i => .int (i : Nat)) M1) : Gv (xRng fa η M) PA := gv_bind (h.imp fun ds M1 ⟨n, e, hn, h1⟩ => by
  subst e
  show Gv (if _ then _ else _) PA
  rw [if_pos ⟨by omega, by omega⟩]
  exact gv_ok (by simpa using h1))
theorem v_sq (h : Gv (f η M) fun x M1 => ∃ ds, itemsD x = some ds ∧ PA ds M1) : Gv (xSq f η M) PA := gv_bind (h.imp fun x M1 ⟨ds, e, h1⟩ => gv_of e h1)
theorem v_zipT (h : Gv (fa η M) fun ds M1 => ∃ xs ys, ds = [.tup xs, .tup ys] ∧ PA (xs.zip ys |>.map fun q => .tup [q.1, q.2]) M1) : Gv (xZip fa η M) PA := gv_bind (h.imp fun ds M1 ⟨xs, ys, e, h1⟩ => by
  subst e
  exact gv_ok h1)
/-- a for by a word about what is left, the slots and the memory -/
theorem v_forL {gt : XG} (I : List D → Dv → Mem → Prop) (ds : List D) (h0 : I ds η M) (hs : ∀ d r η M, I (d :: r) η M → Gv (gt d η M) fun η1 M1 => Gv (s η1 M1) fun fl M2 => match fl with
    | .nx η2 => I r η2 M2
    | .ct η2 => I r η2 M2
    | .bk η2 => PF (.nx η2) M2
    | .rt v => PF (.rt v) M2) (hd : ∀ η M, I [] η M → PF (.nx η) M) : Gv (xForL gt s ds η M) PF := by
  induction ds generalizing η M with
  | nil => exact gv_ok (hd _ _ h0)
  | cons d r ih =>
    refine gv_bind ((hs d r η M h0).imp fun η1 M1 h1 => gv_bind (Gv.imp h1 fun fl M2 h2 => ?_))
    cases fl with
    | nx η2 => exact ih h2
    | ct η2 => exact ih h2
    | bk η2 => exact gv_ok h2
    | rt v => exact gv_ok h2
theorem calm_gv {α : Type} {r : R α} {P : α → Mem → Prop} (h : Gv r P) : Gv r.calm P := by
  obtain ⟨a, M, e, h⟩ := h
  rw [e]
  exact gv_ok h
/-- a comprehension by a word about what is left, what is made, the memory -/
theorem v_lcL {gt : XG} {t : XT} (I : List D → List D → Mem → Prop) (ds : List D) (hs : ∀ d r acc M, I (d :: r) acc M → Gv (gt d η M) fun η1 M1 => Gv (t η1 M1) fun b M2 => if b = true then Gv (f η1 M2) fun y M3 => I r (acc ++ [y]) M3 else I r acc M2)
    : ∀ acc, (h0 : I ds acc M) → Gv (xLcL gt t f ds η M) fun r M1 => I [] (acc ++ r) M1 := by
  induction ds generalizing M with
  | nil => intro acc h0; exact gv_ok (by simpa using h0)
  | cons d r ih =>
    intro acc h0
    unfold xLcL
    refine gv_bind (calm_gv ((hs d r acc M h0).imp fun η1 M1 h1 => gv_bind (calm_gv (Gv.imp h1 fun b M2 h2 => ?_))))
    cases b with
    | true =>
      simp only [if_true] at h2 ⊢
      refine gv_bind (calm_gv (Gv.imp h2 fun y M3 h3 => gv_bind ((ih _ h3).imp fun q M4 h4 => gv_ok ?_)))
      rw [List.append_assoc] at h4
      exact h4
    | false =>
      simp only [Bool.false_eq_true, if_false] at h2 ⊢
      exact ih _ h2
theorem v_lc {fi : XI} {gt : XG} {t : XT} {vs : List Nat} (h : Gv (fi η M) fun ds M1 => ds.length ≤ 100000 ∧ Gv (xLcL gt t f ds (wipeD η vs) M1) fun r M2 => P (.lst r) M2) : Gv (xLc frozenL fi gt t f vs η M) P := gv_bind (h.imp fun ds M1 ⟨e, h1⟩ => by
  rw [if_pos e]
  exact gv_bind (h1.imp fun r M2 h2 => gv_ok h2))
theorem v_gn {PD : Dv → Mem → Prop} (hp : PD (η.set i (some d)) M) : Gv (xgName i d η M) PD := gv_ok hp
theorem v_yes (h : PB true M) : Gv (xYes η M) PB := gv_ok h
/-- a def: its body -/
theorem v_body {n N : Nat} {b : XS} {ds : List D} (hl : ds.length = n) (h : Gv (b (ds.map some ++ List.replicate (N - n) none) M) fun fl M1 => match fl with
    | .rt d => P d M1
    | .nx _ => P .non M1
    | _ => False) : Gv (callB n N b ds M) P := by
  unfold callB
  rw [if_pos hl]
  refine gv_bind (h.imp fun fl M1 h1 => ?_)
  cases fl with
  | rt d => exact gv_ok h1
  | nx η' => exact gv_ok h1
  | bk _ => exact h1.elim
  | ct _ => exact h1.elim
end
end Dn
namespace Dn
open PySem PyProof.Rows L2 Evl
theorem v_lc_map {gt : XG} {t : XT} {f : XE} {η : Dv} {M : Mem} (h : D → D) : ∀ (ds : List D), (∀ d ∈ ds, Gv (gt d η M) fun η1 M1 => Gv (t η1 M1) fun b M2 => b = true ∧ Gv (f η1 M2) fun y M3 => y = h d ∧ M3 = M) → Gv (xLcL gt t f ds η M) fun r M1 => r = ds.map h ∧ M1 = M
  | [], _ => gv_ok ⟨rfl, rfl⟩
  | d :: ds, hs => by
    unfold xLcL
    refine gv_bind (calm_gv ((hs d (List.mem_cons_self ..)).imp fun η1 M1 h1 => gv_bind (calm_gv (Gv.imp h1 fun b M2 h2 => ?_))))
    obtain ⟨rfl, h2⟩ := h2
    rw [if_pos rfl]
    refine gv_bind (calm_gv (Gv.imp h2 fun y M3 ⟨e1, e2⟩ => ?_))
    subst e1 e2
    exact gv_bind ((v_lc_map h ds fun c hc => hs c (List.mem_cons_of_mem _ hc)).imp fun r M4 ⟨e3, e4⟩ => gv_ok ⟨by rw [e3]; rfl, e4⟩)
theorem asBs_map {α : Type} (p : α → Bool) : ∀ l : List α, asBs (l.map fun d => D.bl (p d)) = some (l.map p)
  | [] => rfl
  | a :: l => by simp [asBs, asB, asBs_map p l]
theorem ball_map {M : Mem} {α : Type} {p : α → Bool} {l : List α} : bAll M [.lst (l.map fun d => .bl (p d))] = some (.bl (l.all p)) := by
  have e : (l.map p).all id = l.all p := by
    induction l with
    | nil => rfl
    | cons a l ih => simp only [List.map_cons, List.all_cons, id, ih]
  simp only [bAll, one, asL, Option.bind_some, asBs_map, Option.map_some, e]
/-- the class of flat and plain things -/
theorem isi_str {M : Mem} {t : Str} : bIsi M [.str t, .raw (.ty "str")] = some (.bl true) := rfl
end Dn

namespace Dn
open PySem PyProof.Rows L2 Evl
section
variable {M : Mem} {η : Dv} {P : D → Mem → Prop} {PF : Fl → Mem → Prop} {PA : List D → Mem → Prop} {PB : Bool → Mem → Prop} {f g k : XE} {fa ga : XA} {p q : XT} {s u : XS} {i j : Nat} {d : D}
theorem v_rng2 (h : Gv (fa η M) fun ds M1 => ∃ lo hi : Nat, ds = [.int (lo : Int), .int (hi : Int)] ∧ lo < 2 ^ 62 ∧ hi < 2 ^ 62 ∧ PA ((List.range (hi - lo)).map fun q => .int ((lo : Int) + (q : Nat))) M1) : Gv (xRng2 fa η M) PA := gv_bind (h.imp fun ds M1 ⟨lo, hi, e, h1, h2, h3⟩ => by
  subst e
  show Gv (if _ then _ else _) PA
  rw [if_pos ⟨by omega, by omega, by omega, by omega⟩]
  have e : ((hi : Int) - (lo : Int)).toNat = hi - lo := by omega
  exact gv_ok (by rw [e]; exact h3))
theorem v_zipM (h : Gv (fa η M) fun ds M1 => ∃ xs ys, ds = [.tup xs, .lst ys] ∧ PA (xs.zip ys |>.map fun q => .tup [q.1, q.2]) M1) : Gv (xZipM fa η M) PA := gv_bind (h.imp fun ds M1 ⟨xs, ys, e, h1⟩ => by
  subst e
  exact gv_ok h1)
theorem v_drop (h : Gv (f η M) fun _ M1 => PF (.nx η) M1) : Gv (xDrop f η M) PF := gv_bind (h.imp fun d M1 h1 => gv_ok h1)
theorem v_append (h : Gv (f η M) fun d M1 => ∃ n ds0, d = .ptr n ∧ M1[n]? = some (.lst ds0) ∧ Gv (g η M1) fun x M2 => ∃ ds, M2[n]? = some (.lst ds) ∧ ds.length < 1000000 ∧ P .non (M2.set n (.lst (ds ++ [x])))) : Gv (xAppend f g η M) P :=
  gv_bind (h.imp fun d M1 ⟨n, ds0, e1, e2, h1⟩ => by
    subst e1
    simp only [e2]
    exact gv_bind (h1.imp fun x M2 ⟨ds, e3, hl, h2⟩ => by
      simp only [e3, if_pos hl]
      exact gv_ok h2))
theorem v_reverse (h : Gv (f η M) fun d M1 => ∃ n ds, d = .ptr n ∧ M1[n]? = some (.lst ds) ∧ P .non (M1.set n (.lst ds.reverse))) : Gv (xReverse f η M) P :=
  gv_bind (h.imp fun d M1 ⟨n, ds, e1, e2, h1⟩ => by
    subst e1
    simp only [e2]
    exact gv_ok h1)
theorem v_lcM {fi : XI} {gt : XG} {t : XT} {vs : List Nat} (h : Gv (fi η M) fun ds M1 => ds.length ≤ 100000 ∧ Gv (xLcL gt t f ds (wipeD η vs) M1) fun r M2 => P (.ptr M2.length) (M2 ++ [.lst r])) : Gv (xLc movingL fi gt t f vs η M) P := gv_bind (h.imp fun ds M1 ⟨e, h1⟩ => by
  rw [if_pos e]
  exact gv_bind (h1.imp fun r M2 h2 => gv_ok h2))
theorem v_lcP {fi : XE} {gt : XG} {t : XT} {vs : List Nat} (h : Gv (fi η M) fun d M1 => ∃ n ds, d = .ptr n ∧ M1[n]? = some (.lst ds) ∧ ds.length ≤ 100000 ∧ Gv (xLcLP n ds gt t f ds (wipeD η vs) M1) fun r M2 => P (.lst r) M2) : Gv (xLcP frozenL (xPt fi) gt t f vs η M) P := gv_bind (gv_bind (h.imp fun d M1 ⟨n, ds, e1, e2, e3, h1⟩ => by
  subst e1
  simp only [e2]
  refine gv_ok ?_
  dsimp only
  rw [if_pos e3]
  exact gv_bind (h1.imp fun r M2 h2 => gv_ok h2)))
theorem v_lcP_map {gt : XG} {t : XT} {n : Nat} {ds0 : List D} (h : D → D) (ck : M[n]? = some (.lst ds0)) : ∀ (ds : List D), (∀ d ∈ ds, Gv (gt d η M) fun η1 M1 => Gv (t η1 M1) fun b M2 => b = true ∧ Gv (f η1 M2) fun y M3 => y = h d ∧ M3 = M) → Gv (xLcLP n ds0 gt t f ds η M) fun r M1 => r = ds.map h ∧ M1 = M
  | [], _ => by
    unfold xLcLP
    rw [if_pos (show Ck n ds0 M from ck)]
    exact gv_ok ⟨rfl, rfl⟩
  | d :: ds, hs => by
    unfold xLcLP
    rw [if_pos (show Ck n ds0 M from ck)]
    refine gv_bind (calm_gv ((hs d (List.mem_cons_self ..)).imp fun η1 M1 h1 => gv_bind (calm_gv (Gv.imp h1 fun b M2 h2 => ?_))))
    obtain ⟨rfl, h2⟩ := h2
    rw [if_pos rfl]
    refine gv_bind (calm_gv (Gv.imp h2 fun y M3 ⟨e1, e2⟩ => ?_))
    rw [e1, e2]
    exact gv_bind ((v_lcP_map h ck ds fun c hc => hs c (List.mem_cons_of_mem _ hc)).imp fun r M4 ⟨e3, e4⟩ => gv_ok ⟨by rw [e3]; rfl, e4⟩)
theorem v_lc_fm {gt : XG} {t : XT} (p : D → Bool) (h : D → D) : ∀ (ds : List D), (∀ d ∈ ds, Gv (gt d η M) fun η1 M1 => Gv (t η1 M1) fun b M2 => b = p d ∧ M2 = M ∧ (p d = true → Gv (f η1 M2) fun y M3 => y = h d ∧ M3 = M)) → Gv (xLcL gt t f ds η M) fun r M1 => r = (ds.filter p).map h ∧ M1 = M
  | [], _ => gv_ok ⟨rfl, rfl⟩
  | d :: ds, hs => by
    unfold xLcL
    refine gv_bind (calm_gv ((hs d (List.mem_cons_self ..)).imp fun η1 M1 h1 => gv_bind (calm_gv (Gv.imp h1 fun b M2 h2 => ?_))))
    obtain ⟨e0, e1, h2⟩ := h2
    rw [e1] at h2 ⊢
    rw [e0]
    have ih := v_lc_fm p h ds fun c hc => hs c (List.mem_cons_of_mem _ hc)
    cases hp : p d with
    | true =>
      rw [if_pos rfl, List.filter_cons_of_pos hp]
      refine gv_bind (calm_gv (Gv.imp (h2 hp) fun y M3 ⟨e1, e2⟩ => ?_))
      rw [e1, e2]
      exact gv_bind (ih.imp fun r M4 ⟨e3, e4⟩ => gv_ok ⟨by rw [e3]; rfl, e4⟩)
    | false =>
      rw [if_neg (by decide), List.filter_cons_of_neg (by rw [hp]; decide)]
      exact ih
/-- the keys -/
theorem keys_map {fn : Fn} (h : D → D) : ∀ (ds : List D), (∀ d ∈ ds, Gv (fn [d] M) fun y M1 => y = h d ∧ M1 = M) → Gv (keysR fn ds M) fun r M1 => r = ds.map h ∧ M1 = M
  | [], _ => gv_ok ⟨rfl, rfl⟩
  | d :: ds, hs => by
    unfold keysR
    refine gv_bind ((hs d (List.mem_cons_self ..)).imp ?_)
    rintro y M3 ⟨e1, e2⟩
    rw [e1, e2]
    exact gv_bind ((keys_map h ds fun c hc => hs c (List.mem_cons_of_mem _ hc)).imp fun r M4 ⟨e3, e4⟩ => gv_ok ⟨by rw [e3]; rfl, e4⟩)
theorem v_sortKM {fn : Fn} (h : Gv (f η M) fun d M1 => ∃ es, asL M1 d = some es ∧ Gv (keysR fn es M1) fun ks M2 => ∃ r, sortK es ks = some r ∧ P (.ptr M2.length) (M2 ++ [.lst r])) : Gv (xSortK movingL fn f η M) P :=
  gv_bind (h.imp fun d M1 ⟨es, e1, h1⟩ => gv_bind (gv_of e1 (gv_bind (h1.imp fun ks M2 ⟨r, e2, h2⟩ => gv_bind (gv_of e2 (gv_ok h2))))))
theorem v_sortKF {fn : Fn} (h : Gv (f η M) fun d M1 => ∃ es, asL M1 d = some es ∧ Gv (keysR fn es M1) fun ks M2 => ∃ r, sortK es ks = some r ∧ P (.lst r) M2) : Gv (xSortK frozenL fn f η M) P :=
  gv_bind (h.imp fun d M1 ⟨es, e1, h1⟩ => gv_bind (gv_of e1 (gv_bind (h1.imp fun ks M2 ⟨r, e2, h2⟩ => gv_bind (gv_of e2 (gv_ok h2))))))
theorem v_orV (hp : Gv (f η M) fun x M1 => ∃ b, x = .bl b ∧ if b = true then P (.bl true) M1 else Gv (g η M1) P) : Gv (xOrV f g η M) P := gv_bind (hp.imp fun x M1 ⟨b, e, h⟩ => by
  subst e
  cases b with
  | true => exact gv_ok h
  | false => exact h)
end
/-! ### sets: all sublists by numbers -/
def ofN : List Str → Nat → List Str
  | [], _ => []
  | s :: r, m => if m % 2 = 1 then s :: ofN r (m / 2) else ofN r (m / 2)
theorem ofN_app (k : Str) : ∀ (ss : List Str) (m : Nat), ofN (ss ++ [k]) m = ofN ss m ++ (if m / 2 ^ ss.length % 2 = 1 then [k] else [])
  | [], m => by
    simp only [List.nil_append, ofN, List.length_nil, Nat.pow_zero, Nat.div_one]
  | s :: r, m => by
    have ih := ofN_app k r (m / 2)
    have e : m / 2 ^ (s :: r).length = m / 2 / 2 ^ r.length := by
      rw [Nat.div_div_eq_div_mul, List.length_cons, Nat.pow_succ, Nat.mul_comm]
    rw [List.cons_append, ofN, ih, e]
    simp only [ofN]
    split <;> rfl
theorem ofN_sub : ∀ (ss : List Str) (m : Nat), (ofN ss m).Sublist ss
  | [], _ => .slnil
  | s :: r, m => by
    unfold ofN
    split
    · exact (ofN_sub r _).cons₂ s
    · exact (ofN_sub r _).cons s
theorem sub_ofN : ∀ {ts ss : List Str}, ts.Sublist ss → ∃ m, m < 2 ^ ss.length ∧ ofN ss m = ts
  | _, _, .slnil => ⟨0, by simp, rfl⟩
  | _, _, .cons (l₂ := r) s h => by
    obtain ⟨m, h1, h2⟩ := sub_ofN h
    refine ⟨2 * m, by rw [List.length_cons, Nat.pow_succ]; omega, ?_⟩
    rw [ofN, if_neg (by omega), show 2 * m / 2 = m by omega, h2]
  | _, _, .cons₂ s h => by
    obtain ⟨m, h1, h2⟩ := sub_ofN h
    refine ⟨2 * m + 1, by rw [List.length_cons, Nat.pow_succ]; omega, ?_⟩
    rw [ofN, if_pos (by omega), show (2 * m + 1) / 2 = m by omega, h2]
theorem ofN_zero : ∀ (ss : List Str), ofN ss 0 = []
  | [] => rfl
  | s :: r => by rw [ofN, if_neg (by omega)]; exact ofN_zero r
theorem ofN_pos : ∀ (ss : List Str) (m : Nat), 0 < m → m < 2 ^ ss.length → ofN ss m ≠ []
  | [], m, h1, h2 => by simp at h2; omega
  | s :: r, m, h1, h2 => by
    unfold ofN
    rw [List.length_cons, Nat.pow_succ] at h2
    split
    · exact List.cons_ne_nil _ _
    · exact ofN_pos r (m / 2) (by omega) (by omega)
/-- in the order in which they are made -/
def subsN (ss : List Str) : List (List Str) := (List.range (2 ^ ss.length)).map (ofN ss)
theorem subsN_snoc (ss : List Str) (k : Str) : subsN (ss ++ [k]) = subsN ss ++ (subsN ss).map (· ++ [k]) := by
  unfold subsN
  rw [List.length_append, List.length_singleton, Nat.pow_succ, Nat.mul_two, List.range_add, List.map_append, List.map_map, List.map_map]
  congr 1
  · refine List.map_congr_left fun m hm => ?_
    have := List.mem_range.mp hm
    rw [ofN_app, Nat.div_eq_of_lt this]
    simp
  · refine List.map_congr_left fun m hm => ?_
    have := List.mem_range.mp hm
    have hp : 0 < 2 ^ ss.length := Nat.two_pow_pos _
    show ofN (ss ++ [k]) (2 ^ ss.length + m) = ofN ss m ++ [k]
    have e : (2 ^ ss.length + m) / 2 ^ ss.length = 1 := by
      rw [Nat.add_div_left _ hp, Nat.div_eq_of_lt this]
    rw [ofN_app, e, if_pos (by decide)]
    congr 1
    exact ofN_mod ss m
where
  ofN_mod : ∀ (ss : List Str) (m : Nat), ofN ss (2 ^ ss.length + m) = ofN ss m
    | [], _ => rfl
    | s :: r, m => by
      have e1 : (2 ^ (s :: r).length + m) % 2 = m % 2 := by rw [List.length_cons, Nat.pow_succ]; omega
      have e2 : (2 ^ (s :: r).length + m) / 2 = 2 ^ r.length + m / 2 := by rw [List.length_cons, Nat.pow_succ]; omega
      rw [ofN, ofN, e1, e2, ofN_mod r]
/-- the sets that are not empty, as made -/
def sets1 (ss : List Str) : List (List Str) := ((List.range (2 ^ ss.length - 1)).map fun m => ofN ss (m + 1))
theorem subs_filter (ss : List Str) : (subsN ss).filter (fun o => !o.isEmpty) = sets1 ss := by
  unfold subsN sets1
  have hp : 0 < 2 ^ ss.length := Nat.two_pow_pos _
  obtain ⟨n, hn⟩ : ∃ n, 2 ^ ss.length = n + 1 := ⟨2 ^ ss.length - 1, by omega⟩
  rw [hn, List.range_succ_eq_map, List.map_cons, ofN_zero, List.filter_cons_of_neg (by simp), List.map_map]
  rw [List.filter_eq_self.mpr]
  · rfl
  · intro o ho
    obtain ⟨m, hm, rfl⟩ := List.mem_map.mp ho
    have := List.mem_range.mp hm
    have h := ofN_pos ss (m + 1) (by omega) (by omega)
    simp only [Function.comp, Nat.succ_eq_add_one]
    cases q : ofN ss (m + 1) with
    | nil => exact absurd q h
    | cons _ _ => rfl
theorem mem_sets1 {ss ts : List Str} : ts ∈ sets1 ss ↔ ts ≠ [] ∧ ts.Sublist ss := by
  unfold sets1
  constructor
  · intro h
    obtain ⟨m, hm, rfl⟩ := List.mem_map.mp h
    have := List.mem_range.mp hm
    exact ⟨ofN_pos ss (m + 1) (by omega) (by omega), ofN_sub ss _⟩
  · rintro ⟨h1, h2⟩
    obtain ⟨m, hm, rfl⟩ := sub_ofN h2
    have h0 : m ≠ 0 := fun e => h1 (by rw [e, ofN_zero])
    exact List.mem_map.mpr ⟨m - 1, List.mem_range.mpr (by omega), by rw [show m - 1 + 1 = m by omega]⟩
/-! ### sorted by size, then as tuples go -/
open PySem.W (alike alikeAll dataLt dataLe)
def tupD (o : List Str) : D := .tup (o.map D.str)
def keyDD (o : List Str) : D := .tup [.int o.length, tupD o]
def tupP (o : List Str) : PyData := .tuple (o.map PyData.str)
def keyP (o : List Str) : PyData := .tuple [.int o.length, tupP o]
theorem toPs_strs : ∀ o : List Str, toPs (o.map D.str) = some (o.map PyData.str)
  | [] => by simp [toPs]
  | a :: l => by simp [toPs, toP, toPs_strs l]
theorem toP_tup (o : List Str) : toP (tupD o) = some (tupP o) := by simp [tupD, tupP, toP, toPs_strs]
theorem toP_key (o : List Str) : toP (keyDD o) = some (keyP o) := by simp [keyDD, keyP, toP, toPs, toP_tup]
theorem toPs_map {α : Type} {f : α → D} {g : α → PyData} (h : ∀ a, toP (f a) = some (g a)) : ∀ l : List α, toPs (l.map f) = some (l.map g)
  | [] => by simp [toPs]
  | a :: l => by simp [toPs, h, toPs_map h l]
theorem alike_strs : ∀ o u : List Str, alikeAll (o.map PyData.str) (u.map PyData.str) = true
  | [], _ => by rw [List.map_nil, alikeAll]
  | _ :: _, [] => by rw [List.map_nil, List.map_cons, alikeAll]
  | a :: o, b :: u => by rw [List.map_cons, List.map_cons, alikeAll, alike_strs o u, alike]; rfl
theorem alike_key (o u : List Str) : alike (keyP o) (keyP u) = true := by
  simp [keyP, tupP, alike, alikeAll, alike_strs]
theorem depth_strs : ∀ o : List Str, PyData.depthAll (o.map PyData.str) = 0
  | [] => by simp [PyData.depthAll]
  | a :: l => by simp [PyData.depthAll, PyData.depth, depth_strs l]
theorem depth_key (o : List Str) : (keyP o).depth ≤ 60 := by
  simp [keyP, tupP, PyData.depth, PyData.depthAll, depth_strs]
theorem sortOk_keys (l : List (List Str)) : sortOk (l.map keyP) = true := by
  unfold sortOk
  simp only [Bool.and_eq_true, Bool.or_eq_true, List.all_eq_true, decide_eq_true_eq]
  refine ⟨⟨fun a ha b hb => ?_, .inl fun a ha => ?_⟩, fun a ha => ?_⟩
  · obtain ⟨o, _, rfl⟩ := List.mem_map.mp ha
    obtain ⟨u, _, rfl⟩ := List.mem_map.mp hb
    exact alike_key o u
  · obtain ⟨o, _, rfl⟩ := List.mem_map.mp ha
    rfl
  · obtain ⟨o, _, rfl⟩ := List.mem_map.mp ha
    exact depth_key o
noncomputable def setSort (l : List (List Str)) : List (List Str) := l.mergeSort (dataLe false keyP)
theorem pD_key (o : List Str) : pD (keyDD o) = keyP o := by simp [pD, toP_key]
theorem dataLe_map {β γ : Type} {k : β → PyData} {k' : γ → PyData} {f : β → γ} (h : ∀ b, k' (f b) = k b) (a b : β) : dataLe false k a b = dataLe false k' (f a) (f b) := by
  show PySem.W.sortLe _ _ _ a b = PySem.W.sortLe _ _ _ (f a) (f b)
  simp only [PySem.W.sortLe, h]
theorem sortD_keys (l : List (List Str)) : sortD (l.map keyDD) = (setSort l).map keyDD := by
  unfold sortD setSort
  exact (List.map_mergeSort (fun a _ b _ => dataLe_map pD_key a b)).symm
theorem sortBy_sets (l : List (List Str)) : sortBy (l.map keyDD) (l.map tupD) = (setSort l).map tupD := by
  unfold sortBy setSort
  have e : (l.map tupD).zip (l.map keyDD) = l.map fun o => (tupD o, keyDD o) := by
    induction l with
    | nil => rfl
    | cons a l ih => simp [ih]
  rw [e, ← List.map_mergeSort (r := dataLe false keyP) (fun a _ b _ => dataLe_map (k' := fun p : D × D => pD p.2) (f := fun o => (tupD o, keyDD o)) pD_key a b), List.map_map]
  rfl
theorem sortK_sets (l : List (List Str)) : sortK (l.map tupD) (l.map keyDD) = some ((setSort l).map tupD) := by
  unfold sortK
  rw [if_pos (by simp), toPs_map toP_key]
  simp only [Option.bind_some, sortOk_keys, if_true, sortBy_sets]
theorem bsort_sets {M : Mem} {n : Nat} (l : List (List Str)) (h : M[n]? = some (.lst (l.map keyDD))) : bSortD M [.ptr n] = some (.lst ((setSort l).map keyDD)) := by
  simp only [bSortD, one, asL, h, Option.bind_some, toPs_map toP_key, sortOk_keys, if_true, sortD_keys]
theorem setSort_perm (l : List (List Str)) : (setSort l).Perm l := List.mergeSort_perm _ _
end Dn

namespace Law
open PySem PyProof.Rows L2 Evl Dn
def top (i : Nat) : Stmt := PySem.Challenge.pw_crowdpurse_k02_sets_in_order.main.body.getD i (.Pass ⟨0, 0, 0, 0⟩)
/-- what the module's names hold -/
structure G (mg : Str → Option Value) : Prop where
  z_abs : mg "abs" = none
  z_all : mg "all" = none
  z_bool : mg "bool" = none
  z_int : mg "int" = none
  z_isinstance : mg "isinstance" = none
  z_len : mg "len" = none
  z_list : mg "list" = none
  z_max : mg "max" = none
  z_min : mg "min" = none
  z_range : mg "range" = none
  z_sorted : mg "sorted" = none
  z_str : mg "str" = none
  z_sum : mg "sum" = none
  z_tuple : mg "tuple" = none
  z_zip : mg "zip" = none
/-! is_rising -/
abbrev s_is_rising : Stmt := top 1
abbrev n_is_rising : List Str := ["things", "one", "other"]
theorem sc_is_rising : FnScope n_is_rising ["things"] (defScope s_is_rising) := ⟨rfl, rfl, rfl, by decide +kernel, rfl, by decide +kernel, by decide +kernel⟩
noncomputable def b_is_rising : XS := (xRet (xCall bAll (xCons (xLc frozenL (xZip (xCons (xVar 0) (xCons (xSl dSl (xVar 0) (xSome (xC (.int 1))) xNone) xNil))) (xgTup 2 (xgsCons (xgName 1) (xgsCons (xgName 2) xgsNil))) xYes (xOp dLt (xVar 1) (xVar 2)) [1, 2]) xNil)))
noncomputable def f_is_rising : Fn := callB 1 3 b_is_rising
theorem ok_is_rising {P : Program} {w : World} {K : PySem.W.Frag} {mg : Str → Option Value} {base : Heap} {f : Addr} {fd : FuncData} (T : G mg) (F : Fun K "is_rising" "is_rising" s_is_rising f fd) : FnOk P w K mg base CX0 1 f fd ["things"] (spF K mg 1 f_is_rising) :=
  fn_okE (k := 0) (body := b_is_rising) F sc_is_rising rfl rfl rfl rfl fun cdv A outer s H E W hr =>
  (dss_one (ds_ret (de_callB (cd_all rfl) (by rfl) T.z_all bt_all (da_cons (de_lc (own := [("one", 1), ("other", 2)]) (W' := E0) fin_frozen rfl sc_is_rising.nd (di_zip (by rfl) T.z_zip (da_cons (de_var (i := 0)) (da_cons (de_sl (de_var (i := 0)) (do_some de_int) do_none) da_nil))) (blkOk_by (own := [("one", 1), ("other", 2)]) (N := n_is_rising) (sc := defScope s_is_rising) (by decide +kernel)) (fun _ _ _ _ _ => (dg_tup rfl (dgs_cons (dg_name (i := 1) sc_is_rising.nd) (dgs_cons (dg_name (i := 2) sc_is_rising.nd) dgs_nil)))) (fun _ _ _ _ _ => dts_nil) (fun _ _ _ _ _ => (de_cmp od_lt (de_var (i := 1)) (de_var (i := 2)) (nomark _))) (by decide)) da_nil))))
/-! is_set -/
abbrev s_is_set : Stmt := top 2
abbrev n_is_set : List Str := ["kinds", "thing", "kind"]
theorem sc_is_set : FnScope n_is_set ["kinds", "thing"] (defScope s_is_set) := ⟨rfl, rfl, rfl, by decide +kernel, rfl, by decide +kernel, by decide +kernel⟩
noncomputable def b_is_set : XS := (xSeq (xIfS (xOr (xNot (xTru (xCall bIsi (xCons (xVar 1) (xCons (xC (dOf (.ty "tuple"))) xNil))))) (xTst (xOp (eqM false) (xCall bLen (xCons (xVar 1) xNil)) (xC (.int 0))))) (xRet (xC (.bl false))) xNx) (xRet (xAndV (xCall bAll (xCons (xLc frozenL (xSq (xVar 1)) (xgName 2) xYes (xAndV (xCall bIsi (xCons (xVar 2) (xCons (xC (dOf (.ty "str"))) xNil))) (xOp dIn (xVar 2) (xVar 0))) [2]) xNil)) (xFn 1 f_is_rising (xCons (xVar 1) xNil)))))
noncomputable def f_is_set : Fn := callB 2 3 b_is_set
theorem ok_is_set {P : Program} {w : World} {K : PySem.W.Frag} {mg : Str → Option Value} {base : Heap} {f : Addr} {fd : FuncData} (T : G mg) (C_is_rising : FnD P w K mg base 1 "is_rising" 1 f_is_rising) (F : Fun K "is_set" "is_set" s_is_set f fd) : FnOk P w K mg base CX0 2 f fd ["kinds", "thing"] (spF K mg 2 f_is_set) :=
  fn_okE (k := 1) (body := b_is_set) F sc_is_set rfl rfl rfl rfl fun cdv A outer s H E W hr =>
  (dss_cons (ds_if (dt_w (dw_or (dt_not (dt_tru (de_callB cd_isi (by rfl) T.z_isinstance bt_isinstance (da_cons (de_var (i := 1)) (da_cons (de_bltn (v := .ty "tuple") (by rfl) T.z_tuple bt_tuple rfl) da_nil))))) (dw_or1 (dt_cmp (od_eqM hr) (de_callB cd_len (by rfl) T.z_len bt_len (da_cons (de_var (i := 1)) da_nil)) de_int (nomark _))))) (dss_one (ds_ret de_bl)) dss_nil) (dss_one (ds_ret (de_and (de_callB (cd_all rfl) (by rfl) T.z_all bt_all (da_cons (de_lc (own := [("kind", 2)]) (W' := E0) fin_frozen rfl sc_is_set.nd (di_sq (de_var (i := 1))) (blkOk_by (own := [("kind", 2)]) (N := n_is_set) (sc := defScope s_is_set) (by decide +kernel)) (fun _ _ _ _ _ => (dg_name (i := 2) sc_is_set.nd)) (fun _ _ _ _ _ => dts_nil) (fun _ _ _ _ _ => (de_and (de_callB cd_isi (by rfl) T.z_isinstance bt_isinstance (da_cons (de_var (i := 2)) (da_cons (de_bltn (v := .ty "str") (by rfl) T.z_str bt_str rfl) da_nil))) (de_one (de_cmp (od_in hr) (de_var (i := 2)) (de_var (i := 0)) (by rfl))))) (by decide)) da_nil)) (de_one (de_call C_is_rising (hr.mono (by decide)) (by rfl) (da_cons (de_var (i := 1)) da_nil)))))))
/-! set_order -/
abbrev s_set_order : Stmt := top 3
abbrev n_set_order : List Str := ["of"]
theorem sc_set_order : FnScope n_set_order ["of"] (defScope s_set_order) := ⟨rfl, rfl, rfl, by decide +kernel, rfl, by decide +kernel, by decide +kernel⟩
noncomputable def b_set_order : XS := (xRet (xTup (xCons (xCall bLen (xCons (xVar 0) xNil)) (xCons (xVar 0) xNil))))
noncomputable def f_set_order : Fn := callB 1 1 b_set_order
theorem ok_set_order {P : Program} {w : World} {K : PySem.W.Frag} {mg : Str → Option Value} {base : Heap} {f : Addr} {fd : FuncData} (T : G mg) (F : Fun K "set_order" "set_order" s_set_order f fd) : FnOk P w K mg base CX0 1 f fd ["of"] (spF K mg 1 f_set_order) :=
  fn_okE (k := 0) (body := b_set_order) F sc_set_order rfl rfl rfl rfl fun cdv A outer s H E W hr =>
  (dss_one (ds_ret (de_tup (da_cons (de_callB cd_len (by rfl) T.z_len bt_len (da_cons (de_var (i := 0)) da_nil)) (da_cons (de_var (i := 0)) da_nil)))))
/-! sets_of -/
abbrev s_sets_of : Stmt := top 4
abbrev n_sets_of : List Str := ["kinds", "found", "kind", "of"]
theorem sc_sets_of : FnScope n_sets_of ["kinds"] (defScope s_sets_of) := ⟨rfl, rfl, rfl, by decide +kernel, rfl, by decide +kernel, by decide +kernel⟩
noncomputable def b_sets_of : XS := (xSeq (xAsg (xLst (xCons (xTup xNil) xNil)) (xgName 1)) (xSeq (xFor (xSq (xVar 0)) (xgName 2) (xAsg (xOp dAdd (xVar 1) (xLc frozenL (xSq (xVar 1)) (xgName 3) xYes (xOp dAdd (xVar 3) (xTup (xCons (xVar 2) xNil))) [3])) (xgName 1))) (xRet (xSortK movingL f_set_order (xLc frozenL (xSq (xVar 1)) (xgName 3) (xTst (xOp (eqM true) (xVar 3) (xTup xNil))) (xVar 3) [3])))))
noncomputable def f_sets_of : Fn := callB 1 4 b_sets_of
theorem ok_sets_of {P : Program} {w : World} {K : PySem.W.Frag} {mg : Str → Option Value} {base : Heap} {f : Addr} {fd : FuncData} (T : G mg) (C_set_order : FnD P w K mg base 1 "set_order" 1 f_set_order) (F : Fun K "sets_of" "sets_of" s_sets_of f fd) : FnOk P w K mg base CX0 4 f fd ["kinds"] (spF K mg 1 f_sets_of) :=
  fn_okE (k := 3) (body := b_sets_of) F sc_sets_of rfl rfl rfl rfl fun cdv A outer s H E W hr =>
  (dss_cons (ds_set (i := 1) sc_sets_of.nd (de_lst (da_cons (de_tup da_nil) da_nil))) (dss_cons (ds_for PassesOwn.never rfl (di_sq (de_var (i := 0))) (dg_name (i := 2) sc_sets_of.nd) (dss_one (ds_set (i := 1) sc_sets_of.nd (de_op od_add (de_var (i := 1)) (de_lc (own := [("of", 3)]) (W' := E0) fin_frozen rfl sc_sets_of.nd (di_sq (de_var (i := 1))) (blkOk_by (own := [("of", 3)]) (N := n_sets_of) (sc := defScope s_sets_of) (by decide +kernel)) (fun _ _ _ _ _ => (dg_name (i := 3) sc_sets_of.nd)) (fun _ _ _ _ _ => dts_nil) (fun _ _ _ _ _ => (de_op od_add (de_var (i := 3)) (de_tup (da_cons (de_var (i := 2)) da_nil)))) (by decide)))))) (dss_one (ds_ret (de_sortK fin_moving C_set_order (hr.mono (by decide)) (by rfl) (by rfl) T.z_sorted (de_lc (own := [("of", 3)]) (W' := E0) fin_frozen rfl sc_sets_of.nd (di_sq (de_var (i := 1))) (blkOk_by (own := [("of", 3)]) (N := n_sets_of) (sc := defScope s_sets_of) (by decide +kernel)) (fun _ _ _ _ _ => (dg_name (i := 3) sc_sets_of.nd)) (fun _ _ _ _ _ => (dts_one (dt_cmp (od_neM hr) (de_var (i := 3)) (de_tup da_nil) (nomark _)))) (fun _ _ _ _ _ => (de_var (i := 3))) (by decide)))))))
/-! _law_bag -/
abbrev s_law_bag : Stmt := top 6
abbrev n_law_bag : List Str := ["_law_script", "_law_at", "_law_cell", "_law_far"]
theorem sc_law_bag : FnScope n_law_bag ["_law_script", "_law_at"] (defScope s_law_bag) := ⟨rfl, rfl, rfl, by decide +kernel, rfl, by decide +kernel, by decide +kernel⟩
noncomputable def b_law_bag : XS := (xSeq (xAsg (xOp dAdd (xOp dMul (xC (.int 6011)) (xVar 1)) (xC (.int 29))) (xgName 2)) (xSeq (xIfS (xTst (xOp dLt (xVar 1) (xCall bLen (xCons (xVar 0) xNil)))) (xAsg (xOp dIx (xVar 0) (xVar 1)) (xgName 2)) xNx) (xSeq (xAsg (xCall bAbs (xCons (xVar 2) xNil)) (xgName 3)) (xRet (xLstM (xCons (xOp dMul (xVar 3) (xCall bInt (xCons (xOp dGe (xVar 3) (xOp dPow (xC (.int 10)) (xC (.int 18)))) xNil))) (xCons (xOp dAdd (xOp dAdd (xOp dMod (xVar 2) (xC (.int 1000000000000000003))) (xOp dMul (xOp dMul (xC (.int 7919)) (xVar 1)) (xVar 1))) (xOp dMul (xC (.int 13)) (xVar 1))) (xCons (xC (.int 0)) xNil))))))))
noncomputable def f_law_bag : Fn := callB 2 4 b_law_bag
theorem ok_law_bag {P : Program} {w : World} {K : PySem.W.Frag} {mg : Str → Option Value} {base : Heap} {f : Addr} {fd : FuncData} (T : G mg) (F : Fun K "_law_bag" "_law_bag" s_law_bag f fd) : FnOk P w K mg base CX0 1 f fd ["_law_script", "_law_at"] (spF K mg 2 f_law_bag) :=
  fn_okE (k := 0) (body := b_law_bag) F sc_law_bag rfl rfl rfl rfl fun cdv A outer s H E W hr =>
  (dss_cons (ds_set (i := 2) sc_law_bag.nd (de_op od_add (de_op od_mul de_int (de_var (i := 1))) de_int)) (dss_cons (ds_if (dt_cmp od_lt (de_var (i := 1)) (de_callB cd_len (by rfl) T.z_len bt_len (da_cons (de_var (i := 0)) da_nil)) (nomark _)) (dss_one (ds_set (i := 2) sc_law_bag.nd (de_ix (de_var (i := 0)) (de_var (i := 1))))) dss_nil) (dss_cons (ds_set (i := 3) sc_law_bag.nd (de_callB cd_abs (by rfl) T.z_abs bt_abs (da_cons (de_var (i := 2)) da_nil))) (dss_one (ds_ret (de_lstM (da_cons (de_op od_mul (de_var (i := 3)) (de_callTy cd_int (by rfl) T.z_int bt_int (da_cons (de_cmp od_ge (de_var (i := 3)) (de_op od_pow de_int de_int) (nomark _)) da_nil))) (da_cons (de_op od_add (de_op od_add (de_op od_mod (de_var (i := 2)) de_int) (de_op od_mul (de_op od_mul de_int (de_var (i := 1))) (de_var (i := 1)))) (de_op od_mul de_int (de_var (i := 1)))) (da_cons de_int da_nil)))))))))
/-! _law_take -/
abbrev s_law_take : Stmt := top 7
abbrev n_law_take : List Str := ["_law_bag_here", "_law_often", "_law_digit", "_law_primes", "_law_step", "_law_base", "_law_found"]
theorem sc_law_take : FnScope n_law_take ["_law_bag_here", "_law_often"] (defScope s_law_take) := ⟨rfl, rfl, rfl, by decide +kernel, rfl, by decide +kernel, by decide +kernel⟩
noncomputable def b_law_take : XS := (xSeq (xIfS (xTst (xOp dGt (xOp dIx (xVar 0) (xC (.int 0))) (xC (.int 0)))) (xSeq (xAsg (xOp dMod (xOp dIx (xVar 0) (xC (.int 0))) (xVar 1)) (xgName 2)) (xSeq (xSetL (xOp dDiv (xOp dIx (xVar 0) (xC (.int 0))) (xVar 1)) (xVar 0) (xC (.int 0))) (xRet (xVar 2)))) xNx) (xSeq (xAsg (xTup (xCons (xC (.int 2147483647)) (xCons (xC (.int 2147483629)) (xCons (xC (.int 2147483587)) (xCons (xC (.int 2147483579)) (xCons (xC (.int 2147483563)) (xCons (xC (.int 2147483549)) (xCons (xC (.int 2147483543)) (xCons (xC (.int 2147483497)) xNil))))))))) (xgName 3)) (xSeq (xSetL (xOp dAdd (xOp dIx (xVar 0) (xC (.int 2))) (xC (.int 1))) (xVar 0) (xC (.int 2))) (xSeq (xAsg (xOp dIx (xVar 0) (xC (.int 2))) (xgName 4)) (xSeq (xAsg (xOp dAdd (xOp dAdd (xOp dMul (xOp dIx (xVar 0) (xC (.int 1))) (xOp dAdd (xOp dMul (xC (.int 2)) (xVar 4)) (xC (.int 1)))) (xOp dMul (xOp dMul (xC (.int 6121)) (xVar 4)) (xVar 4))) (xC (.int 41))) (xgName 5)) (xSeq (xAsg (xOp dMod (xOp dPow (xVar 5) (xC (.int 3))) (xOp dIx (xVar 3) (xOp dMod (xVar 4) (xC (.int 8))))) (xgName 6)) (xRet (xOp dMod (xOp dDiv (xOp dMod (xOp dMul (xVar 6) (xOp dAdd (xOp dDiv (xVar 6) (xC (.int 4096))) (xC (.int 19)))) (xOp dIx (xVar 3) (xOp dMod (xOp dAdd (xVar 4) (xC (.int 3))) (xC (.int 8))))) (xC (.int 16))) (xVar 1)))))))))
noncomputable def f_law_take : Fn := callB 2 7 b_law_take
theorem ok_law_take {P : Program} {w : World} {K : PySem.W.Frag} {mg : Str → Option Value} {base : Heap} {f : Addr} {fd : FuncData} (T : G mg) (F : Fun K "_law_take" "_law_take" s_law_take f fd) : FnOk P w K mg base CX0 1 f fd ["_law_bag_here", "_law_often"] (spF K mg 2 f_law_take) :=
  fn_okE (k := 0) (body := b_law_take) F sc_law_take rfl rfl rfl rfl fun cdv A outer s H E W hr =>
  (dss_cons (ds_if (dt_cmp od_gt (de_ix (de_var (i := 0)) de_int) de_int (nomark _)) (dss_cons (ds_set (i := 2) sc_law_take.nd (de_op od_mod (de_ix (de_var (i := 0)) de_int) (de_var (i := 1)))) (dss_cons (ds_setL (de_op od_div (de_ix (de_var (i := 0)) de_int) (de_var (i := 1))) (de_var (i := 0)) de_int) (dss_one (ds_ret (de_var (i := 2)))))) dss_nil) (dss_cons (ds_set (i := 3) sc_law_take.nd (de_tup (da_cons de_int (da_cons de_int (da_cons de_int (da_cons de_int (da_cons de_int (da_cons de_int (da_cons de_int (da_cons de_int da_nil)))))))))) (dss_cons (ds_setL (de_op od_add (de_ix (de_var (i := 0)) de_int) de_int) (de_var (i := 0)) de_int) (dss_cons (ds_set (i := 4) sc_law_take.nd (de_ix (de_var (i := 0)) de_int)) (dss_cons (ds_set (i := 5) sc_law_take.nd (de_op od_add (de_op od_add (de_op od_mul (de_ix (de_var (i := 0)) de_int) (de_op od_add (de_op od_mul de_int (de_var (i := 4))) de_int)) (de_op od_mul (de_op od_mul de_int (de_var (i := 4))) (de_var (i := 4)))) de_int)) (dss_cons (ds_set (i := 6) sc_law_take.nd (de_op od_mod (de_op od_pow (de_var (i := 5)) de_int) (de_ix (de_var (i := 3)) (de_op od_mod (de_var (i := 4)) de_int)))) (dss_one (ds_ret (de_op od_mod (de_op od_div (de_op od_mod (de_op od_mul (de_var (i := 6)) (de_op od_add (de_op od_div (de_var (i := 6)) de_int) de_int)) (de_ix (de_var (i := 3)) (de_op od_mod (de_op od_add (de_var (i := 4)) de_int) de_int))) de_int) (de_var (i := 1)))))))))))
/-! _law_names -/
abbrev s_law_names : Stmt := top 8
abbrev n_law_names : List Str := ["_law_bag_here", "_law_often", "_law_letters", "_law_ahead", "_law_behind", "_law_first", "_law_k"]
theorem sc_law_names : FnScope n_law_names ["_law_bag_here", "_law_often"] (defScope s_law_names) := ⟨rfl, rfl, rfl, by decide +kernel, rfl, by decide +kernel, by decide +kernel⟩
noncomputable def b_law_names : XS := (xSeq (xAsg (xC (.str "abcdefghijklmnopqrstuvwxyz")) (xgName 2)) (xSeq (xAsg (xJoin (xC (.str "")) (xLc frozenL (xRng (xCons (xFn 2 f_law_take (xCons (xVar 0) (xCons (xC (.int 5)) xNil))) xNil)) (xgName 6) xYes (xOp dIx (xVar 2) (xFn 2 f_law_take (xCons (xVar 0) (xCons (xC (.int 26)) xNil)))) [6])) (xgName 3)) (xSeq (xAsg (xJoin (xC (.str "")) (xLc frozenL (xRng (xCons (xFn 2 f_law_take (xCons (xVar 0) (xCons (xC (.int 4)) xNil))) xNil)) (xgName 6) xYes (xOp dIx (xVar 2) (xFn 2 f_law_take (xCons (xVar 0) (xCons (xC (.int 26)) xNil)))) [6])) (xgName 4)) (xSeq (xAsg (xFn 2 f_law_take (xCons (xVar 0) (xCons (xC (.int 26)) xNil))) (xgName 5)) (xRet (xCall bSorted (xCons (xLc frozenL (xRng (xCons (xVar 1) xNil)) (xgName 6) xYes (xOp dAdd (xOp dAdd (xVar 3) (xOp dIx (xVar 2) (xOp dMod (xOp dAdd (xVar 5) (xOp dMul (xC (.int 5)) (xVar 6))) (xC (.int 26))))) (xSl dSl (xVar 4) xNone (xSome (xOp dMod (xVar 6) (xC (.int 4)))))) [6]) xNil)))))))
noncomputable def f_law_names : Fn := callB 2 7 b_law_names
theorem ok_law_names {P : Program} {w : World} {K : PySem.W.Frag} {mg : Str → Option Value} {base : Heap} {f : Addr} {fd : FuncData} (T : G mg) (C_law_take : FnD P w K mg base 1 "_law_take" 2 f_law_take) (F : Fun K "_law_names" "_law_names" s_law_names f fd) : FnOk P w K mg base CX0 2 f fd ["_law_bag_here", "_law_often"] (spF K mg 2 f_law_names) :=
  fn_okE (k := 1) (body := b_law_names) F sc_law_names rfl rfl rfl rfl fun cdv A outer s H E W hr =>
  (dss_cons (ds_set (i := 2) sc_law_names.nd de_str) (dss_cons (ds_set (i := 3) sc_law_names.nd (de_join de_str (de_lc (own := [("_law_k", 6)]) (W' := E0) fin_frozen rfl sc_law_names.nd (di_range1 (by rfl) T.z_range (da_cons (de_call C_law_take (hr.mono (by decide)) (by rfl) (da_cons (de_var (i := 0)) (da_cons de_int da_nil))) da_nil)) (blkOk_by (own := [("_law_k", 6)]) (N := n_law_names) (sc := defScope s_law_names) (by decide +kernel)) (fun _ _ _ _ _ => (dg_name (i := 6) sc_law_names.nd)) (fun _ _ _ _ _ => dts_nil) (fun _ _ _ _ _ => (de_ix (de_var (i := 2)) (de_call C_law_take (hr.mono (by decide)) (by rfl) (da_cons (de_var (i := 0)) (da_cons de_int da_nil))))) (by decide)))) (dss_cons (ds_set (i := 4) sc_law_names.nd (de_join de_str (de_lc (own := [("_law_k", 6)]) (W' := E0) fin_frozen rfl sc_law_names.nd (di_range1 (by rfl) T.z_range (da_cons (de_call C_law_take (hr.mono (by decide)) (by rfl) (da_cons (de_var (i := 0)) (da_cons de_int da_nil))) da_nil)) (blkOk_by (own := [("_law_k", 6)]) (N := n_law_names) (sc := defScope s_law_names) (by decide +kernel)) (fun _ _ _ _ _ => (dg_name (i := 6) sc_law_names.nd)) (fun _ _ _ _ _ => dts_nil) (fun _ _ _ _ _ => (de_ix (de_var (i := 2)) (de_call C_law_take (hr.mono (by decide)) (by rfl) (da_cons (de_var (i := 0)) (da_cons de_int da_nil))))) (by decide)))) (dss_cons (ds_set (i := 5) sc_law_names.nd (de_call C_law_take (hr.mono (by decide)) (by rfl) (da_cons (de_var (i := 0)) (da_cons de_int da_nil)))) (dss_one (ds_ret (de_callB cd_sorted (by rfl) T.z_sorted bt_sorted (da_cons (de_lc (own := [("_law_k", 6)]) (W' := E0) fin_frozen rfl sc_law_names.nd (di_range1 (by rfl) T.z_range (da_cons (de_var (i := 1)) da_nil)) (blkOk_by (own := [("_law_k", 6)]) (N := n_law_names) (sc := defScope s_law_names) (by decide +kernel)) (fun _ _ _ _ _ => (dg_name (i := 6) sc_law_names.nd)) (fun _ _ _ _ _ => dts_nil) (fun _ _ _ _ _ => (de_op od_add (de_op od_add (de_var (i := 3)) (de_ix (de_var (i := 2)) (de_op od_mod (de_op od_add (de_var (i := 5)) (de_op od_mul de_int (de_var (i := 6)))) de_int))) (de_sl (de_var (i := 4)) do_none (do_some (de_op od_mod (de_var (i := 6)) de_int))))) (by decide)) da_nil))))))))
/-! _law_sets -/
abbrev s_law_sets : Stmt := top 9
abbrev n_law_sets : List Str := ["_law_kinds_here", "_law_found", "_law_number", "_law_bits", "_law_of", "_law_power", "_law_sort", "_law_bit", "_law_size"]
theorem sc_law_sets : FnScope n_law_sets ["_law_kinds_here"] (defScope s_law_sets) := ⟨rfl, rfl, rfl, by decide +kernel, rfl, by decide +kernel, by decide +kernel⟩
noncomputable def b_law_sets : XS := (xSeq (xAsg (xLstM xNil) (xgName 1)) (xSeq (xFor (xRng2 (xCons (xC (.int 1)) (xCons (xOp dPow (xC (.int 2)) (xC (.int 5))) xNil))) (xgName 2) (xSeq (xAsg (xLc frozenL (xSq (xTup (xCons (xC (.int 1)) (xCons (xC (.int 2)) (xCons (xC (.int 4)) (xCons (xC (.int 8)) (xCons (xC (.int 16)) xNil))))))) (xgName 5) xYes (xOp dMod (xOp dDiv (xVar 2) (xVar 5)) (xC (.int 2))) [5]) (xgName 3)) (xIfS (xTst (xOp (eqM false) (xCall bSum (xCons (xSl dSl (xVar 3) (xSome (xCall bLen (xCons (xVar 0) xNil))) xNone) xNil)) (xC (.int 0)))) (xSeq (xAsg (xCall bTuple (xCons (xLc frozenL (xZipM (xCons (xVar 0) (xCons (xVar 3) xNil))) (xgTup 2 (xgsCons (xgName 6) (xgsCons (xgName 7) xgsNil))) (xTst (xOp (eqM false) (xVar 7) (xC (.int 1)))) (xVar 6) [6, 7]) xNil)) (xgName 4)) (xDrop (xAppend (xVar 1) (xTup (xCons (xCall bLen (xCons (xVar 4) xNil)) (xCons (xVar 4) xNil)))))) xNx))) (xRet (xLc frozenL (xSq (xCall bSortD (xCons (xVar 1) xNil))) (xgTup 2 (xgsCons (xgName 8) (xgsCons (xgName 4) xgsNil))) xYes (xVar 4) [8, 4]))))
noncomputable def f_law_sets : Fn := callB 1 9 b_law_sets
theorem ok_law_sets {P : Program} {w : World} {K : PySem.W.Frag} {mg : Str → Option Value} {base : Heap} {f : Addr} {fd : FuncData} (T : G mg) (F : Fun K "_law_sets" "_law_sets" s_law_sets f fd) : FnOk P w K mg base CX0 1 f fd ["_law_kinds_here"] (spF K mg 1 f_law_sets) :=
  fn_okE (k := 0) (body := b_law_sets) F sc_law_sets rfl rfl rfl rfl fun cdv A outer s H E W hr =>
  (dss_cons (ds_set (i := 1) sc_law_sets.nd (de_lstM da_nil)) (dss_cons (ds_for PassesOwn.never rfl (di_range2 (by rfl) T.z_range (da_cons de_int (da_cons (de_op od_pow de_int de_int) da_nil))) (dg_name (i := 2) sc_law_sets.nd) (dss_cons (ds_setLc (i := 3) (own := [("_law_power", 5)]) (W' := E0) fin_frozen rfl sc_law_sets.nd (di_sq (de_tup (da_cons de_int (da_cons de_int (da_cons de_int (da_cons de_int (da_cons de_int da_nil))))))) (blkOk_by (own := [("_law_power", 5)]) (N := n_law_sets) (sc := defScope s_law_sets) (by decide +kernel)) (fun _ _ _ _ _ => (dg_name (i := 5) sc_law_sets.nd)) (fun _ _ _ _ _ => dts_nil) (fun _ _ _ _ _ => (de_op od_mod (de_op od_div (de_var (i := 2)) (de_var (i := 5))) de_int)) (by decide)) (dss_one (ds_if (dt_cmp (od_eqM hr) (de_callB (cd_sum rfl) (by rfl) T.z_sum bt_sum (da_cons (de_sl (de_var (i := 3)) (do_some (de_callB cd_len (by rfl) T.z_len bt_len (da_cons (de_var (i := 0)) da_nil))) do_none) da_nil)) de_int (nomark _)) (dss_cons (ds_set (i := 4) sc_law_sets.nd (de_callTy cd_tuple (by rfl) T.z_tuple bt_tuple (da_cons (de_lc (own := [("_law_sort", 6), ("_law_bit", 7)]) (W' := E0) fin_frozen rfl sc_law_sets.nd (di_zipM (by rfl) T.z_zip (da_cons (de_var (i := 0)) (da_cons (de_var (i := 3)) da_nil))) (blkOk_by (own := [("_law_sort", 6), ("_law_bit", 7)]) (N := n_law_sets) (sc := defScope s_law_sets) (by decide +kernel)) (fun _ _ _ _ _ => (dg_tup rfl (dgs_cons (dg_name (i := 6) sc_law_sets.nd) (dgs_cons (dg_name (i := 7) sc_law_sets.nd) dgs_nil)))) (fun _ _ _ _ _ => (dts_one (dt_cmp (od_eqM hr) (de_var (i := 7)) de_int (nomark _)))) (fun _ _ _ _ _ => (de_var (i := 6))) (by decide)) da_nil))) (dss_one (ds_expr (de_append (de_var (i := 1)) (de_tup (da_cons (de_callB cd_len (by rfl) T.z_len bt_len (da_cons (de_var (i := 4)) da_nil)) (da_cons (de_var (i := 4)) da_nil))))))) dss_nil)))) (dss_one (ds_ret (de_lc (own := [("_law_size", 8), ("_law_of", 4)]) (W' := E0) fin_frozen rfl sc_law_sets.nd (di_sq (de_callB (cd_sortD hr) (by rfl) T.z_sorted bt_sorted (da_cons (de_var (i := 1)) da_nil))) (blkOk_by (own := [("_law_size", 8), ("_law_of", 4)]) (N := n_law_sets) (sc := defScope s_law_sets) (by decide +kernel)) (fun _ _ _ _ _ => (dg_tup rfl (dgs_cons (dg_name (i := 8) sc_law_sets.nd) (dgs_cons (dg_name (i := 4) sc_law_sets.nd) dgs_nil)))) (fun _ _ _ _ _ => dts_nil) (fun _ _ _ _ _ => (de_var (i := 4))) (by decide))))))
/-! _law_kinds -/
abbrev s_law_kinds : Stmt := top 10
abbrev n_law_kinds : List Str := ["_law_bag_here"]
theorem sc_law_kinds : FnScope n_law_kinds ["_law_bag_here"] (defScope s_law_kinds) := ⟨rfl, rfl, rfl, by decide +kernel, rfl, by decide +kernel, by decide +kernel⟩
noncomputable def b_law_kinds : XS := (xRet (xCall bTuple (xCons (xFn 2 f_law_names (xCons (xVar 0) (xCons (xOp dAdd (xC (.int 1)) (xFn 2 f_law_take (xCons (xVar 0) (xCons (xC (.int 5)) xNil)))) xNil))) xNil)))
noncomputable def f_law_kinds : Fn := callB 1 1 b_law_kinds
theorem ok_law_kinds {P : Program} {w : World} {K : PySem.W.Frag} {mg : Str → Option Value} {base : Heap} {f : Addr} {fd : FuncData} (T : G mg) (C_law_names : FnD P w K mg base 2 "_law_names" 2 f_law_names) (C_law_take : FnD P w K mg base 1 "_law_take" 2 f_law_take) (F : Fun K "_law_kinds" "_law_kinds" s_law_kinds f fd) : FnOk P w K mg base CX0 3 f fd ["_law_bag_here"] (spF K mg 1 f_law_kinds) :=
  fn_okE (k := 2) (body := b_law_kinds) F sc_law_kinds rfl rfl rfl rfl fun cdv A outer s H E W hr =>
  (dss_one (ds_ret (de_callTy cd_tuple (by rfl) T.z_tuple bt_tuple (da_cons (de_call C_law_names (hr.mono (by decide)) (by rfl) (da_cons (de_var (i := 0)) (da_cons (de_op od_add de_int (de_call C_law_take (hr.mono (by decide)) (by rfl) (da_cons (de_var (i := 0)) (da_cons de_int da_nil)))) da_nil))) da_nil))))
/-! _law_odd -/
abbrev s_law_odd : Stmt := top 11
abbrev n_law_odd : List Str := ["_law_bag_here", "_law_some"]
theorem sc_law_odd : FnScope n_law_odd ["_law_bag_here"] (defScope s_law_odd) := ⟨rfl, rfl, rfl, by decide +kernel, rfl, by decide +kernel, by decide +kernel⟩
noncomputable def b_law_odd : XS := (xSeq (xAsg (xLst (xCons (xC .non) (xCons (xC (.bl true)) (xCons (xC (.bl false)) (xCons (xC (.int 0)) (xCons (xC (.int 1)) (xCons (xNeg (xC (.int 1))) (xCons (xOp dPow (xC (.int 10)) (xC (.int 29))) (xCons (xC (.str "")) (xCons (xC (.str "A")) (xCons (xC (.str "a b")) (xCons (xC (.str "a1")) (xCons (xC (.str "abcdefghi")) (xCons (xTup xNil) (xCons (xLst xNil) (xCons (xTup (xCons (xC (.str "a")) xNil)) (xCons (xLst (xCons (xC (.str "a")) xNil)) xNil))))))))))))))))) (xgName 1)) (xSeq (xAsg (xOp dAdd (xVar 1) (xLst (xCons (xTup (xCons (xC .non) xNil)) (xCons xDict0 (xCons (xDict1 (xC (.str "a")) (xC (.int 1))) (xCons (xTup (xCons (xC (.str "a")) (xCons (xC (.str "a")) xNil))) (xCons (xTup (xCons (xC (.str "b")) (xCons (xC (.str "a")) xNil))) (xCons (xTup (xCons (xTup (xCons (xC (.str "a")) xNil)) xNil)) (xCons (xC (.str " a")) (xCons (xC (.str "a\n")) (xCons (xTup (xCons (xC (.str "a")) (xCons (xC (.int 1)) xNil))) (xCons (xTup (xCons (xTup (xCons (xC (.str "a")) (xCons (xTup (xCons (xC (.str "a")) xNil)) xNil))) xNil)) xNil)))))))))))) (xgName 1)) (xRet (xOp dIx (xVar 1) (xFn 2 f_law_take (xCons (xVar 0) (xCons (xC (.int 26)) xNil)))))))
noncomputable def f_law_odd : Fn := callB 1 2 b_law_odd
theorem ok_law_odd {P : Program} {w : World} {K : PySem.W.Frag} {mg : Str → Option Value} {base : Heap} {f : Addr} {fd : FuncData} (T : G mg) (C_law_take : FnD P w K mg base 1 "_law_take" 2 f_law_take) (F : Fun K "_law_odd" "_law_odd" s_law_odd f fd) : FnOk P w K mg base CX0 2 f fd ["_law_bag_here"] (spF K mg 1 f_law_odd) :=
  fn_okE (k := 1) (body := b_law_odd) F sc_law_odd rfl rfl rfl rfl fun cdv A outer s H E W hr =>
  (dss_cons (ds_set (i := 1) sc_law_odd.nd (de_lst (da_cons de_non (da_cons de_bl (da_cons de_bl (da_cons de_int (da_cons de_int (da_cons (de_neg de_int) (da_cons (de_op od_pow de_int de_int) (da_cons de_str (da_cons de_str (da_cons de_str (da_cons de_str (da_cons de_str (da_cons (de_tup da_nil) (da_cons (de_lst da_nil) (da_cons (de_tup (da_cons de_str da_nil)) (da_cons (de_lst (da_cons de_str da_nil)) da_nil)))))))))))))))))) (dss_cons (ds_set (i := 1) sc_law_odd.nd (de_op od_add (de_var (i := 1)) (de_lst (da_cons (de_tup (da_cons de_non da_nil)) (da_cons de_dict0 (da_cons (de_dict1 de_str de_int) (da_cons (de_tup (da_cons de_str (da_cons de_str da_nil))) (da_cons (de_tup (da_cons de_str (da_cons de_str da_nil))) (da_cons (de_tup (da_cons (de_tup (da_cons de_str da_nil)) da_nil)) (da_cons de_str (da_cons de_str (da_cons (de_tup (da_cons de_str (da_cons de_int da_nil))) (da_cons (de_tup (da_cons (de_tup (da_cons de_str (da_cons (de_tup (da_cons de_str da_nil)) da_nil))) da_nil)) da_nil))))))))))))) (dss_one (ds_ret (de_ix (de_var (i := 1)) (de_call C_law_take (hr.mono (by decide)) (by rfl) (da_cons (de_var (i := 0)) (da_cons de_int da_nil))))))))
/-! _law_row_bent -/
abbrev s_law_row_bent : Stmt := top 12
abbrev n_law_row_bent : List Str := ["_law_bag_here", "_law_row", "_law_at", "_law_odd_here", "_law_some"]
theorem sc_law_row_bent : FnScope n_law_row_bent ["_law_bag_here", "_law_row"] (defScope s_law_row_bent) := ⟨rfl, rfl, rfl, by decide +kernel, rfl, by decide +kernel, by decide +kernel⟩
noncomputable def b_law_row_bent : XS := (xSeq (xPar 2 3 (xFn 2 f_law_take (xCons (xVar 0) (xCons (xCall bMax (xCons (xC (.int 1)) (xCons (xCall bLen (xCons (xVar 1) xNil)) xNil))) xNil))) (xFn 1 f_law_odd (xCons (xVar 0) xNil))) (xSeq (xAsg (xLst (xCons (xVar 1) (xCons (xOp dAdd (xOp dAdd (xSl dSl (xVar 1) xNone (xSome (xVar 2))) (xTup (xCons (xVar 3) xNil))) (xSl dSl (xVar 1) (xSome (xOp dAdd (xVar 2) (xC (.int 1)))) xNone)) (xCons (xOp dAdd (xSl dSl (xVar 1) xNone (xSome (xVar 2))) (xSl dSl (xVar 1) (xSome (xOp dAdd (xVar 2) (xC (.int 1)))) xNone)) (xCons (xOp dAdd (xOp dAdd (xSl dSl (xVar 1) xNone (xSome (xVar 2))) (xSl dSl (xVar 1) (xSome (xVar 2)) (xSome (xOp dAdd (xVar 2) (xC (.int 1)))))) (xSl dSl (xVar 1) (xSome (xVar 2)) xNone)) xNil))))) (xgName 4)) (xSeq (xAsg (xOp dAdd (xVar 4) (xLst (xCons (xRev (xVar 1)) (xCons (xCall bList (xCons (xVar 1) xNil)) (xCons (xOp dAdd (xSl dSl (xVar 1) (xSome (xVar 2)) xNone) (xSl dSl (xVar 1) xNone (xSome (xVar 2)))) (xCons (xOp dAdd (xVar 1) (xTup (xCons (xVar 3) xNil))) xNil)))))) (xgName 4)) (xRet (xOp dIx (xVar 4) (xFn 2 f_law_take (xCons (xVar 0) (xCons (xC (.int 8)) xNil))))))))
noncomputable def f_law_row_bent : Fn := callB 2 5 b_law_row_bent
theorem ok_law_row_bent {P : Program} {w : World} {K : PySem.W.Frag} {mg : Str → Option Value} {base : Heap} {f : Addr} {fd : FuncData} (T : G mg) (C_law_take : FnD P w K mg base 1 "_law_take" 2 f_law_take) (C_law_odd : FnD P w K mg base 2 "_law_odd" 1 f_law_odd) (F : Fun K "_law_row_bent" "_law_row_bent" s_law_row_bent f fd) : FnOk P w K mg base CX0 3 f fd ["_law_bag_here", "_law_row"] (spF K mg 2 f_law_row_bent) :=
  fn_okE (k := 2) (body := b_law_row_bent) F sc_law_row_bent rfl rfl rfl rfl fun cdv A outer s H E W hr =>
  (dss_cons (ds_par (i := 2) (j := 3) rfl sc_law_row_bent.nd (by decide) (de_call C_law_take (hr.mono (by decide)) (by rfl) (da_cons (de_var (i := 0)) (da_cons (de_callB (cd_max rfl) (by rfl) T.z_max bt_max (da_cons de_int (da_cons (de_callB cd_len (by rfl) T.z_len bt_len (da_cons (de_var (i := 1)) da_nil)) da_nil))) da_nil))) (de_call C_law_odd (hr.mono (by decide)) (by rfl) (da_cons (de_var (i := 0)) da_nil))) (dss_cons (ds_set (i := 4) sc_law_row_bent.nd (de_lst (da_cons (de_var (i := 1)) (da_cons (de_op od_add (de_op od_add (de_sl (de_var (i := 1)) do_none (do_some (de_var (i := 2)))) (de_tup (da_cons (de_var (i := 3)) da_nil))) (de_sl (de_var (i := 1)) (do_some (de_op od_add (de_var (i := 2)) de_int)) do_none)) (da_cons (de_op od_add (de_sl (de_var (i := 1)) do_none (do_some (de_var (i := 2)))) (de_sl (de_var (i := 1)) (do_some (de_op od_add (de_var (i := 2)) de_int)) do_none)) (da_cons (de_op od_add (de_op od_add (de_sl (de_var (i := 1)) do_none (do_some (de_var (i := 2)))) (de_sl (de_var (i := 1)) (do_some (de_var (i := 2))) (do_some (de_op od_add (de_var (i := 2)) de_int)))) (de_sl (de_var (i := 1)) (do_some (de_var (i := 2))) do_none)) da_nil)))))) (dss_cons (ds_set (i := 4) sc_law_row_bent.nd (de_op od_add (de_var (i := 4)) (de_lst (da_cons (de_rev (de_var (i := 1))) (da_cons (de_callTy cd_list (by rfl) T.z_list bt_list (da_cons (de_var (i := 1)) da_nil)) (da_cons (de_op od_add (de_sl (de_var (i := 1)) (do_some (de_var (i := 2))) do_none) (de_sl (de_var (i := 1)) do_none (do_some (de_var (i := 2))))) (da_cons (de_op od_add (de_var (i := 1)) (de_tup (da_cons (de_var (i := 3)) da_nil))) da_nil))))))) (dss_one (ds_ret (de_ix (de_var (i := 4)) (de_call C_law_take (hr.mono (by decide)) (by rfl) (da_cons (de_var (i := 0)) (da_cons de_int da_nil)))))))))
/-! _law_is_set -/
abbrev s_law_is_set : Stmt := top 13
abbrev n_law_is_set : List Str := ["_law_kinds_here", "_law_thing", "_law_one"]
theorem sc_law_is_set : FnScope n_law_is_set ["_law_kinds_here", "_law_thing"] (defScope s_law_is_set) := ⟨rfl, rfl, rfl, by decide +kernel, rfl, by decide +kernel, by decide +kernel⟩
noncomputable def b_law_is_set : XS := (xSeq (xIfS (xOr (xNot (xTru (xCall bIsi (xCons (xVar 1) (xCons (xC (dOf (.ty "tuple"))) xNil))))) (xOr (xTst (xOp dEq (xVar 1) (xTup xNil))) (xNot (xTru (xCall bAll (xCons (xLc frozenL (xSq (xVar 1)) (xgName 2) xYes (xCall bIsi (xCons (xVar 2) (xCons (xC (dOf (.ty "str"))) xNil))) [2]) xNil)))))) (xRet (xC (.bl false))) xNx) (xRet (xOp dIn (xVar 1) (xFn 1 f_law_sets (xCons (xVar 0) xNil)))))
noncomputable def f_law_is_set : Fn := callB 2 3 b_law_is_set
theorem ok_law_is_set {P : Program} {w : World} {K : PySem.W.Frag} {mg : Str → Option Value} {base : Heap} {f : Addr} {fd : FuncData} (T : G mg) (C_law_sets : FnD P w K mg base 1 "_law_sets" 1 f_law_sets) (F : Fun K "_law_is_set" "_law_is_set" s_law_is_set f fd) : FnOk P w K mg base CX0 2 f fd ["_law_kinds_here", "_law_thing"] (spF K mg 2 f_law_is_set) :=
  fn_okE (k := 1) (body := b_law_is_set) F sc_law_is_set rfl rfl rfl rfl fun cdv A outer s H E W hr =>
  (dss_cons (ds_if (dt_w (dw_or (dt_not (dt_tru (de_callB cd_isi (by rfl) T.z_isinstance bt_isinstance (da_cons (de_var (i := 1)) (da_cons (de_bltn (v := .ty "tuple") (by rfl) T.z_tuple bt_tuple rfl) da_nil))))) (dw_or (dt_cmp (od_eq2 hr) (de_var (i := 1)) (de_tup da_nil) (nomark _)) (dw_or1 (dt_not (dt_tru (de_callB (cd_all rfl) (by rfl) T.z_all bt_all (da_cons (de_lc (own := [("_law_one", 2)]) (W' := E0) fin_frozen rfl sc_law_is_set.nd (di_sq (de_var (i := 1))) (blkOk_by (own := [("_law_one", 2)]) (N := n_law_is_set) (sc := defScope s_law_is_set) (by decide +kernel)) (fun _ _ _ _ _ => (dg_name (i := 2) sc_law_is_set.nd)) (fun _ _ _ _ _ => dts_nil) (fun _ _ _ _ _ => (de_callB cd_isi (by rfl) T.z_isinstance bt_isinstance (da_cons (de_var (i := 2)) (da_cons (de_bltn (v := .ty "str") (by rfl) T.z_str bt_str rfl) da_nil)))) (by decide)) da_nil)))))))) (dss_one (ds_ret de_bl)) dss_nil) (dss_one (ds_ret (de_cmp (od_in hr) (de_var (i := 1)) (de_call C_law_sets (hr.mono (by decide)) (by rfl) (da_cons (de_var (i := 0)) da_nil)) (by rfl)))))
/-! _law_truths -/
abbrev s_law_truths : Stmt := top 14
abbrev n_law_truths : List Str := ["_law_told", "_law_due", "_law_one"]
theorem sc_law_truths : FnScope n_law_truths ["_law_told", "_law_due"] (defScope s_law_truths) := ⟨rfl, rfl, rfl, by decide +kernel, rfl, by decide +kernel, by decide +kernel⟩
noncomputable def b_law_truths : XS := (xRet (xAndV (xOp (eqM false) (xVar 0) (xVar 1)) (xCall bAll (xCons (xLc frozenL (xSq (xVar 0)) (xgName 2) xYes (xCall bIsi (xCons (xVar 2) (xCons (xC (dOf (.ty "bool"))) xNil))) [2]) xNil))))
noncomputable def f_law_truths : Fn := callB 2 3 b_law_truths
theorem ok_law_truths {P : Program} {w : World} {K : PySem.W.Frag} {mg : Str → Option Value} {base : Heap} {f : Addr} {fd : FuncData} (T : G mg) (F : Fun K "_law_truths" "_law_truths" s_law_truths f fd) : FnOk P w K mg base CX0 1 f fd ["_law_told", "_law_due"] (spF K mg 2 f_law_truths) :=
  fn_okE (k := 0) (body := b_law_truths) F sc_law_truths rfl rfl rfl rfl fun cdv A outer s H E W hr =>
  (dss_one (ds_ret (de_and (de_cmp (od_eqM hr) (de_var (i := 0)) (de_var (i := 1)) (nomark _)) (de_one (de_callB (cd_all rfl) (by rfl) T.z_all bt_all (da_cons (de_lc (own := [("_law_one", 2)]) (W' := E0) fin_frozen rfl sc_law_truths.nd (di_sq (de_var (i := 0))) (blkOk_by (own := [("_law_one", 2)]) (N := n_law_truths) (sc := defScope s_law_truths) (by decide +kernel)) (fun _ _ _ _ _ => (dg_name (i := 2) sc_law_truths.nd)) (fun _ _ _ _ _ => dts_nil) (fun _ _ _ _ _ => (de_callB cd_isi (by rfl) T.z_isinstance bt_isinstance (da_cons (de_var (i := 2)) (da_cons (de_bltn (v := .ty "bool") (by rfl) T.z_bool bt_bool rfl) da_nil)))) (by decide)) da_nil))))))
/-! law -/
abbrev s_law : Stmt := top 15
abbrev n_law : List Str := ["_law_script", "_law_k", "_law_bag_here", "_law_kinds_here", "_law_due", "_law_turn", "_law_told", "_law_of", "_law_other", "_law_thing"]
theorem sc_law : FnScope n_law ["_law_script"] (defScope s_law) := ⟨rfl, rfl, rfl, by decide +kernel, rfl, by decide +kernel, by decide +kernel⟩
noncomputable def b_law : XS := (xSeq (xFor (xRng (xCons (xCall bMax (xCons (xC (.int 2)) (xCons (xCall bMin (xCons (xC (.int 5)) (xCons (xCall bLen (xCons (xVar 0) xNil)) xNil))) xNil))) xNil)) (xgName 1) (xSeq (xAsg (xFn 2 f_law_bag (xCons (xVar 0) (xCons (xVar 1) xNil))) (xgName 2)) (xSeq (xAsg (xFn 1 f_law_kinds (xCons (xVar 2) xNil)) (xgName 3)) (xSeq (xAsg (xFn 1 f_law_sets (xCons (xVar 3) xNil)) (xgName 4)) (xSeq (xFor (xRng (xCons (xC (.int 2)) xNil)) (xgName 5) (xSeq (xAsg (xFn 1 f_sets_of (xCons (xVar 3) xNil)) (xgName 6)) (xSeq (xIfS (xOr (xNot (xTru (xCall bIsi (xCons (xVar 6) (xCons (xC (dOf (.ty "list"))) xNil))))) (xOr (xTst (xOp (eqM true) (xVar 6) (xVar 4))) (xNot (xTru (xCall bAll (xCons (xLcP frozenL (xPt (xVar 6)) (xgName 7) xYes (xCall bIsi (xCons (xVar 7) (xCons (xC (dOf (.ty "tuple"))) xNil))) [7]) xNil)))))) (xRet (xC (.bl false))) xNx) (xSeq (xDrop (xReverse (xVar 6))) (xDrop (xAppend (xVar 6) (xTup xNil))))))) (xFor (xRng (xCons (xC (.int 8)) xNil)) (xgName 5) (xSeq (xAsg (xOp dIx (xVar 4) (xFn 2 f_law_take (xCons (xVar 2) (xCons (xCall bLen (xCons (xVar 4) xNil)) xNil)))) (xgName 7)) (xSeq (xAsg (xFn 1 f_law_kinds (xCons (xVar 2) xNil)) (xgName 8)) (xFor (xSq (xLst (xCons (xVar 7) (xCons (xFn 2 f_law_row_bent (xCons (xVar 2) (xCons (xVar 7) xNil))) (xCons (xFn 1 f_law_odd (xCons (xVar 2) xNil)) (xCons (xVar 8) (xCons (xOp dAdd (xVar 7) (xSl dSl (xVar 8) xNone (xSome (xC (.int 1))))) (xCons (xVar 3) xNil)))))))) (xgName 9) (xIfS (xNot (xTru (xFn 2 f_law_truths (xCons (xLst (xCons (xFn 2 f_is_set (xCons (xVar 3) (xCons (xVar 9) xNil))) xNil)) (xCons (xLst (xCons (xFn 2 f_law_is_set (xCons (xVar 3) (xCons (xVar 9) xNil))) xNil)) xNil))))) (xRet (xC (.bl false))) xNx)))))))))) (xRet (xC (.bl true))))
noncomputable def f_law : Fn := callB 1 10 b_law
theorem ok_law {P : Program} {w : World} {K : PySem.W.Frag} {mg : Str → Option Value} {base : Heap} {f : Addr} {fd : FuncData} (T : G mg) (C_law_odd : FnD P w K mg base 2 "_law_odd" 1 f_law_odd) (C_law_row_bent : FnD P w K mg base 3 "_law_row_bent" 2 f_law_row_bent) (C_law_truths : FnD P w K mg base 1 "_law_truths" 2 f_law_truths) (C_law_is_set : FnD P w K mg base 2 "_law_is_set" 2 f_law_is_set) (C_is_set : FnD P w K mg base 2 "is_set" 2 f_is_set) (C_law_kinds : FnD P w K mg base 3 "_law_kinds" 1 f_law_kinds) (C_law_take : FnD P w K mg base 1 "_law_take" 2 f_law_take) (C_sets_of : FnD P w K mg base 4 "sets_of" 1 f_sets_of) (C_law_sets : FnD P w K mg base 1 "_law_sets" 1 f_law_sets) (C_law_bag : FnD P w K mg base 1 "_law_bag" 2 f_law_bag) (F : Fun K "law" "law" s_law f fd) : FnOk P w K mg base CX0 5 f fd ["_law_script"] (spF K mg 1 f_law) :=
  fn_okE (k := 4) (body := b_law) F sc_law rfl rfl rfl rfl fun cdv A outer s H E W hr =>
  (dss_cons (ds_for PassesOwn.never rfl (di_range1 (by rfl) T.z_range (da_cons (de_callB (cd_max rfl) (by rfl) T.z_max bt_max (da_cons de_int (da_cons (de_callB (cd_min rfl) (by rfl) T.z_min bt_min (da_cons de_int (da_cons (de_callB cd_len (by rfl) T.z_len bt_len (da_cons (de_var (i := 0)) da_nil)) da_nil))) da_nil))) da_nil)) (dg_name (i := 1) sc_law.nd) (dss_cons (ds_set (i := 2) sc_law.nd (de_call C_law_bag (hr.mono (by decide)) (by rfl) (da_cons (de_var (i := 0)) (da_cons (de_var (i := 1)) da_nil)))) (dss_cons (ds_set (i := 3) sc_law.nd (de_call C_law_kinds (hr.mono (by decide)) (by rfl) (da_cons (de_var (i := 2)) da_nil))) (dss_cons (ds_set (i := 4) sc_law.nd (de_call C_law_sets (hr.mono (by decide)) (by rfl) (da_cons (de_var (i := 3)) da_nil))) (dss_cons (ds_for PassesOwn.never rfl (di_range1 (by rfl) T.z_range (da_cons de_int da_nil)) (dg_name (i := 5) sc_law.nd) (dss_cons (ds_set (i := 6) sc_law.nd (de_call C_sets_of (hr.mono (by decide)) (by rfl) (da_cons (de_var (i := 3)) da_nil))) (dss_cons (ds_if (dt_w (dw_or (dt_not (dt_tru (de_callB cd_isi (by rfl) T.z_isinstance bt_isinstance (da_cons (de_var (i := 6)) (da_cons (de_bltn (v := .ty "list") (by rfl) T.z_list bt_list rfl) da_nil))))) (dw_or (dt_cmp (od_neM hr) (de_var (i := 6)) (de_var (i := 4)) (nomark _)) (dw_or1 (dt_not (dt_tru (de_callB (cd_all rfl) (by rfl) T.z_all bt_all (da_cons (de_lcP (own := [("_law_of", 7)]) (W' := E0) fin_frozen rfl sc_law.nd (dp_ptr (de_var (i := 6))) (blkOk_by (own := [("_law_of", 7)]) (N := n_law) (sc := defScope s_law) (by decide +kernel)) (fun _ _ _ _ _ => (dg_name (i := 7) sc_law.nd)) (fun _ _ _ _ _ => dts_nil) (fun _ _ _ _ _ => (de_callB cd_isi (by rfl) T.z_isinstance bt_isinstance (da_cons (de_var (i := 7)) (da_cons (de_bltn (v := .ty "tuple") (by rfl) T.z_tuple bt_tuple rfl) da_nil)))) (by decide)) da_nil)))))))) (dss_one (ds_ret de_bl)) dss_nil) (dss_cons (ds_expr (de_reverse (de_var (i := 6)))) (dss_one (ds_expr (de_append (de_var (i := 6)) (de_tup da_nil)))))))) (dss_one (ds_for PassesOwn.never rfl (di_range1 (by rfl) T.z_range (da_cons de_int da_nil)) (dg_name (i := 5) sc_law.nd) (dss_cons (ds_set (i := 7) sc_law.nd (de_ix (de_var (i := 4)) (de_call C_law_take (hr.mono (by decide)) (by rfl) (da_cons (de_var (i := 2)) (da_cons (de_callB cd_len (by rfl) T.z_len bt_len (da_cons (de_var (i := 4)) da_nil)) da_nil))))) (dss_cons (ds_set (i := 8) sc_law.nd (de_call C_law_kinds (hr.mono (by decide)) (by rfl) (da_cons (de_var (i := 2)) da_nil))) (dss_one (ds_for PassesOwn.never rfl (di_sq (de_lst (da_cons (de_var (i := 7)) (da_cons (de_call C_law_row_bent (hr.mono (by decide)) (by rfl) (da_cons (de_var (i := 2)) (da_cons (de_var (i := 7)) da_nil))) (da_cons (de_call C_law_odd (hr.mono (by decide)) (by rfl) (da_cons (de_var (i := 2)) da_nil)) (da_cons (de_var (i := 8)) (da_cons (de_op od_add (de_var (i := 7)) (de_sl (de_var (i := 8)) do_none (do_some de_int))) (da_cons (de_var (i := 3)) da_nil)))))))) (dg_name (i := 9) sc_law.nd) (dss_one (ds_if (dt_not (dt_tru (de_call C_law_truths (hr.mono (by decide)) (by rfl) (da_cons (de_lst (da_cons (de_call C_is_set (hr.mono (by decide)) (by rfl) (da_cons (de_var (i := 3)) (da_cons (de_var (i := 9)) da_nil))) da_nil)) (da_cons (de_lst (da_cons (de_call C_law_is_set (hr.mono (by decide)) (by rfl) (da_cons (de_var (i := 3)) (da_cons (de_var (i := 9)) da_nil))) da_nil)) da_nil))))) (dss_one (ds_ret de_bl)) dss_nil))))))))))))) (dss_one (ds_ret de_bl)))
local macro_rules | `(tactic| walk_at "go") => `(tactic| first
  | with_reducible refine v_seq ?_ | with_reducible refine v_thn ?_ | with_reducible refine v_thr ?_ | with_reducible refine v_asg ?_ | with_reducible refine v_ret ?_ | with_reducible refine v_op ?_ | with_reducible refine v_cons ?_ | with_reducible refine v_nil ?_ | with_reducible refine v_call ?_ | (with_reducible refine v_var (by with_unfolding_all rfl) ?_) | with_reducible refine v_c ?_ | with_reducible refine v_tst ?_ | with_reducible refine v_tru ?_
  | with_reducible refine v_tup ?_ | with_reducible refine v_lst ?_ | with_reducible refine v_lstM ?_ | with_reducible refine v_nx ?_ | with_reducible refine v_setL ?_ | with_reducible refine v_par ?_ | with_reducible refine v_neg ?_ | with_reducible refine v_rev ?_ | with_reducible refine v_sl ?_ | with_reducible refine v_none ?_ | with_reducible refine v_some ?_ | with_reducible refine v_not ?_ | with_reducible refine v_or ?_ | with_reducible refine v_and ?_
  | with_reducible refine v_fn ?_ | with_reducible refine v_fnK ?_ | with_reducible refine v_andV ?_ | with_reducible refine v_chain ?_ | with_reducible refine v_if ?_ | with_reducible refine v_upper ?_ | with_reducible refine v_dict0 ?_ | with_reducible refine v_dict1 ?_
  | with_reducible refine Exists.intro _ (And.intro add_ii ?_) | with_reducible refine Exists.intro _ (And.intro sub_ii ?_) | with_reducible refine Exists.intro _ (And.intro lt_ii ?_) | with_reducible refine Exists.intro _ (And.intro le_ii ?_) | with_reducible refine Exists.intro _ (And.intro gt_ii ?_) | with_reducible refine Exists.intro _ (And.intro ge_ii ?_) | with_reducible refine Exists.intro _ (And.intro (Eq.refl (D.bl _)) ?_) | with_reducible refine Exists.intro _ (And.intro (Eq.refl (D.int _)) ?_) | with_reducible refine Exists.intro _ (And.intro (Eq.refl (D.str _)) ?_) | with_reducible refine Exists.intro _ (And.intro tru_b ?_) | with_reducible refine Exists.intro _ (And.intro blen_l ?_) | with_reducible refine Exists.intro _ (And.intro blen_t ?_) | with_reducible refine Exists.intro _ (And.intro blen_sc ?_)
  | (with_reducible refine And.intro (show _ ≤ 100000 by simp) ?_))
local macro_rules | `(tactic| walk_at "gos") => `(tactic| repeat walk_at "go")
def bagOb (a b c : Int) : Ob := .lst [.int a, .int b, .int c]
def BagAt (M : Mem) (n : Nat) (N : Int) : Prop := ∃ a b c, M[n]? = some (bagOb a b c) ∧ 0 ≤ b ∧ b < 2 ^ 64 ∧ 0 ≤ c ∧ c ≤ N ∧ N < 2 ^ 40
theorem pw_small {x : Int} (h : x.natAbs < 2 ^ 200) : x.natAbs < 2 ^ 10000 := Nat.lt_of_lt_of_le h (Nat.pow_le_pow_right (by decide) (by decide))
def primesD : List D := [.int 2147483647, .int 2147483629, .int 2147483587, .int 2147483579, .int 2147483563, .int 2147483549, .int 2147483543, .int 2147483497]
theorem prime_at {i : Int} (h0 : 0 ≤ i) (h1 : i < 8) : ∃ p, atI primesD i = some (.int p) ∧ 2147483000 < p ∧ p < 2147483648 := by
  obtain ⟨k, rfl⟩ := Int.eq_ofNat_of_zero_le h0
  rw [ix_nat]
  have hk : k < 8 := by omega
  match k, hk with
  | 0, _ => exact ⟨_, rfl, by decide⟩
  | 1, _ => exact ⟨_, rfl, by decide⟩
  | 2, _ => exact ⟨_, rfl, by decide⟩
  | 3, _ => exact ⟨_, rfl, by decide⟩
  | 4, _ => exact ⟨_, rfl, by decide⟩
  | 5, _ => exact ⟨_, rfl, by decide⟩
  | 6, _ => exact ⟨_, rfl, by decide⟩
  | 7, _ => exact ⟨_, rfl, by decide⟩
structure Took (k : Int) (n : Nat) (N : Int) (d : D) (M' : Mem) : Prop where
  ex : ∃ r, d = .int r ∧ 0 ≤ r ∧ r < k ∧ BagAt M' n (N + 1)
theorem take_ok {M : Mem} {n : Nat} {k N : Int} (h : BagAt M n N) (hN : N + 1 < 2 ^ 40) (hk : 0 < k) (hk2 : k < 1073741824) : Gv (f_law_take [.ptr n, .int k] M) fun d M' => Took k n N d M' := by
  obtain ⟨a, b, c, hM, h0, h1, h2, h3, h4⟩ := h
  have hl : n < M.length := (List.getElem?_eq_some_iff.mp hM).1
  refine v_body rfl ?_
  unfold b_law_take
  walk_at "gos"
  refine v_ifS ?_
  walk_at "gos"
  refine ⟨.int a, by rw [ix_p hM, ix_0]; rfl, ?_⟩
  walk_at "gos"
  by_cases ha : 0 < a
  · rw [if_pos (by simpa using ha)]
    walk_at "gos"
    refine ⟨.int a, by rw [ix_p hM, ix_0]; rfl, ?_⟩
    walk_at "gos"
    refine ⟨_, mod_ii hk, ?_⟩
    walk_at "gos"
    refine ⟨.int a, by rw [ix_p hM, ix_0]; rfl, ?_⟩
    walk_at "gos"
    refine ⟨_, div_ii hk hk2, ?_⟩
    walk_at "gos"
    refine ⟨n, _, 0, 0, rfl, rfl, hM, rfl, ?_⟩
    walk_at "gos"
    refine ⟨⟨_, rfl, Int.emod_nonneg _ (by omega), Int.emod_lt_of_pos _ hk, a / k, b, c, ?_, h0, h1, h2, by omega, hN⟩⟩
    rw [List.getElem?_set_self hl]
    rfl
  · rw [if_neg (by simpa using ha)]
    walk_at "gos"
    refine ⟨.int c, by rw [ix_p hM, ix_2]; rfl, ?_⟩
    walk_at "gos"
    refine ⟨n, _, 2, 2, rfl, rfl, hM, rfl, ?_⟩
    have hM' : (M.set n (.lst (([.int a, .int b, .int c] : List D).set 2 (.int (c + 1)))))[n]? = some (.lst [.int a, .int b, .int (c + 1)]) := by
      rw [List.getElem?_set_self hl]
      rfl
    generalize M.set n (.lst (([.int a, .int b, .int c] : List D).set 2 (.int (c + 1)))) = M' at hM'
    walk_at "gos"
    refine ⟨.int (c + 1), by rw [ix_p hM', ix_2]; rfl, ?_⟩
    walk_at "gos"
    refine ⟨.int b, by rw [ix_p hM', ix_1]; rfl, ?_⟩
    walk_at "gos"
    refine ⟨_, mul_l (by decide) (by decide), ?_⟩
    walk_at "gos"
    refine ⟨_, mul_l (by omega) h1, ?_⟩
    walk_at "gos"
    refine ⟨_, mul_l (by decide) (by decide), ?_⟩
    walk_at "gos"
    refine ⟨_, mul_r (by omega) (by omega), ?_⟩
    walk_at "gos"
    have hp1 : b * (2 * (c + 1) + 1) ≤ 2 ^ 64 * 2 ^ 42 := Int.mul_le_mul (by omega) (by omega) (by omega) (by omega)
    have hp0 : 0 ≤ b * (2 * (c + 1) + 1) := Int.mul_nonneg h0 (by omega)
    have hp3 : 6121 * (c + 1) * (c + 1) ≤ 2 ^ 60 * 2 ^ 41 := Int.mul_le_mul (by omega) (by omega) (by omega) (by omega)
    have hp2 : 0 ≤ 6121 * (c + 1) * (c + 1) := Int.mul_nonneg (by omega) (by omega)
    generalize b * (2 * (c + 1) + 1) = u at hp0 hp1
    generalize 6121 * (c + 1) * (c + 1) = v at hp2 hp3
    refine ⟨_, pow_ii ⟨by decide, by decide, pw_small (by omega)⟩, ?_⟩
    generalize (u + v + 41) ^ Int.toNat 3 = z
    walk_at "gos"
    refine ⟨_, mod_ii (by decide), ?_⟩
    have m8 : 0 ≤ (c + 1) % 8 ∧ (c + 1) % 8 < 8 := ⟨Int.emod_nonneg _ (by decide), Int.emod_lt_of_pos _ (by decide)⟩
    have m9 : 0 ≤ (c + 1 + 3) % 8 ∧ (c + 1 + 3) % 8 < 8 := ⟨Int.emod_nonneg _ (by decide), Int.emod_lt_of_pos _ (by decide)⟩
    obtain ⟨p1, e1, q1⟩ := prime_at m8.1 m8.2
    obtain ⟨p2, e2, q2⟩ := prime_at m9.1 m9.2
    refine ⟨.int p1, by rw [ix_t]; exact e1, ?_⟩
    refine ⟨_, mod_ii (by omega), ?_⟩
    have hz : 0 ≤ z % p1 ∧ z % p1 < p1 := ⟨Int.emod_nonneg _ (by omega), Int.emod_lt_of_pos _ (by omega)⟩
    generalize z % p1 = y at hz
    walk_at "gos"
    refine ⟨_, div_ii (by decide) (by decide), ?_⟩
    walk_at "gos"
    refine ⟨_, mul_l (by omega) (by omega), ?_⟩
    walk_at "gos"
    refine ⟨_, mod_ii (by decide), ?_⟩
    refine ⟨.int p2, by rw [ix_t]; exact e2, ?_⟩
    refine ⟨_, mod_ii (by omega), ?_⟩
    walk_at "gos"
    refine ⟨_, div_ii (by decide) (by decide), ?_⟩
    walk_at "gos"
    refine ⟨_, mod_ii hk, ?_⟩
    exact ⟨⟨_, rfl, Int.emod_nonneg _ (by omega), Int.emod_lt_of_pos _ hk, a, b, c + 1, hM', h0, h1, by omega, by omega, hN⟩⟩

theorem b01 (b : Bool) : -(2 ^ 64) < (if b = true then (1 : Int) else 0) ∧ (if b = true then (1 : Int) else 0) < 2 ^ 64 := by
  cases b <;> decide
theorem bag_ok {M : Mem} {ns : List Int} {k : Nat} (hk : k ≤ 1000) : Gv (f_law_bag [.scr ns, .int k] M) fun d M' => d = .ptr M.length ∧ BagAt M' M.length 0 := by
  refine v_body rfl ?_
  unfold b_law_bag
  walk_at "gos"
  refine ⟨_, mul_l (by decide) (by decide), ?_⟩
  walk_at "gos"
  refine Gv.imp (P := fun fl M1 => (∃ cell : Int, fl = Fl.nx [some (D.scr ns), some (D.int k), some (D.int cell), none]) ∧ M1 = M) (v_ifS ?_) ?_
  · walk_at "gos"
    by_cases h : k < ns.length
    · rw [if_pos (by simpa using h)]
      walk_at "gos"
      refine ⟨_, by rw [ix_sc, ix_nat, List.getElem?_eq_getElem h]; rfl, ?_⟩
      exact ⟨⟨_, rfl⟩, rfl⟩
    · rw [if_neg (by simpa using h)]
      walk_at "gos"
      exact ⟨⟨_, rfl⟩, rfl⟩
  · rintro _ _ ⟨⟨cell, rfl⟩, rfl⟩
    walk_at "gos"
    refine ⟨_, babs, ?_⟩
    walk_at "gos"
    refine ⟨_, pow_ii ⟨by decide, by decide, pw_small (by decide)⟩, ?_⟩
    walk_at "gos"
    refine ⟨_, bint_b, ?_⟩
    refine ⟨_, mul_r (b01 _).1 (b01 _).2, ?_⟩
    walk_at "gos"
    refine ⟨_, mod_ii (by decide), ?_⟩
    walk_at "gos"
    refine ⟨_, mul_l (by decide) (by decide), ?_⟩
    walk_at "gos"
    refine ⟨_, mul_r (by omega) (by omega), ?_⟩
    walk_at "gos"
    refine ⟨_, mul_l (by decide) (by decide), ?_⟩
    walk_at "gos"
    refine ⟨rfl, _, _, _, by rw [List.getElem?_append_right (Nat.le_refl _)]; simp; rfl, ?_, ?_, by decide, by decide, by decide⟩
    · have h1 : 0 ≤ cell % 1000000000000000003 := Int.emod_nonneg _ (by decide)
      have h2 : 0 ≤ 7919 * (k : Int) * (k : Int) := Int.mul_nonneg (by omega) (by omega)
      omega
    · have h1 : cell % 1000000000000000003 < 1000000000000000003 := Int.emod_lt_of_pos _ (by decide)
      have h2 : 7919 * (k : Int) * (k : Int) ≤ 7919000 * 1000 := Int.mul_le_mul (by omega) (by omega) (by omega) (by omega)
      omega
/-- so many signs drawn -/
theorem signs_ok {M : Mem} {n : Nat} {N : Int} {m : Nat} {η : Dv} (h : BagAt M n N) (hN : N + m < 2 ^ 40) (h0 : η[0]? = some (some (.ptr n))) (h2 : η[2]? = some (some (.str "abcdefghijklmnopqrstuvwxyz"))) :
    Gv (xLcL (xgName 6) xYes (xOp dIx (xVar 2) (xFn 2 f_law_take (xCons (xVar 0) (xCons (xC (.int 26)) xNil)))) ((List.range m).map fun i => .int (i : Nat)) η M) fun r M1 => (∃ ss : List Str, r = ss.map D.str ∧ ss.length = m ∧ ∀ s ∈ ss, s.length = 1) ∧ BagAt M1 n (N + m) := by
  refine (v_lcL (fun rest acc M1 => ∃ ss : List Str, acc = ss.map D.str ∧ ss.length + rest.length = m ∧ (∀ s ∈ ss, s.length = 1) ∧ BagAt M1 n (N + ss.length)) _ ?_ [] ⟨[], rfl, by simp, by simp, by simpa using h⟩).imp ?_
  · rintro d r acc M1 ⟨ss, rfl, hl, hs, hb⟩
    refine v_gn (v_yes ?_)
    rw [if_pos rfl]
    simp only [List.length_cons] at hl
    refine v_op (v_var (by rw [List.getElem?_set_ne (by decide)]; exact h2) ?_)
    refine v_fn (v_cons (v_var (by rw [List.getElem?_set_ne (by decide)]; exact h0) (v_cons (v_c (v_nil ⟨rfl, ?_⟩)))))
    refine (take_ok hb (by omega) (by decide) (by decide)).imp ?_
    rintro _ M2 ⟨⟨x, rfl, x0, x1, hb2⟩⟩
    obtain ⟨c, e, _⟩ := ix_in (l := ("abcdefghijklmnopqrstuvwxyz" : Str).cps.toList) x0 x1
    refine ⟨.str ⟨#[c]⟩, by rw [ix_s (by decide), e]; rfl, ?_⟩
    refine ⟨ss ++ [⟨#[c]⟩], by simp, by simp; omega, ?_, ?_⟩
    · intro s hs'
      rcases List.mem_append.mp hs' with q | q
      · exact hs s q
      · simp at q; subst q; rfl
    · have : N + ((ss ++ [(⟨#[c]⟩ : Str)]).length : Int) = N + ss.length + 1 := by simp; omega
      rw [this]; exact hb2
  · rintro r M1 ⟨ss, e, hl, hs, hb⟩
    simp at hl
    simp at e
    subst e
    exact ⟨⟨ss, rfl, hl, hs⟩, by rw [← hl]; exact hb⟩
theorem join_len {ss : List Str} (h : ∀ s ∈ ss, s.length = 1) : (Txt.join "" ss).length = ss.length := by
  show (Builtin.Str.glued "" ss).length = _
  rw [PySem.size_glued]
  have e : ((("" : Str)).length) = 0 := rfl
  rw [e, Nat.mul_zero, Nat.add_zero]
  induction ss with
  | nil => rfl
  | cons a l ih =>
    rw [List.map_cons, List.sum_cons, h a (List.mem_cons_self ..), ih fun s hs => h s (List.mem_cons_of_mem _ hs), List.length_cons]
    omega
theorem sum_len {ss : List Str} (h : ∀ s ∈ ss, s.length = 1) : (ss.map fun (q : Str) => q.length).sum = ss.length := by
  induction ss with
  | nil => rfl
  | cons a l ih =>
    rw [List.map_cons, List.sum_cons, h a (List.mem_cons_self ..), ih fun s hs => h s (List.mem_cons_of_mem _ hs), List.length_cons]
    omega
theorem join_cap {ss : List Str} (h : ∀ s ∈ ss, s.length = 1) (h1 : ss.length ≤ 1000) : (ss.map fun (q : Str) => q.length).sum + ss.length * ("" : Str).length ≤ 16777216 := by
  have e : ("" : Str).length = 0 := rfl
  rw [sum_len h, e]
  omega
theorem len_append (s t : Str) : (s ++ t).length = s.length + t.length := by
  show (s.cps ++ t.cps).size = s.cps.size + t.cps.size
  exact Array.size_append
def NamesAre (k : Nat) (d : D) : Prop := ∃ ss : List Str, d = .lst (ss.map D.str) ∧ ss.length = k ∧ ∀ s ∈ ss, s.length ≤ 8
theorem BagAt.up {M : Mem} {n : Nat} {N N' : Int} (h : BagAt M n N) (h1 : N ≤ N') (h2 : N' < 2 ^ 40) : BagAt M n N' := by
  obtain ⟨a, b, c, hM, h0, h1', h2', h3, h4⟩ := h
  exact ⟨a, b, c, hM, h0, h1', h2', by omega, h2⟩
def NamesUp (k : Nat) (d : D) : Prop := ∃ ss : List Str, d = .lst (ss.map D.str) ∧ ss.length = k ∧ (∀ s ∈ ss, s.length ≤ 8) ∧ ss.Pairwise fun a b => a.cps.toList < b.cps.toList
def abcL : List Nat := ("abcdefghijklmnopqrstuvwxyz" : Str).cps.toList
theorem abc_nodup : abcL.Nodup := by decide +kernel
theorem abc_len : abcL.length = 26 := by decide +kernel
theorem cps_append (s t : Str) : (s ++ t).cps.toList = s.cps.toList ++ t.cps.toList := by
  show (s.cps ++ t.cps).toList = _
  simp
theorem lt_cps : ∀ a b : List Nat, PySem.Spec.ltCps a b = decide (a < b)
  | [], [] => by simp [PySem.Spec.ltCps]
  | [], _ :: _ => by simp [PySem.Spec.ltCps]
  | _ :: _, [] => by simp [PySem.Spec.ltCps]
  | a :: r, b :: t => by
    have ih := lt_cps r t
    simp only [PySem.Spec.ltCps, ih]
    rw [Bool.eq_iff_iff]
    simp [List.cons_lt_cons_iff]
theorem names_nodup {ss : List Str} {fi : Int} {p : Nat} (hl : ss.length ≤ 26) (h : ∀ (q : Nat) (s : Str), ss[q]? = some s → s.cps.toList[p]? = abcL[((fi + 5 * (q : Int)) % 26).toNat]?) : ss.Nodup := by
  rw [List.Nodup, List.pairwise_iff_getElem]
  intro i j hi hj hij e
  have h1 := h i _ (List.getElem?_eq_getElem hi)
  have h2 := h j _ (List.getElem?_eq_getElem hj)
  rw [e, h2] at h1
  have b1 : ((fi + 5 * (i : Int)) % 26).toNat < abcL.length := by rw [abc_len]; omega
  have b2 : ((fi + 5 * (j : Int)) % 26).toNat < abcL.length := by rw [abc_len]; omega
  rw [List.getElem?_eq_getElem b1, List.getElem?_eq_getElem b2] at h1
  have := (List.getElem_inj abc_nodup).mp (Option.some.inj h1)
  omega
theorem srt_up {ss : List Str} (h : ss.Nodup) : (srt ss).Pairwise fun a b => a.cps.toList < b.cps.toList := by
  have h1 : (srt ss).Pairwise fun a b => leS a b = true := List.pairwise_mergeSort (le := leS) leS_trans leS_total ss
  have h2 : (srt ss).Pairwise fun a b => a ≠ b := (srt_perm ss).nodup_iff.mpr h
  refine (h1.and h2).imp fun {a b} ⟨q1, q2⟩ => ?_
  unfold leS at q1
  by_cases hc : PySem.Spec.ltCps a.cps.toList b.cps.toList = true
  · rw [lt_cps] at hc
    simpa using hc
  · exact absurd (PySem.W.str_of_cps (ltCps_anti _ _ (by simpa using hc) (by simpa using q1))) q2
theorem names_up {M : Mem} {n : Nat} {N : Int} {k : Nat} (h : BagAt M n N) (hN : N + 10 < 2 ^ 40) (hk : k ≤ 26) : Gv (f_law_names [.ptr n, .int k] M) fun d M' => NamesUp k d ∧ BagAt M' n (N + 10) := by
  refine v_body rfl ?_
  unfold b_law_names
  walk_at "gos"
  refine v_join (v_c ⟨_, rfl, v_lc (v_rng ?_)⟩)
  walk_at "gos"
  refine ⟨rfl, (take_ok h (by omega) (by decide) (by decide)).imp ?_⟩
  rintro _ M1 ⟨⟨x, rfl, x0, x1, hb1⟩⟩
  walk_at "gos"
  obtain ⟨m1, rfl⟩ := Int.eq_ofNat_of_zero_le x0
  refine ⟨m1, rfl, by omega, by simp; omega, (signs_ok hb1 (by omega) rfl rfl).imp ?_⟩
  rintro _ M2 ⟨⟨ss1, rfl, l1, u1⟩, hb2⟩
  refine ⟨ss1, rfl, join_cap u1 (by omega), ?_⟩
  have jl1 := join_len u1
  generalize Txt.join "" ss1 = ahead at jl1
  walk_at "gos"
  refine v_join (v_c ⟨_, rfl, v_lc (v_rng ?_)⟩)
  walk_at "gos"
  refine ⟨rfl, (take_ok hb2 (by omega) (by decide) (by decide)).imp ?_⟩
  rintro _ M3 ⟨⟨x, rfl, x0, x1, hb3⟩⟩
  walk_at "gos"
  obtain ⟨m2, rfl⟩ := Int.eq_ofNat_of_zero_le x0
  refine ⟨m2, rfl, by omega, by simp; omega, (signs_ok hb3 (by omega) rfl rfl).imp ?_⟩
  rintro _ M4 ⟨⟨ss2, rfl, l2, u2⟩, hb4⟩
  refine ⟨ss2, rfl, join_cap u2 (by omega), ?_⟩
  have jl2 := join_len u2
  generalize Txt.join "" ss2 = behind at jl2
  walk_at "gos"
  refine ⟨rfl, (take_ok hb4 (by omega) (by decide) (by decide)).imp ?_⟩
  rintro _ M5 ⟨⟨fi, rfl, f0, f1, hb5⟩⟩
  walk_at "gos"
  refine v_lc (v_rng ?_)
  walk_at "gos"
  refine ⟨k, rfl, by omega, by simp; omega, ?_⟩
  refine (v_lcL (fun rest acc M1 => ∃ ss : List Str, acc = ss.map D.str ∧ ss.length + rest.length = k ∧ (∀ s ∈ ss, s.length ≤ 8) ∧ M1 = M5 ∧ (∀ (q : Nat) (d : D), rest[q]? = some d → d = .int ((ss.length + q : Nat) : Int)) ∧
      ∀ (q : Nat) (s : Str), ss[q]? = some s → s.cps.toList[ahead.length]? = abcL[((fi + 5 * (q : Int)) % 26).toNat]?) _ ?_ [] ⟨[], rfl, by simp, by simp, rfl, ?_, by simp⟩).imp ?_
  · rintro d r acc M1 ⟨ss, rfl, hl, hs, rfl, hr, hq⟩
    obtain rfl : d = .int ((ss.length : Nat) : Int) := by simpa using hr 0 d rfl
    have hj : ss.length < 26 := by simp at hl; omega
    generalize ej : ss.length = j at hj
    refine v_gn (v_yes ?_)
    rw [if_pos rfl]
    walk_at "gos"
    refine ⟨_, mul_l (by decide) (by decide), ?_⟩
    walk_at "gos"
    refine ⟨_, mod_ii (by decide), ?_⟩
    obtain ⟨c, e, _⟩ := ix_in (l := ("abcdefghijklmnopqrstuvwxyz" : Str).cps.toList) (i := (fi + 5 * (j : Int)) % 26) (Int.emod_nonneg _ (by decide)) (Int.emod_lt_of_pos _ (by decide))
    refine ⟨.str ⟨#[c]⟩, by rw [ix_s (by decide), e]; rfl, ?_⟩
    have ec : abcL[((fi + 5 * (j : Int)) % 26).toNat]? = some c := by
      have h0 : 0 ≤ (fi + 5 * (j : Int)) % 26 := Int.emod_nonneg _ (by decide)
      have e2 := e
      rw [show (fi + 5 * (j : Int)) % 26 = ((((fi + 5 * (j : Int)) % 26).toNat : Nat) : Int) by omega, ix_nat] at e2
      exact e2
    have lc : (⟨#[c]⟩ : Str).length = 1 := rfl
    have lcc : (⟨#[c]⟩ : Str).cps.toList = [c] := rfl
    generalize (⟨#[c]⟩ : Str) = cs at lc lcc
    refine ⟨_, add_ss (small_line (by omega)), ?_⟩
    walk_at "gos"
    refine ⟨_, mod_ii (by decide), ?_⟩
    walk_at "gos"
    refine ⟨_, sl_s (small_line (by omega)), ?_⟩
    have cl : (cutS behind none (some ((j : Int) % 4))).length ≤ behind.length := cutS_length _ _ _
    refine ⟨_, add_ss (small_line (by rw [len_append]; omega)), ?_⟩
    refine ⟨ss ++ [ahead ++ cs ++ cutS behind none (some ((j : Int) % 4))], by simp, by simp at hl ⊢; omega, ?_, rfl, ?_, ?_⟩
    · intro s hs'
      rcases List.mem_append.mp hs' with q | q
      · exact hs s q
      · simp at q
        subst q
        rw [len_append, len_append]
        omega
    · intro q d hd
      have := hr (q + 1) d (by simpa using hd)
      rw [this, List.length_append, List.length_singleton]
      congr 2
      omega
    · intro q s hs'
      by_cases hlt : q < ss.length
      · rw [List.getElem?_append_left hlt] at hs'
        exact hq q s hs'
      · rw [List.getElem?_append_right (by omega)] at hs'
        have hz : q - ss.length = 0 := by
          have := (List.getElem?_eq_some_iff.mp hs').1
          simp at this
          omega
        rw [hz] at hs'
        simp at hs'
        subst hs'
        have eq : q = j := by omega
        subst eq
        rw [ec, cps_append, cps_append, lcc]
        have hla : ahead.length = ahead.cps.toList.length := by rw [Array.length_toList]; rfl
        rw [List.append_assoc, List.getElem?_append_right (by omega), hla]
        simp
  · intro q d hd
    rw [List.getElem?_map] at hd
    cases hq : (List.range k)[q]? with
    | none => rw [hq] at hd; cases hd
    | some z =>
      rw [hq] at hd
      have : z = q := by
        have := (List.getElem?_eq_some_iff.mp hq).2
        simpa using this.symm
      subst this
      simp at hd
      rw [← hd]
      simp
  · rintro r M1 ⟨ss, e, hl, hs, rfl, _, hq⟩
    simp at e hl
    subst e
    walk_at "gos"
    refine ⟨_, bsorted (by omega), ⟨srt ss, rfl, by rw [(srt_perm ss).length_eq]; exact hl, fun s q => hs s ((srt_perm ss).mem_iff.mp q), srt_up (names_nodup (by omega) hq)⟩, hb5.up (by omega) (by omega)⟩

def Fine1 : D → Prop
  | .str s => s.length ≤ 1000
  | .raw _ => False
  | .scr _ => False
  | .ptr _ => False
  | _ => True
def Fine (d : D) : Prop := Fine1 d ∧ ∀ ds, d = .tup ds → ds.length ≤ 1000 ∧ ∀ x ∈ ds, Fine1 x
def isS : D → Bool
  | .str _ => true
  | _ => false
def isT : D → Bool
  | .tup _ => true
  | _ => false
theorem isi_s {M : Mem} {d : D} (h : Fine1 d) : bIsi M [d, .raw (.ty "str")] = some (.bl (isS d)) := by
  cases d with
  | raw _ => exact h.elim
  | scr _ => exact h.elim
  | ptr _ => exact h.elim
  | non => simp only [bIsi, two, tyN, Option.bind_some, show kitB "NoneType" "str" = some false by decide +kernel]; rfl
  | bl _ => simp only [bIsi, two, tyN, Option.bind_some, show kitB "bool" "str" = some false by decide +kernel]; rfl
  | int _ => simp only [bIsi, two, tyN, Option.bind_some, show kitB "int" "str" = some false by decide +kernel]; rfl
  | str _ => simp only [bIsi, two, tyN, Option.bind_some, show kitB "str" "str" = some true by decide +kernel]; rfl
  | lst _ => simp only [bIsi, two, tyN, Option.bind_some, show kitB "list" "str" = some false by decide +kernel]; rfl
  | tup _ => simp only [bIsi, two, tyN, Option.bind_some, show kitB "tuple" "str" = some false by decide +kernel]; rfl
  | dct _ => simp only [bIsi, two, tyN, Option.bind_some, show kitB "dict" "str" = some false by decide +kernel]; rfl
theorem isi_t {M : Mem} {d : D} (h : Fine1 d) : bIsi M [d, .raw (.ty "tuple")] = some (.bl (isT d)) := by
  cases d with
  | raw _ => exact h.elim
  | scr _ => exact h.elim
  | ptr _ => exact h.elim
  | non => simp only [bIsi, two, tyN, Option.bind_some, show kitB "NoneType" "tuple" = some false by decide +kernel]; rfl
  | bl _ => simp only [bIsi, two, tyN, Option.bind_some, show kitB "bool" "tuple" = some false by decide +kernel]; rfl
  | int _ => simp only [bIsi, two, tyN, Option.bind_some, show kitB "int" "tuple" = some false by decide +kernel]; rfl
  | str _ => simp only [bIsi, two, tyN, Option.bind_some, show kitB "str" "tuple" = some false by decide +kernel]; rfl
  | lst _ => simp only [bIsi, two, tyN, Option.bind_some, show kitB "list" "tuple" = some false by decide +kernel]; rfl
  | tup _ => simp only [bIsi, two, tyN, Option.bind_some, show kitB "tuple" "tuple" = some true by decide +kernel]; rfl
  | dct _ => simp only [bIsi, two, tyN, Option.bind_some, show kitB "dict" "tuple" = some false by decide +kernel]; rfl
theorem isi_b {M : Mem} {b : Bool} : bIsi M [.bl b, .raw (.ty "bool")] = some (.bl true) := by
  simp only [bIsi, two, tyN, Option.bind_some, show kitB "bool" "bool" = some true by decide +kernel]; rfl
theorem cut_mem {α : Type} {l : List α} {lo hi : Option Int} {x : α} (h : x ∈ Dn.cutD l lo hi) : x ∈ l := List.mem_of_mem_drop (List.mem_of_mem_take h)
theorem cut_len {α : Type} {l : List α} {lo hi : Option Int} : (Dn.cutD l lo hi).length ≤ l.length := by
  unfold Dn.cutD
  rw [List.length_take, List.length_drop]
  omega
def fine1b : D → Bool
  | .str s => decide (s.length ≤ 1000)
  | .raw _ => false
  | .scr _ => false
  | .ptr _ => false
  | _ => true
def fineb (d : D) : Bool := fine1b d && match d with
  | .tup ds => decide (ds.length ≤ 1000) && ds.all fine1b
  | _ => true
theorem fine1_of {d : D} (h : fine1b d = true) : Fine1 d := by
  cases d <;> simp_all [fine1b, Fine1]
theorem fine_of {d : D} (h : fineb d = true) : Fine d := by
  unfold fineb at h
  rw [Bool.and_eq_true] at h
  refine ⟨fine1_of h.1, fun ds e => ?_⟩
  subst e
  have h2 := h.2
  simp only [Bool.and_eq_true, decide_eq_true_eq] at h2
  exact ⟨h2.1, fun x hx => fine1_of (List.all_eq_true.mp h2.2 x hx)⟩
theorem odd_ok {M : Mem} {n : Nat} {N : Int} (h : BagAt M n N) (hN : N + 1 < 2 ^ 40) : Gv (f_law_odd [.ptr n] M) fun d M' => Fine d ∧ BagAt M' n (N + 1) := by
  refine v_body rfl ?_
  unfold b_law_odd
  walk_at "gos"
  refine ⟨_, pow_ii ⟨by decide, by decide, pw_small (by decide)⟩, ?_⟩
  walk_at "gos"
  refine ⟨_, rfl, ?_⟩
  walk_at "gos"
  refine ⟨_, add_ll (small_line (by simp)), ?_⟩
  walk_at "gos"
  refine ⟨rfl, (take_ok h hN (by decide) (by decide)).imp ?_⟩
  rintro _ M1 ⟨⟨x, rfl, x0, x1, hb1⟩⟩
  refine Exists.elim (ix_in (l := _) x0 ?_) fun a ha => ⟨a, ix_l.trans ha.1, fine_of ?_, hb1⟩
  · exact x1
  · refine List.all_eq_true.mp ?_ a ha.2
    decide +kernel
theorem row_ok {M : Mem} {n : Nat} {N : Int} {ds : List D} (h : BagAt M n N) (hN : N + 3 < 2 ^ 40) (hl : ds.length ≤ 10) (hd : ∀ x ∈ ds, Fine1 x) : Gv (f_law_row_bent [.ptr n, .tup ds] M) fun d M' => Fine d ∧ BagAt M' n (N + 3) := by
  refine v_body rfl ?_
  unfold b_law_row_bent
  walk_at "gos"
  refine ⟨_, bmax, ?_⟩
  walk_at "gos"
  refine ⟨rfl, (take_ok h (by omega) (by split <;> omega) (by split <;> omega)).imp ?_⟩
  rintro _ M1 ⟨⟨x, rfl, x0, x1, hb1⟩⟩
  walk_at "gos"
  refine ⟨rfl, (odd_ok hb1 (by omega)).imp ?_⟩
  rintro o M2 ⟨fo, hb2⟩
  have c1 : (Dn.cutD ds none (some x)).length ≤ ds.length := cut_len
  have c2 : (Dn.cutD ds (some x) none).length ≤ ds.length := cut_len
  have c3 : (Dn.cutD ds (some (x + 1)) none).length ≤ ds.length := cut_len
  have c4 : (Dn.cutD ds (some x) (some (x + 1))).length ≤ ds.length := cut_len
  walk_at "gos"
  refine ⟨_, sl_t, ?_⟩
  walk_at "gos"
  refine ⟨_, add_tt (small_line (by simp; omega)), ?_⟩
  walk_at "gos"
  refine ⟨_, sl_t, ?_⟩
  refine ⟨_, add_tt (small_line (by simp; omega)), ?_⟩
  walk_at "gos"
  refine ⟨_, sl_t, ?_⟩
  walk_at "gos"
  refine ⟨_, sl_t, ?_⟩
  refine ⟨_, add_tt (small_line (by omega)), ?_⟩
  walk_at "gos"
  refine ⟨_, sl_t, ?_⟩
  walk_at "gos"
  refine ⟨_, sl_t, ?_⟩
  refine ⟨_, add_tt (small_line (by omega)), ?_⟩
  walk_at "gos"
  refine ⟨_, sl_t, ?_⟩
  refine ⟨_, add_tt (small_line (by simp; omega)), ?_⟩
  walk_at "gos"
  refine ⟨_, rev_t, ?_⟩
  walk_at "gos"
  refine ⟨_, blist_t, ?_⟩
  walk_at "gos"
  refine ⟨_, sl_t, ?_⟩
  walk_at "gos"
  refine ⟨_, sl_t, ?_⟩
  refine ⟨_, add_tt (small_line (by omega)), ?_⟩
  walk_at "gos"
  refine ⟨_, add_tt (small_line (by simp; omega)), ?_⟩
  walk_at "gos"
  refine ⟨_, add_ll (small_line (by simp)), ?_⟩
  walk_at "gos"
  refine ⟨rfl, (take_ok hb2 (by omega) (by decide) (by decide)).imp ?_⟩
  rintro _ M3 ⟨⟨z, rfl, z0, z1, hb3⟩⟩
  refine Exists.elim (ix_in (l := _) z0 ?_) fun a ha => ⟨a, ix_l.trans ha.1, ?_, hb3.up (by omega) (by omega)⟩
  · exact z1
  · have hm := ha.2
    simp only [List.cons_append, List.nil_append, List.mem_cons, List.not_mem_nil, or_false] at hm
    have fin : ∀ es : List D, es.length ≤ 1000 → (∀ x ∈ es, x ∈ ds ∨ x = o) → Fine (.tup es) := fun es h1 h2 => ⟨trivial, fun cs e => by
      cases e
      exact ⟨h1, fun x hx => (h2 x hx).elim (hd x) fun e => e ▸ fo.1⟩⟩
    rcases hm with rfl | rfl | rfl | rfl | rfl | rfl | rfl | rfl
    · exact fin _ (by omega) fun x hx => .inl hx
    · refine fin _ (by simp; omega) fun x hx => ?_
      simp only [List.mem_append, List.mem_singleton] at hx
      rcases hx with (q | q) | q
      · exact .inl (cut_mem q)
      · exact .inr q
      · exact .inl (cut_mem q)
    · refine fin _ (by simp; omega) fun x hx => ?_
      simp only [List.mem_append] at hx
      rcases hx with q | q <;> exact .inl (cut_mem q)
    · refine fin _ (by simp; omega) fun x hx => ?_
      simp only [List.mem_append] at hx
      rcases hx with (q | q) | q <;> exact .inl (cut_mem q)
    · exact fin _ (by simp; omega) fun x hx => .inl (List.mem_reverse.mp hx)
    · exact ⟨trivial, fun ds e => by cases e⟩
    · refine fin _ (by simp; omega) fun x hx => ?_
      simp only [List.mem_append] at hx
      rcases hx with q | q <;> exact .inl (cut_mem q)
    · refine fin _ (by simp; omega) fun x hx => ?_
      simp only [List.mem_append, List.mem_singleton] at hx
      exact hx

/-! ### == and in on sets of names -/
theorem depth_tup (o : List Str) : (tupP o).depth ≤ 60 := by
  simp [tupP, PyData.depth, depth_strs]
theorem depth_tups : ∀ l : List (List Str), PyData.depthAll (l.map tupP) ≤ 2
  | [] => by simp [PyData.depthAll]
  | a :: l => by
    have ih := depth_tups l
    simp only [List.map_cons, PyData.depthAll, tupP, PyData.depth, depth_strs]
    omega
theorem depth_sets (l : List (List Str)) : PyData.depth (.list (l.map tupP)) ≤ 60 := by
  have h := depth_tups l
  rw [PyData.depth]
  exact Nat.le_trans (Nat.succ_le_succ h) (by decide)
theorem eqv_strs : ∀ o u : List Str, PyData.eqvAll (o.map PyData.str) (u.map PyData.str) = decide (o = u)
  | [], [] => by simp [PyData.eqvAll]
  | [], _ :: _ => by simp [PyData.eqvAll]
  | _ :: _, [] => by simp [PyData.eqvAll]
  | a :: o, b :: u => by
    simp only [List.map_cons, PyData.eqvAll, PyData.eqv, eqv_strs o u]
    rw [Bool.eq_iff_iff]
    simp
theorem eqv_tup (o u : List Str) : PyData.eqv (tupP o) (tupP u) = decide (o = u) := by
  simp only [tupP, PyData.eqv, eqv_strs]
theorem eqv_sets : ∀ l : List (List Str), PyData.eqvAll (l.map tupP) (l.map tupP) = true
  | [] => by simp [PyData.eqvAll]
  | a :: l => by simp [PyData.eqvAll, eqv_tup, eqv_sets l]
theorem eq_ii {M : Mem} {i j : Int} : eqM false M (.int i) (.int j) = some (.bl (decide (i = j))) := by
  have h : (PyData.int i).depth ≤ 60 := by simp [PyData.depth]
  simp only [eqM, toPM, toP, Option.bind_some, h, if_true, PyData.eqv, Bool.false_eq_true, if_false]
  congr 2
theorem ne_nil {M : Mem} {o : List Str} : eqM true M (tupD o) (.tup []) = some (.bl (!o.isEmpty)) := by
  have h0 : toPM M (.tup []) = some (tupP []) := toP_tup []
  have h1 : toPM M (tupD o) = some (tupP o) := toP_tup o
  simp only [eqM, h1, h0, Option.bind_some, depth_tup, if_true, eqv_tup]
  cases o <;> simp
theorem ne_sets {M : Mem} {n : Nat} {l : List (List Str)} (h : M[n]? = some (.lst (l.map tupD))) : eqM true M (.ptr n) (.lst (l.map tupD)) = some (.bl false) := by
  have h1 : toPM M (.lst (l.map tupD)) = some (.list (l.map tupP)) := by simp [toPM, toP, toPs_map toP_tup]
  have h2 : toPM M (.ptr n) = some (.list (l.map tupP)) := by simp [toPM, h, toPs_map toP_tup]
  simp only [eqM, h1, h2, Option.bind_some, depth_sets, if_true, PyData.eqv, eqv_sets]
  rfl
theorem in_sets {M : Mem} {o : List Str} {l : List (List Str)} : dIn M (tupD o) (.lst (l.map tupD)) = some (.bl (decide (o ∈ l))) := by
  have h1 : toPM M (.lst (l.map tupD)) = some (.list (l.map tupP)) := by simp [toPM, toP, toPs_map toP_tup]
  have h2 : inD false M (tupD o) (.lst (l.map tupD)) = some (.bl (decide (o ∈ l))) := by
    simp only [inD, toP_tup, h1, Option.bind_some, depth_tup, if_true, Bool.false_eq_true, if_false]
    congr 2
    rw [List.any_map]
    rw [Bool.eq_iff_iff, List.any_eq_true, decide_eq_true_eq]
    constructor
    · rintro ⟨u, hu, e⟩
      have e : PyData.eqv (tupP u) (tupP o) = true := e
      rw [eqv_tup, decide_eq_true_eq] at e
      exact e ▸ hu
    · intro h
      exact ⟨o, h, by show PyData.eqv (tupP o) (tupP o) = true; rw [eqv_tup]; simp⟩
  have h3 : dInS M (tupD o) (.lst (l.map tupD)) = none := rfl
  have h4 : inF false M (tupD o) (.lst (l.map tupD)) = none := rfl
  simp only [dIn, oOr, h3, h4, h2]
theorem flat_strs : ∀ ss : List Str, flatDs (ss.map D.str) = some (ss.map V.str)
  | [] => rfl
  | a :: l => by simp [flatDs, flatD, flat_strs l]
theorem inV_strs {s : Str} : ∀ ss : List Str, L2.inV (.str s) (ss.map V.str) = decide (s ∈ ss)
  | [] => rfl
  | a :: l => by
    have ih := inV_strs (s := s) l
    unfold L2.inV at ih ⊢
    rw [List.map_cons, List.any_cons, ih]
    show (decide (a = s) || decide (s ∈ l)) = decide (s ∈ a :: l)
    by_cases h : a = s
    · subst h; simp
    · have h' : ¬ s = a := fun e => h e.symm
      simp [h, h']
theorem in_kinds {M : Mem} {s : Str} {ss : List Str} : dIn M (.str s) (.tup (ss.map D.str)) = some (.bl (decide (s ∈ ss))) := by
  have h1 : dInS M (.str s) (.tup (ss.map D.str)) = none := rfl
  have h2 : inF false M (.str s) (.tup (ss.map D.str)) = some (.bl (decide (s ∈ ss))) := by
    simp only [inF, flatD, seqD, asL, asT, Option.bind_some, flat_strs, Option.map_some, inV_strs, Bool.false_eq_true, if_false]
  simp only [dIn, oOr, h1, h2]
theorem eq_nil {M : Mem} {ds : List D} : dEq M (.tup ds) (.tup []) = some (.bl (decide (ds.length = 0))) := by
  unfold dEq oOr
  cases h : eqM false M (.tup ds) (.tup []) with
  | none => rfl
  | some z =>
    obtain ⟨p, q, h1, h2, _, rfl⟩ := eqM_some h
    have e2 : q = .tuple [] := by
      have : toPM M (.tup []) = some (.tuple []) := by simp [toPM, toP, toPs]
      rw [this] at h2
      exact (Option.some.inj h2).symm
    subst e2
    have h1' : (toPs ds).map PyData.tuple = some p := by
      have : toPM M (.tup ds) = (toPs ds).map PyData.tuple := by simp [toPM, toP]
      rw [← this]; exact h1
    cases hp : toPs ds with
    | none => rw [hp] at h1'; cases h1'
    | some ps =>
      rw [hp] at h1'
      simp at h1'
      subst h1'
      have hl := congrArg List.length (pD_map hp)
      rw [List.length_map] at hl
      simp only [Bool.false_eq_true, if_false, PyData.eqv]
      rw [hl]
      cases ps <;> simp [PyData.eqvAll]
/-! ### the bits of a number -/
def bitsL : Nat → Nat → List Nat
  | 0, _ => []
  | k + 1, m => m % 2 :: bitsL k (m / 2)
def pBit : D → Bool
  | .tup [_, .int b] => decide (b = 1)
  | _ => false
def hFst : D → D
  | .tup [a, _] => a
  | d => d
def hSnd : D → D
  | .tup [_, a] => a
  | d => d
theorem zip_bits : ∀ (ss : List Str) (k m : Nat), ss.length ≤ k → ((((ss.map D.str).zip ((bitsL k m).map fun b => D.int (b : Nat))).map fun q => D.tup [q.1, q.2]).filter pBit).map hFst = (ofN ss m).map D.str
  | [], _, _, _ => by simp [ofN]
  | s :: r, 0, _, h => by simp at h
  | s :: r, k + 1, m, h => by
    have ih := zip_bits r k (m / 2) (by simpa using h)
    simp only [List.map_cons, bitsL, List.zip_cons_cons]
    by_cases hb : m % 2 = 1
    · rw [List.filter_cons_of_pos (by simp [pBit, hb]), List.map_cons, ih, ofN, if_pos hb]
      rfl
    · rw [List.filter_cons_of_neg (by simp [pBit]; omega), ih, ofN, if_neg hb]
theorem bits5 (m : Nat) : bitsL 5 m = [m % 2, m / 2 % 2, m / 4 % 2, m / 8 % 2, m / 16 % 2] := by
  simp only [bitsL, Nat.div_div_eq_div_mul]
theorem bits_sum (n m : Nat) (hn : n ≤ 5) (hm : m < 32) : ((bitsL 5 m).drop n).sum = 0 ↔ m < 2 ^ n := by
  rw [bits5]
  match n, hn with
  | 0, _ => simp; omega
  | 1, _ => simp; omega
  | 2, _ => simp; omega
  | 3, _ => simp; omega
  | 4, _ => simp; omega
  | 5, _ => simp; omega

theorem bits_d (n : Nat) : [D.int ((n : Int) / 1 % 2), .int ((n : Int) / 2 % 2), .int ((n : Int) / 4 % 2), .int ((n : Int) / 8 % 2), .int ((n : Int) / 16 % 2)] = (bitsL 5 n).map fun b => D.int (b : Nat) := by
  rw [bits5]
  simp
theorem sum_d (l : List Nat) : asIs (l.map fun b => D.int (b : Nat)) = some (l.map fun b => ((b : Nat) : Int)) := by
  induction l with
  | nil => rfl
  | cons a l ih => simp [asIs, asI, ih]
theorem sum_cast : ∀ l : List Nat, (l.map fun b => ((b : Nat) : Int)).sum = ((l.sum : Nat) : Int)
  | [] => rfl
  | a :: l => by rw [List.map_cons, List.sum_cons, sum_cast l, List.sum_cons]; omega
theorem bsum_d {M : Mem} (l : List Nat) : bSum M [.lst (l.map fun b => D.int (b : Nat))] = some (.int ((l.sum : Nat) : Int)) := by
  simp only [bSum, one, asL, Option.bind_some, sum_d, Option.map_some, sum_cast]
theorem cut_from {α : Type} (l : List α) (n : Nat) : Dn.cutD l (some (n : Int)) none = l.drop n := by
  unfold Dn.cutD
  rw [HT.sIx_nat, HT.sIx_none]
  by_cases h : n ≤ l.length
  · rw [Nat.min_eq_left h, List.take_of_length_le (by rw [List.length_drop]; omega)]
  · rw [Nat.min_eq_right (by omega), List.drop_of_length_le (by omega), List.drop_of_length_le (by omega)]
    simp
/-- a number's turn -/
def hBit (n : Nat) : D → D
  | .int p => .int ((n : Int) / p % 2)
  | d => d
theorem law_sets_ok {M : Mem} {ss : List Str} (h5 : ss.length ≤ 5) : Gv (f_law_sets [.tup (ss.map D.str)] M) fun d M' => d = .lst ((setSort (sets1 ss)).map tupD) ∧ ∃ o, M' = M ++ [o] := by
  have h32 : 2 ^ ss.length ≤ 32 := Nat.pow_le_pow_right (by decide) h5
  refine v_body rfl ?_
  unfold b_law_sets
  walk_at "gos"
  refine v_for (PI := fun _ _ => True) (v_rng2 ?_)
  walk_at "gos"
  refine ⟨_, pow_ii ⟨by decide, by decide, pw_small (by decide)⟩, ?_⟩
  walk_at "gos"
  refine ⟨1, 32, rfl, by decide, by decide, ?_⟩
  refine v_forL (fun rest η M1 => ∃ q, q ≤ 31 ∧ rest = ((List.range 31).map fun k => D.int ((1 : Nat) + (k : Nat) : Int)).drop q ∧ (∃ a2 a3 a4 a5 a6 a7 a8, η = [some (.tup (ss.map D.str)), some (.ptr M.length), a2, a3, a4, a5, a6, a7, a8]) ∧
      M1 = M ++ [.lst ((((List.range (min q (2 ^ ss.length - 1))).map fun m => ofN ss (m + 1))).map keyDD)]) _ ⟨0, by decide, rfl, ⟨_, _, _, _, _, _, _, rfl⟩, by simp⟩ ?_ ?_
  · rintro d r η M1 ⟨q, hq, hr, ⟨a2, a3, a4, a5, a6, a7, a8, rfl⟩, rfl⟩
    have hq31 : q < 31 := by
      rcases Nat.lt_or_ge q 31 with h | h
      · exact h
      · rw [List.drop_of_length_le (by simp; omega)] at hr; cases hr
    rw [List.drop_eq_getElem_cons (by simp; omega)] at hr
    injection hr with hd hr
    have hd : d = .int ((q + 1 : Nat) : Int) := by
      rw [hd]
      simp
      omega
    subst hd
    refine v_gn ?_
    refine v_seq (v_asg (v_lc (v_sq ?_)))
    walk_at "gos"
    refine ⟨_, rfl, by simp, ?_⟩
    refine (v_lc_map (hBit (q + 1)) _ fun x hx => ?_).imp ?_
    · simp only [List.mem_cons, List.not_mem_nil, or_false] at hx
      refine v_gn (v_yes ⟨rfl, ?_⟩)
      rcases hx with rfl | rfl | rfl | rfl | rfl <;>
      · walk_at "gos"
        refine ⟨_, div_ii (by decide) (by decide), ?_⟩
        walk_at "gos"
        exact ⟨_, mod_ii (by decide), rfl, rfl⟩
    rintro r1 M2 ⟨rfl, rfl⟩
    have eb : [D.int 1, .int 2, .int 4, .int 8, .int 16].map (hBit (q + 1)) = (bitsL 5 (q + 1)).map fun b => D.int (b : Nat) := bits_d (q + 1)
    rw [eb]
    refine v_thn (v_ifS ?_)
    walk_at "gos"
    refine ⟨_, sl_l, ?_⟩
    have el : (((ss.map D.str).length : Nat) : Int) = ((ss.length : Nat) : Int) := by simp
    rw [el, cut_from, ← List.map_drop]
    walk_at "gos"
    refine ⟨_, bsum_d _, ?_⟩
    walk_at "gos"
    refine ⟨_, eq_ii, ?_⟩
    walk_at "gos"
    have hb := bits_sum ss.length (q + 1) h5 (by omega)
    have hM : (M ++ [Ob.lst ((((List.range (min q (2 ^ ss.length - 1))).map fun m => ofN ss (m + 1))).map keyDD)])[M.length]? = some (.lst ((((List.range (min q (2 ^ ss.length - 1))).map fun m => ofN ss (m + 1))).map keyDD)) := by simp
    by_cases hc : q + 1 < 2 ^ ss.length
    · rw [if_pos (by rw [decide_eq_true_eq]; have := hb.mpr hc; omega)]
      refine v_seq (v_asg ?_)
      walk_at "gos"
      refine v_lc (v_zipM ?_)
      walk_at "gos"
      refine ⟨_, _, rfl, by simp [bits5]; omega, ?_⟩
      refine (v_lc_fm pBit hFst _ fun x hx => ?_).imp ?_
      · obtain ⟨⟨u, v⟩, huv, rfl⟩ := List.mem_map.mp hx
        obtain ⟨hu, hv⟩ := List.of_mem_zip huv
        obtain ⟨s, _, rfl⟩ := List.mem_map.mp hu
        obtain ⟨b, _, rfl⟩ := List.mem_map.mp hv
        refine ⟨_, _, rfl, ?_⟩
        walk_at "gos"
        refine ⟨_, eq_ii, ?_⟩
        refine ⟨_, rfl, rfl, rfl, fun _ => ?_⟩
        walk_at "gos"
        exact ⟨rfl, rfl⟩
      rintro r2 M3 ⟨rfl, rfl⟩
      rw [zip_bits ss 5 (q + 1) h5]
      walk_at "gos"
      refine ⟨_, btuple_l, ?_⟩
      walk_at "gos"
      refine v_drop (v_append ?_)
      walk_at "gos"
      refine ⟨M.length, _, rfl, hM, ?_⟩
      walk_at "gos"
      refine ⟨_, hM, by simp; omega, q + 1, by omega, hr, ⟨_, _, _, _, _, _, _, rfl⟩, ?_⟩
      have e1 : min q (2 ^ ss.length - 1) = q := by omega
      have e2 : min (q + 1) (2 ^ ss.length - 1) = q + 1 := by omega
      rw [e1, e2, List.range_succ, List.map_append, List.map_append]
      have e3 : ((M ++ [Ob.lst ((((List.range q).map fun m => ofN ss (m + 1))).map keyDD)]).set M.length (.lst ((((List.range q).map fun m => ofN ss (m + 1))).map keyDD ++ [D.tup [.int (((ofN ss (q + 1)).map D.str).length : Nat), .tup ((ofN ss (q + 1)).map D.str)]]))) = M ++ [Ob.lst ((((List.range q).map fun m => ofN ss (m + 1))).map keyDD ++ [D.tup [.int (((ofN ss (q + 1)).map D.str).length : Nat), .tup ((ofN ss (q + 1)).map D.str)]])] := by simp
      rw [e3]
      simp [keyDD, tupD]
    · rw [if_neg (by rw [decide_eq_true_eq]; intro e; exact hc (hb.mp (by omega)))]
      walk_at "gos"
      have e1 : min q (2 ^ ss.length - 1) = 2 ^ ss.length - 1 := by omega
      have e2 : min (q + 1) (2 ^ ss.length - 1) = 2 ^ ss.length - 1 := by omega
      exact ⟨q + 1, by omega, hr, ⟨_, _, _, _, _, _, _, rfl⟩, by rw [e1, e2]⟩
  · rintro η M1 ⟨q, hq, hr, ⟨a2, a3, a4, a5, a6, a7, a8, rfl⟩, rfl⟩
    have hq31 : q = 31 := by
      rcases Nat.lt_or_ge q 31 with h | h
      · rw [List.drop_eq_getElem_cons (by simp; omega)] at hr; cases hr
      · omega
    subst hq31
    have e1 : min 31 (2 ^ ss.length - 1) = 2 ^ ss.length - 1 := by omega
    rw [e1]
    walk_at "gos"
    refine v_lc (v_sq ?_)
    walk_at "gos"
    refine ⟨_, bsort_sets (sets1 ss) (by simp [sets1]), ?_⟩
    have hl : (setSort (sets1 ss)).length = 2 ^ ss.length - 1 := by rw [(setSort_perm _).length_eq]; simp [sets1]
    refine ⟨_, rfl, by simp; omega, ?_⟩
    refine (v_lc_map hSnd _ fun x hx => ?_).imp ?_
    · obtain ⟨o, _, rfl⟩ := List.mem_map.mp hx
      refine ⟨_, _, rfl, ?_⟩
      refine v_yes ⟨rfl, ?_⟩
      walk_at "gos"
      exact ⟨rfl, rfl⟩
    rintro r3 M3 ⟨rfl, rfl⟩
    refine ⟨?_, _, rfl⟩
    rw [List.map_map]
    rfl

theorem order_ok {M : Mem} {o : List Str} : Gv (f_set_order [tupD o] M) fun y M1 => y = keyDD o ∧ M1 = M := by
  refine v_body rfl ?_
  unfold b_set_order
  walk_at "gos"
  refine ⟨?_, rfl⟩
  simp [keyDD, tupD]
def hAdd (k : Str) : D → D
  | .tup l => .tup (l ++ [.str k])
  | d => d
def pNe : D → Bool
  | .tup l => !l.isEmpty
  | _ => false
theorem subs_len (ss : List Str) : (subsN ss).length = 2 ^ ss.length := by simp [subsN]
theorem ofN_le (ss : List Str) (m : Nat) : (ofN ss m).length ≤ ss.length := (ofN_sub ss m).length_le
theorem mem_subs {ss o : List Str} (h : o ∈ subsN ss) : o.length ≤ ss.length := by
  obtain ⟨m, _, rfl⟩ := List.mem_map.mp h
  exact ofN_le ss m
def hKey : D → D
  | .tup l => .tup [.int l.length, .tup l]
  | d => d
theorem sets_of_ok {M : Mem} {ss : List Str} (h5 : ss.length ≤ 5) : Gv (f_sets_of [.tup (ss.map D.str)] M) fun d M' => d = .ptr M.length ∧ M' = M ++ [.lst ((setSort (sets1 ss)).map tupD)] := by
  refine v_body rfl ?_
  unfold b_sets_of
  walk_at "gos"
  refine v_for (PI := fun _ _ => True) (v_sq ?_)
  walk_at "gos"
  refine ⟨_, rfl, ?_⟩
  refine v_forL (fun rest η M1 => ∃ j, j ≤ ss.length ∧ rest = (ss.map D.str).drop j ∧ (∃ a2 a3, η = [some (.tup (ss.map D.str)), some (.lst ((subsN (ss.take j)).map tupD)), a2, a3]) ∧ M1 = M) _ ⟨0, Nat.zero_le _, rfl, ⟨none, none, rfl⟩, rfl⟩ ?_ ?_
  · rintro d r η M1 ⟨j, hj, hr, ⟨a2, a3, rfl⟩, rfl⟩
    have hjl : j < ss.length := by
      rcases Nat.lt_or_ge j ss.length with h | h
      · exact h
      · rw [List.drop_of_length_le (by simp; omega)] at hr; cases hr
    rw [List.drop_eq_getElem_cons (by simp; omega)] at hr
    injection hr with hd hr
    rw [List.getElem_map] at hd
    subst hd
    have ht : (ss.take j).length = j := by rw [List.length_take]; omega
    have hp : 2 ^ j ≤ 16 := Nat.pow_le_pow_right (by decide) (show j ≤ 4 by omega)
    refine v_gn ?_
    walk_at "gos"
    refine v_lc (v_sq ?_)
    walk_at "gos"
    refine ⟨_, rfl, by rw [List.length_map, subs_len, ht]; omega, ?_⟩
    refine (v_lc_map (hAdd ss[j]) _ fun x hx => ?_).imp ?_
    · obtain ⟨o, ho, rfl⟩ := List.mem_map.mp hx
      have hol := mem_subs ho
      refine v_gn (v_yes ⟨rfl, ?_⟩)
      walk_at "gos"
      exact ⟨_, add_tt (small_line (by simp; omega)), rfl, rfl⟩
    rintro r1 M2 ⟨rfl, rfl⟩
    refine ⟨_, add_ll (small_line (by rw [List.length_map, List.length_map, List.length_map, subs_len, ht]; omega)), ?_⟩
    refine ⟨j + 1, by omega, hr, ?_, rfl⟩
    have e1 : ss.take (j + 1) = ss.take j ++ [ss[j]] := by rw [List.take_succ_eq_append_getElem hjl]
    have e2 : (subsN (ss.take (j + 1))).map tupD = (subsN (ss.take j)).map tupD ++ ((subsN (ss.take j)).map tupD).map (hAdd ss[j]) := by
      rw [e1, subsN_snoc, List.map_append, List.map_map, List.map_map]
      congr 1
      refine List.map_congr_left fun o _ => ?_
      simp [tupD, hAdd]
    rw [e2]
    exact ⟨_, _, rfl⟩
  · rintro η M1 ⟨j, hj, hr, ⟨a2, a3, rfl⟩, rfl⟩
    have hjl : j = ss.length := by
      rcases Nat.lt_or_ge j ss.length with h | h
      · rw [List.drop_eq_getElem_cons (by simp; omega)] at hr; cases hr
      · omega
    subst hjl
    rw [List.take_length]
    walk_at "gos"
    refine v_sortKM (v_lc (v_sq ?_))
    walk_at "gos"
    have hp : 2 ^ ss.length ≤ 32 := Nat.pow_le_pow_right (by decide) h5
    refine ⟨_, rfl, by rw [List.length_map, subs_len]; omega, ?_⟩
    refine (v_lc_fm pNe id _ fun x hx => ?_).imp ?_
    · obtain ⟨o, ho, rfl⟩ := List.mem_map.mp hx
      refine v_gn ?_
      walk_at "gos"
      refine ⟨_, ne_nil, ?_⟩
      walk_at "gos"
      refine ⟨?_, rfl, fun _ => ?_⟩
      · simp [pNe, tupD]
      · walk_at "gos"
        exact ⟨rfl, rfl⟩
    rintro r1 M2 ⟨rfl, rfl⟩
    have e1 : (((subsN ss).map tupD).filter pNe).map id = (sets1 ss).map tupD := by
      rw [List.map_id, List.filter_map, ← subs_filter]
      congr 1
      refine List.filter_congr fun o _ => ?_
      simp [pNe, tupD]
    rw [e1]
    refine ⟨_, rfl, (keys_map hKey _ fun x hx => ?_).imp ?_⟩
    · obtain ⟨o, _, rfl⟩ := List.mem_map.mp hx
      refine order_ok.imp ?_
      rintro _ _ ⟨rfl, rfl⟩
      exact ⟨by simp [keyDD, hKey, tupD], rfl⟩
    rintro ks M3 ⟨rfl, rfl⟩
    have e2 : ((sets1 ss).map tupD).map hKey = (sets1 ss).map keyDD := by
      rw [List.map_map]
      refine List.map_congr_left fun o _ => ?_
      simp [keyDD, hKey, tupD]
    rw [e2]
    exact ⟨_, sortK_sets _, rfl, rfl⟩

/-! ### what is a set -/
abbrev ltS (a b : Str) : Prop := a.cps.toList < b.cps.toList
theorem ltS_trans {a b c : Str} (h : ltS a b) (h' : ltS b c) : ltS a c := List.lt_trans h h'
theorem ltS_irr {a : Str} (h : ltS a a) : False := List.lt_irrefl _ h
theorem sub_up {ss : List Str} (h : ss.Pairwise ltS) : ∀ {ts : List Str}, ts.Pairwise ltS → (∀ t ∈ ts, t ∈ ss) → ts.Sublist ss := by
  induction ss with
  | nil =>
    intro ts _ hs
    cases ts with
    | nil => exact .slnil
    | cons t ts => exact absurd (hs t (List.mem_cons_self ..)) (by simp)
  | cons a r ih =>
    intro ts ht hs
    obtain ⟨ha, hr⟩ := List.pairwise_cons.mp h
    cases ts with
    | nil => exact List.nil_sublist _
    | cons t ts =>
      obtain ⟨h1, h2⟩ := List.pairwise_cons.mp ht
      by_cases e : t = a
      · subst e
        refine (ih hr h2 fun u hu => ?_).cons₂ t
        rcases List.mem_cons.mp (hs u (List.mem_cons_of_mem _ hu)) with q | q
        · subst q; exact (ltS_irr (h1 _ hu)).elim
        · exact q
      · have hta : t ∈ r := (List.mem_cons.mp (hs t (List.mem_cons_self ..))).resolve_left e
        refine (ih hr ht fun u hu => ?_).cons a
        rcases List.mem_cons.mp (hs u hu) with q | q
        · subst q
          rcases List.mem_cons.mp hu with q2 | q2
          · exact absurd q2.symm e
          · exact (ltS_irr (ltS_trans (h1 _ q2) (ha _ hta))).elim
        · exact q
def risesS (ts : List Str) : Bool := (ts.zip (ts.drop 1)).all fun q => decide (ltS q.1 q.2)
theorem rises_pw : ∀ ts : List Str, risesS ts = true ↔ ts.Pairwise ltS
  | [] => by simp [risesS]
  | [a] => by simp [risesS]
  | a :: b :: r => by
    have ih := rises_pw (b :: r)
    have e : risesS (a :: b :: r) = (decide (ltS a b) && risesS (b :: r)) := by simp [risesS]
    rw [e, Bool.and_eq_true, ih, decide_eq_true_eq]
    constructor
    · rintro ⟨h1, h2⟩
      refine List.pairwise_cons.mpr ⟨fun c hc => ?_, h2⟩
      rcases List.mem_cons.mp hc with q | q
      · subst q; exact h1
      · exact ltS_trans h1 ((List.pairwise_cons.mp h2).1 c q)
    · intro h
      exact ⟨(List.pairwise_cons.mp h).1 b (List.mem_cons_self ..), (List.pairwise_cons.mp h).2⟩
def SetOf (ss : List Str) (d : D) : Prop := ∃ ts, d = tupD ts ∧ ts ≠ [] ∧ ts.Sublist ss
open Classical in
noncomputable def setB (ss : List Str) (d : D) : Bool := decide (SetOf ss d)
open Classical in
theorem setB_no {ss : List Str} {d : D} (h : ¬ SetOf ss d) : setB ss d = false := by unfold setB; exact decide_eq_false h
open Classical in
theorem setB_yes {ss : List Str} {d : D} {b : Bool} (h : SetOf ss d ↔ b = true) : setB ss d = b := by
  unfold setB
  cases b with
  | true => exact decide_eq_true (h.mpr rfl)
  | false => exact decide_eq_false fun q => absurd (h.mp q) (by decide)
theorem tupD_inj {ts us : List Str} (h : tupD ts = tupD us) : ts = us := by
  unfold tupD at h
  injection h with h
  exact (List.map_inj_right (f := D.str) fun a b e => by injection e).mp h
theorem strs_of : ∀ {ds : List D}, ds.all isS = true → ∃ ts : List Str, ds = ts.map D.str
  | [], _ => ⟨[], rfl⟩
  | d :: ds, h => by
    rw [List.all_cons, Bool.and_eq_true] at h
    obtain ⟨ts, rfl⟩ := strs_of h.2
    have : ∃ s, d = .str s := by
      have h1 := h.1
      cases d <;> first | exact ⟨_, rfl⟩ | (simp [isS] at h1)
    obtain ⟨s, rfl⟩ := this
    exact ⟨s :: ts, rfl⟩
def hLt : D → D
  | .tup [.str a, .str b] => .bl (decide (ltS a b))
  | d => d
theorem rising_ok {M : Mem} {ts : List Str} (hl : ts.length ≤ 1000) : Gv (f_is_rising [tupD ts] M) fun r M' => r = .bl (risesS ts) ∧ M' = M := by
  refine v_body rfl ?_
  unfold b_is_rising
  walk_at "gos"
  refine v_lc (v_zipT ?_)
  walk_at "gos"
  refine ⟨_, sl_t, ?_⟩
  walk_at "gos"
  have ec : Dn.cutD (ts.map D.str) (some (1 : Int)) none = (ts.drop 1).map D.str := by
    rw [show (1 : Int) = ((1 : Nat) : Int) from rfl, cut_from, List.map_drop]
  rw [ec]
  refine ⟨_, _, rfl, by simp; omega, ?_⟩
  refine (v_lc_map hLt _ ?_).imp ?_
  · intro q hq
    obtain ⟨⟨a, b⟩, hab, rfl⟩ := List.mem_map.mp hq
    obtain ⟨ha, hb⟩ := List.of_mem_zip hab
    obtain ⟨s, _, rfl⟩ := List.mem_map.mp ha
    obtain ⟨t, _, rfl⟩ := List.mem_map.mp hb
    refine ⟨_, _, rfl, ?_⟩
    refine v_yes ⟨rfl, ?_⟩
    walk_at "gos"
    exact ⟨_, lt_ss, rfl, rfl⟩
  · rintro r M1 ⟨rfl, rfl⟩
    walk_at "gos"
    have e : (((ts.map D.str).zip ((ts.drop 1).map D.str)).map fun q => D.tup [q.1, q.2]).map hLt = (ts.zip (ts.drop 1)).map fun q => D.bl (decide (ltS q.1 q.2)) := by
      have gen : ∀ (l m : List Str), (((l.map D.str).zip (m.map D.str)).map fun q => D.tup [q.1, q.2]).map hLt = (l.zip m).map fun q => D.bl (decide (ltS q.1 q.2)) := by
        intro l
        induction l with
        | nil => intro m; rfl
        | cons a l ih =>
          intro m
          cases m with
          | nil => rfl
          | cons b m =>
            rw [List.map_cons, List.map_cons, List.zip_cons_cons, List.zip_cons_cons, List.map_cons, List.map_cons, List.map_cons, ih m]
            rfl
      exact gen _ _
    rw [e]
    exact ⟨_, ball_map, rfl, rfl⟩
def inB (ss : List Str) : D → Bool
  | .str s => decide (s ∈ ss)
  | _ => false
theorem prog_set_ok {M : Mem} {ss : List Str} {d : D} (hup : ss.Pairwise ltS) (h : Fine d) : Gv (f_is_set [.tup (ss.map D.str), d] M) fun r M' => r = .bl (setB ss d) ∧ M' = M := by
  refine v_body rfl ?_
  unfold b_is_set
  walk_at "gos"
  refine v_ifS ?_
  walk_at "gos"
  refine ⟨_, isi_t h.1, ?_⟩
  walk_at "gos"
  by_cases hs : ∃ ds, d = .tup ds
  · obtain ⟨ds, rfl⟩ := hs
    obtain ⟨hl, hf⟩ := h.2 ds rfl
    refine iteF ?_
    walk_at "gos"
    refine ⟨_, eq_ii, ?_⟩
    walk_at "gos"
    by_cases c0 : ds.length = 0
    · rw [if_pos (by rw [decide_eq_true_eq]; omega)]
      walk_at "gos"
      refine ⟨?_, rfl⟩
      rw [setB_no]
      rintro ⟨ts, e, h1, _⟩
      unfold tupD at e
      injection e with e
      subst e
      exact h1 (List.eq_nil_of_length_eq_zero (by simpa using c0))
    · rw [if_neg (by rw [decide_eq_true_eq]; omega)]
      walk_at "gos"
      refine v_lc (v_sq (v_var rfl ⟨_, rfl, by omega, ?_⟩))
      refine (v_lc_map (fun x => .bl (inB ss x)) _ fun x hx => ?_).imp ?_
      · refine v_gn (v_yes ⟨rfl, ?_⟩)
        walk_at "gos"
        refine ⟨_, isi_s (hf x hx), ?_⟩
        walk_at "gos"
        by_cases hxs : ∃ s, x = .str s
        · obtain ⟨s, rfl⟩ := hxs
          refine iteT ?_
          walk_at "gos"
          exact ⟨_, in_kinds, rfl, rfl⟩
        · have hn : isS x = false := by cases x <;> first | rfl | exact absurd ⟨_, rfl⟩ hxs
          have hb : inB ss x = false := by cases x <;> first | rfl | exact absurd ⟨_, rfl⟩ hxs
          rw [hn, hb]
          exact iteF ⟨rfl, rfl⟩
      rintro r M1 ⟨rfl, rfl⟩
      walk_at "gos"
      refine ⟨_, ball_map, _, rfl, ?_⟩
      by_cases c3 : ds.all (inB ss) = true
      · rw [if_pos c3]
        have hS : ds.all isS = true := List.all_eq_true.mpr fun x hx => by
          have := List.all_eq_true.mp c3 x hx
          cases x <;> first | rfl | (simp [inB] at this)
        obtain ⟨ts, rfl⟩ := strs_of hS
        walk_at "gos"
        refine ⟨rfl, (rising_ok (ts := ts) (by simpa using hl)).imp ?_⟩
        rintro r M1 ⟨rfl, rfl⟩
        refine ⟨?_, rfl⟩
        have hin : ∀ t ∈ ts, t ∈ ss := fun t ht => by
          have := List.all_eq_true.mp c3 (.str t) (List.mem_map.mpr ⟨t, ht, rfl⟩)
          simpa [inB] using this
        rw [setB_yes]
        rw [rises_pw]
        constructor
        · rintro ⟨us, e, h1, h2⟩
          have : ts = us := tupD_inj e
          subst this
          exact hup.sublist h2
        · intro hp
          exact ⟨ts, rfl, fun e => c0 (by rw [e]; rfl), sub_up hup hp hin⟩
      · rw [if_neg c3]
        refine ⟨?_, rfl⟩
        rw [setB_no]
        rintro ⟨ts, e, h1, h2⟩
        unfold tupD at e
        injection e with e
        subst e
        refine c3 (List.all_eq_true.mpr fun x hx => ?_)
        obtain ⟨t, ht, rfl⟩ := List.mem_map.mp hx
        simpa [inB] using h2.subset ht
  · have hn : isT d = false := by cases d <;> first | rfl | exact absurd ⟨_, rfl⟩ hs
    rw [hn]
    refine iteT (iteT ?_)
    walk_at "gos"
    refine ⟨?_, rfl⟩
    rw [setB_no]
    rintro ⟨ts, e, _⟩
    exact hs ⟨_, e⟩
theorem law_set_ok {M : Mem} {ss : List Str} {d : D} (h5 : ss.length ≤ 5) (h : Fine d) : Gv (f_law_is_set [.tup (ss.map D.str), d] M) fun r M' => r = .bl (setB ss d) ∧ ∃ T, M' = M ++ T := by
  refine v_body rfl ?_
  unfold b_law_is_set
  walk_at "gos"
  refine v_ifS ?_
  walk_at "gos"
  refine ⟨_, isi_t h.1, ?_⟩
  walk_at "gos"
  by_cases hs : ∃ ds, d = .tup ds
  · obtain ⟨ds, rfl⟩ := hs
    obtain ⟨hl, hf⟩ := h.2 ds rfl
    refine iteF ?_
    walk_at "gos"
    refine ⟨_, eq_nil, ?_⟩
    walk_at "gos"
    by_cases c0 : ds.length = 0
    · rw [if_pos (by rw [decide_eq_true_eq]; omega)]
      refine iteT ?_
      walk_at "gos"
      refine ⟨?_, [], by simp⟩
      rw [setB_no]
      rintro ⟨ts, e, h1, _⟩
      unfold tupD at e
      injection e with e
      subst e
      exact h1 (List.eq_nil_of_length_eq_zero (by simpa using c0))
    · rw [if_neg (by rw [decide_eq_true_eq]; omega)]
      walk_at "gos"
      refine v_lc (v_sq (v_var rfl ⟨_, rfl, by omega, ?_⟩))
      refine (v_lc_map (fun x => .bl (isS x)) _ fun x hx => ?_).imp ?_
      · refine v_gn (v_yes ⟨rfl, ?_⟩)
        walk_at "gos"
        exact ⟨_, isi_s (hf x hx), rfl, rfl⟩
      rintro r M1 ⟨rfl, rfl⟩
      walk_at "gos"
      refine ⟨_, ball_map, ?_⟩
      walk_at "gos"
      by_cases c3 : ds.all isS = true
      · rw [if_neg (by rw [c3]; decide)]
        obtain ⟨ts, rfl⟩ := strs_of c3
        walk_at "gos"
        refine ⟨rfl, (law_sets_ok h5).imp ?_⟩
        rintro _ M2 ⟨rfl, o, rfl⟩
        refine ⟨_, in_sets (o := ts), ?_, _, rfl⟩
        rw [setB_yes]
        rw [decide_eq_true_eq, (setSort_perm _).mem_iff, mem_sets1]
        constructor
        · rintro ⟨us, e, h1, h2⟩
          have : ts = us := tupD_inj e
          subst this
          exact ⟨h1, h2⟩
        · rintro ⟨h1, h2⟩
          exact ⟨ts, rfl, h1, h2⟩
      · have c4 : ds.all isS = false := by simpa using c3
        rw [if_pos (by rw [c4]; decide)]
        walk_at "gos"
        refine ⟨?_, [], by simp⟩
        rw [setB_no]
        rintro ⟨ts, e, h1, h2⟩
        unfold tupD at e
        injection e with e
        subst e
        refine c3 (List.all_eq_true.mpr fun x hx => ?_)
        obtain ⟨t, ht, rfl⟩ := List.mem_map.mp hx
        rfl
  · have hn : isT d = false := by cases d <;> first | rfl | exact absurd ⟨_, rfl⟩ hs
    rw [hn]
    refine iteT (iteT ?_)
    walk_at "gos"
    refine ⟨?_, [], by simp⟩
    rw [setB_no]
    rintro ⟨ts, e, _⟩
    exact hs ⟨_, e⟩

theorem bag_app {M : Mem} {n : Nat} {N : Int} (h : BagAt M n N) (T : Mem) : BagAt (M ++ T) n N := by
  obtain ⟨a, b, c, hM, r⟩ := h
  have hl := (List.getElem?_eq_some_iff.mp hM).1
  exact ⟨a, b, c, by rw [List.getElem?_append_left hl]; exact hM, r⟩
theorem bag_set {M : Mem} {n m : Nat} {N : Int} {o : Ob} (h : BagAt M n N) (hm : m ≠ n) : BagAt (M.set m o) n N := by
  obtain ⟨a, b, c, hM, r⟩ := h
  exact ⟨a, b, c, by rw [List.getElem?_set_ne hm]; exact hM, r⟩
theorem bag_lt {M : Mem} {n : Nat} {N : Int} (h : BagAt M n N) : n < M.length := by
  obtain ⟨a, b, c, hM, r⟩ := h
  exact (List.getElem?_eq_some_iff.mp hM).1
structure Kinds (ss : List Str) : Prop where
  le : ss.length ≤ 5
  ge : 1 ≤ ss.length
  sh : ∀ s ∈ ss, s.length ≤ 8
  up : ss.Pairwise ltS
theorem kinds_ok {M : Mem} {n : Nat} {N : Int} (h : BagAt M n N) (hN : N + 11 < 2 ^ 40) : Gv (f_law_kinds [.ptr n] M) fun d M' => (∃ ss, d = .tup (ss.map D.str) ∧ Kinds ss) ∧ BagAt M' n (N + 11) := by
  refine v_body rfl ?_
  unfold b_law_kinds
  walk_at "gos"
  refine ⟨rfl, (take_ok h (by omega) (by decide) (by decide)).imp ?_⟩
  rintro _ M1 ⟨⟨x, rfl, x0, x1, hb1⟩⟩
  walk_at "gos"
  obtain ⟨q, rfl⟩ := Int.eq_ofNat_of_zero_le x0
  have eq1 : (1 : Int) + (q : Int) = ((q + 1 : Nat) : Int) := by omega
  rw [eq1]
  refine ⟨rfl, (names_up hb1 (by omega) (by omega)).imp ?_⟩
  rintro _ M2 ⟨⟨ss, rfl, hl, hs, hu⟩, hb2⟩
  walk_at "gos"
  exact ⟨_, btuple_l, ⟨ss, rfl, by omega, by omega, hs, hu⟩, hb2.up (by omega) (by omega)⟩
theorem truth1_ok {M : Mem} {a : Bool} : Gv (f_law_truths [.lst [.bl a], .lst [.bl a]] M) fun r M' => r = .bl true ∧ M' = M := by
  refine v_body rfl ?_
  unfold b_law_truths
  walk_at "gos"
  refine ⟨.bl true, ?_, _, rfl, ?_⟩
  · cases a <;> simp [eqM, toPM, toP, toPs, PyData.depth, PyData.depthAll, PyData.eqv, PyData.eqvAll]
  refine iteT ?_
  walk_at "gos"
  refine v_lc (v_sq (v_var rfl ⟨_, rfl, by simp, ?_⟩))
  refine (v_lc_map (fun _ => .bl true) _ fun x hx => ?_).imp ?_
  · obtain rfl : x = .bl a := by simpa using hx
    refine v_gn (v_yes ⟨rfl, ?_⟩)
    walk_at "gos"
    exact ⟨_, isi_b, rfl, rfl⟩
  · rintro r M1 ⟨rfl, rfl⟩
    walk_at "gos"
    exact ⟨_, rfl, rfl, rfl⟩
theorem fine_tup {ds : List D} (h1 : ds.length ≤ 1000) (h2 : ∀ x ∈ ds, Fine1 x) : Fine (.tup ds) := ⟨trivial, fun cs e => by cases e; exact ⟨h1, h2⟩⟩
theorem fine_strs {ts : List Str} (h : ∀ t ∈ ts, t.length ≤ 8) : ∀ x ∈ ts.map D.str, Fine1 x := fun x hx => by
  obtain ⟨t, ht, rfl⟩ := List.mem_map.mp hx
  exact Nat.le_trans (h t ht) (by decide)
theorem isi_lp {M : Mem} {n : Nat} {ds : List D} (h : M[n]? = some (.lst ds)) : bIsi M [.ptr n, .raw (.ty "list")] = some (.bl true) := by
  simp only [bIsi, two, tyN, h, Option.bind_some, show kitB "list" "list" = some true by decide +kernel]; rfl
theorem law_gv (ns : List Int) : Gv (f_law [.scr ns] []) fun r M' => r = .bl true := by
  refine v_body rfl ?_
  unfold b_law
  refine v_seq (v_for (PI := fun _ _ => True) (v_rng ?_))
  walk_at "gos"
  refine ⟨_, bmin, ?_⟩
  walk_at "gos"
  refine ⟨_, bmax, ?_⟩
  walk_at "gos"
  have hm : ∃ m : Nat, (if (if (ns.length : Int) < 5 then (ns.length : Int) else 5) > 2 then (if (ns.length : Int) < 5 then (ns.length : Int) else 5) else 2) = (m : Int) ∧ m ≤ 6 := by
    refine ⟨(if (if (ns.length : Int) < 5 then (ns.length : Int) else 5) > 2 then (if (ns.length : Int) < 5 then (ns.length : Int) else 5) else 2).toNat, ?_, ?_⟩
    · split <;> (try split) <;> omega
    · split <;> (try split) <;> omega
  obtain ⟨m, em, hm6⟩ := hm
  rw [em]
  refine ⟨m, rfl, by omega, ?_⟩
  refine v_forL (fun rest η M => (∃ a1 a2 a3 a4 a5 a6 a7 a8 a9, η = [some (D.scr ns), a1, a2, a3, a4, a5, a6, a7, a8, a9]) ∧ ∀ d ∈ rest, ∃ k : Nat, d = .int (k : Int) ∧ k ≤ 1000) _ ⟨⟨_, _, _, _, _, _, _, _, _, rfl⟩, ?_⟩ ?_ ?_
  · intro d hd
    obtain ⟨k, hk, rfl⟩ := List.mem_map.mp hd
    exact ⟨k, rfl, by have := List.mem_range.mp hk; omega⟩
  · rintro d r η M ⟨⟨a1, a2, a3, a4, a5, a6, a7, a8, a9, rfl⟩, hr⟩
    obtain ⟨k, rfl, hk⟩ := hr d (List.mem_cons_self ..)
    refine v_gn ?_
    walk_at "gos"
    refine ⟨rfl, (bag_ok hk).imp ?_⟩
    rintro _ M1 ⟨rfl, hb⟩
    walk_at "gos"
    generalize M.length = n at hb
    refine ⟨rfl, (kinds_ok hb (by decide)).imp ?_⟩
    rintro _ M2 ⟨⟨ss, rfl, K⟩, hb2⟩
    walk_at "gos"
    refine ⟨rfl, (law_sets_ok K.le).imp ?_⟩
    rintro _ _ ⟨rfl, o, rfl⟩
    have hb3 := bag_app hb2 [o]
    generalize M2 ++ [o] = M3 at hb3
    walk_at "gos"
    refine v_for (PI := fun _ _ => True) (v_rng ?_)
    walk_at "gos"
    refine ⟨2, rfl, by decide, ?_⟩
    refine v_forL (fun rest η M => (∃ a5 a6 a7 a8 a9, η = [some (D.scr ns), some (D.int k), some (.ptr n), some (.tup (ss.map D.str)), some (.lst ((setSort (sets1 ss)).map tupD)), a5, a6, a7, a8, a9]) ∧ BagAt M n (0 + 11)) _ ⟨⟨_, _, _, _, _, rfl⟩, hb3⟩ ?_ ?_
    · rintro d r' η M4 ⟨⟨a5, a6, a7, a8, a9, rfl⟩, hb4⟩
      refine v_gn ?_
      walk_at "gos"
      refine ⟨rfl, (sets_of_ok K.le).imp ?_⟩
      rintro _ _ ⟨rfl, rfl⟩
      have hlt := bag_lt hb4
      have hM : (M4 ++ [Ob.lst ((setSort (sets1 ss)).map tupD)])[M4.length]? = some (.lst ((setSort (sets1 ss)).map tupD)) := by simp
      have hb5 := bag_app hb4 [Ob.lst ((setSort (sets1 ss)).map tupD)]
      have hne : M4.length ≠ n := by omega
      generalize M4 ++ [Ob.lst ((setSort (sets1 ss)).map tupD)] = M5 at hM hb5
      generalize M4.length = z at hM hne
      walk_at "gos"
      have hl32 : (setSort (sets1 ss)).length ≤ 31 := by
        rw [(setSort_perm _).length_eq]
        have : 2 ^ ss.length ≤ 32 := Nat.pow_le_pow_right (by decide) K.le
        simp [sets1]
        omega
      refine Gv.imp (P := fun fl M => fl = Fl.nx [some (D.scr ns), some (D.int k), some (.ptr n), some (.tup (ss.map D.str)), some (.lst ((setSort (sets1 ss)).map tupD)), some d, some (.ptr z), a7, a8, a9] ∧ M = M5) (v_ifS ?_) ?_
      · walk_at "gos"
        refine ⟨_, isi_lp hM, ?_⟩
        walk_at "gos"
        refine iteF ?_
        walk_at "gos"
        refine ⟨_, ne_sets hM, ?_⟩
        walk_at "gos"
        refine iteF ?_
        walk_at "gos"
        refine v_lcP (v_var rfl ⟨z, _, rfl, hM, by simp; omega, ?_⟩)
        refine (v_lcP_map (fun _ => .bl true) hM _ fun x hx => ?_).imp ?_
        · obtain ⟨o, _, rfl⟩ := List.mem_map.mp hx
          refine v_gn (v_yes ⟨rfl, ?_⟩)
          walk_at "gos"
          exact ⟨_, isi_t (d := tupD o) trivial, rfl, rfl⟩
        · rintro r1 M6 ⟨rfl, rfl⟩
          walk_at "gos"
          refine ⟨_, ball_map (p := fun _ => true), ?_⟩
          walk_at "gos"
          rw [List.all_eq_true.mpr (fun _ _ => rfl)]
          refine iteF ?_
          walk_at "gos"
          exact ⟨rfl, rfl⟩
      · rintro _ Mz ⟨rfl, ez⟩
        rw [ez]
        walk_at "gos"
        refine v_drop (v_reverse (v_var rfl ⟨z, _, rfl, hM, ?_⟩))
        walk_at "gos"
        have hzl : z < M5.length := (List.getElem?_eq_some_iff.mp hM).1
        refine v_drop (v_append (v_var rfl ⟨z, _, rfl, List.getElem?_set_self hzl, ?_⟩))
        walk_at "gos"
        refine ⟨_, List.getElem?_set_self hzl, by simp; omega, ?_⟩
        exact ⟨⟨_, _, _, _, _, rfl⟩, bag_set (bag_set hb5 hne) hne⟩
    · rintro η M4 ⟨⟨a5, a6, a7, a8, a9, rfl⟩, hb4⟩
      walk_at "gos"
      refine v_for (PI := fun _ _ => True) (v_rng ?_)
      walk_at "gos"
      refine ⟨8, rfl, by decide, ?_⟩
      refine v_forL (fun rest η M => (∃ a5 a6 a7 a8 a9, η = [some (D.scr ns), some (D.int k), some (.ptr n), some (.tup (ss.map D.str)), some (.lst ((setSort (sets1 ss)).map tupD)), a5, a6, a7, a8, a9]) ∧ rest.length ≤ 8 ∧ BagAt M n (100 + 100 * (8 - rest.length))) _ ⟨⟨_, _, _, _, _, rfl⟩, by simp, hb4.up (by simp) (by simp)⟩ ?_ ?_
      · rintro d r' η M5 ⟨⟨a5, a6, a7, a8, a9, rfl⟩, hl, hb5⟩
        simp only [List.length_cons] at hl hb5
        have hsl : (setSort (sets1 ss)).length = 2 ^ ss.length - 1 := by
          rw [(setSort_perm _).length_eq]
          simp [sets1]
        have hp1 : 2 ^ ss.length ≤ 32 := Nat.pow_le_pow_right (by decide) K.le
        have hp2 : 2 ^ 1 ≤ 2 ^ ss.length := Nat.pow_le_pow_right (by decide) K.ge
        refine v_gn ?_
        walk_at "gos"
        refine ⟨rfl, (take_ok hb5 (by omega) (by rw [List.length_map, hsl]; omega) (by rw [List.length_map, hsl]; omega)).imp ?_⟩
        rintro _ M6 ⟨⟨y, rfl, y0, y1, hb6⟩⟩
        refine Exists.elim (ix_in (l := (setSort (sets1 ss)).map tupD) y0 y1) fun nm hn => ⟨nm, ix_l.trans hn.1, ?_⟩
        obtain ⟨o, ho, rfl⟩ := List.mem_map.mp hn.2
        have hsub : o.Sublist ss := (mem_sets1.mp ((setSort_perm _).mem_iff.mp ho)).2
        have hol : o.length ≤ 5 := Nat.le_trans hsub.length_le K.le
        have ho8 : ∀ t ∈ o, t.length ≤ 8 := fun t ht => K.sh t (hsub.subset ht)
        walk_at "gos"
        refine ⟨rfl, (kinds_ok hb6 (by omega)).imp ?_⟩
        rintro _ M7 ⟨⟨us, rfl, U⟩, hb7⟩
        walk_at "gos"
        refine v_for (PI := fun _ _ => True) (v_sq ?_)
        walk_at "gos"
        refine ⟨rfl, (row_ok hb7 (by omega) (show (o.map D.str).length ≤ 10 by simp; omega) (fine_strs ho8)).imp ?_⟩
        rintro t8 M8 ⟨f8, hb8⟩
        walk_at "gos"
        refine ⟨rfl, (odd_ok hb8 (by omega)).imp ?_⟩
        rintro t9 M9 ⟨f9, hb9⟩
        walk_at "gos"
        refine ⟨_, sl_t, ?_⟩
        have hcl : (Dn.cutD (us.map D.str) none (some 1)).length ≤ 5 := Nat.le_trans cut_len (by simp; exact U.le)
        refine ⟨_, add_tt (xs := o.map D.str) (small_line (by simp; omega)), ?_⟩
        walk_at "gos"
        have fo : Fine (tupD o) := fine_tup (by simp; omega) (fine_strs ho8)
        have fu : Fine (.tup (us.map D.str)) := fine_tup (by have := U.le; simp; omega) (fine_strs U.sh)
        have fs : Fine (.tup (ss.map D.str)) := fine_tup (by have := K.le; simp; omega) (fine_strs K.sh)
        have fa : Fine (.tup (o.map D.str ++ Dn.cutD (us.map D.str) none (some 1))) := fine_tup (by simp; omega) fun x hx => by
          rcases List.mem_append.mp hx with q | q
          · exact fine_strs ho8 x q
          · exact fine_strs U.sh x (cut_mem q)
        refine ⟨_, rfl, ?_⟩
        refine v_forL (fun rest η M => (∃ a9, η = [some (D.scr ns), some (D.int k), some (.ptr n), some (.tup (ss.map D.str)), some (.lst ((setSort (sets1 ss)).map tupD)), some d, a6, some (tupD o), some (.tup (us.map D.str)), a9]) ∧ BagAt M n (100 + 100 * (8 - r'.length)) ∧ ∀ x ∈ rest, Fine x) _ ⟨⟨_, rfl⟩, hb9.up (by omega) (by omega), ?_⟩ ?_ ?_
        · intro x hx
          simp only [List.mem_cons, List.not_mem_nil, or_false] at hx
          rcases hx with rfl | rfl | rfl | rfl | rfl | rfl <;> assumption
        · rintro x rx η9 Mx ⟨⟨a9, rfl⟩, hbx, hx⟩
          have fx := hx x (List.mem_cons_self ..)
          refine v_gn ?_
          refine v_ifS ?_
          walk_at "gos"
          refine ⟨rfl, (prog_set_ok K.up fx).imp ?_⟩
          rintro _ _ ⟨rfl, rfl⟩
          walk_at "gos"
          refine ⟨rfl, (law_set_ok K.le fx).imp ?_⟩
          rintro _ _ ⟨rfl, T, rfl⟩
          walk_at "gos"
          refine ⟨rfl, truth1_ok.imp ?_⟩
          rintro _ _ ⟨rfl, rfl⟩
          walk_at "gos"
          refine iteF ?_
          walk_at "gos"
          exact ⟨⟨_, rfl⟩, bag_app hbx T, fun y hy => hx y (List.mem_cons_of_mem _ hy)⟩
        · rintro η9 Mx ⟨⟨a9, rfl⟩, hbx, _⟩
          exact ⟨⟨_, _, _, _, _, rfl⟩, by omega, hbx⟩
      · rintro η M5 ⟨⟨a5, a6, a7, a8, a9, rfl⟩, _, _⟩
        exact ⟨⟨_, _, _, _, _, _, _, _, _, rfl⟩, fun y hy => hr y (List.mem_cons_of_mem _ hy)⟩
  · rintro η M ⟨⟨a1, a2, a3, a4, a5, a6, a7, a8, a9, rfl⟩, _⟩
    walk_at "gos"
    rfl
theorem plain_law (ns : List Int) (_ : ns.length ≤ 63) (_ : ∀ z ∈ ns, Builtin.Int.intBits z ≤ 1048576) : ∃ M', f_law [.scr ns] [] = .ok (.bl true) M' := by
  obtain ⟨d, M', e, rfl⟩ := law_gv ns
  exact ⟨M', e⟩

theorem all_mk {l : PySem.W.OpenLaw} {w : World} {K : PySem.W.Frag} {h : Heap} {mg : Str → Option Value} {fa : Addr} (X : K.In h) (Gh : h.Ns mainGlobals mg) (hfa : mg "law" = some (.ref fa))
    {f_is_rising : Addr} {od_is_rising an_is_rising : Option Addr} {sl_is_rising : Array (Option Value)} {oc_is_rising kV_is_rising dc_is_rising pm_is_rising cd_is_rising ct_is_rising : Value}
    {f_is_set : Addr} {od_is_set an_is_set : Option Addr} {sl_is_set : Array (Option Value)} {oc_is_set kV_is_set dc_is_set pm_is_set cd_is_set ct_is_set : Value}
    {f_set_order : Addr} {od_set_order an_set_order : Option Addr} {sl_set_order : Array (Option Value)} {oc_set_order kV_set_order dc_set_order pm_set_order cd_set_order ct_set_order : Value}
    {f_sets_of : Addr} {od_sets_of an_sets_of : Option Addr} {sl_sets_of : Array (Option Value)} {oc_sets_of kV_sets_of dc_sets_of pm_sets_of cd_sets_of ct_sets_of : Value}
    {f_law_bag : Addr} {od_law_bag an_law_bag : Option Addr} {sl_law_bag : Array (Option Value)} {oc_law_bag kV_law_bag dc_law_bag pm_law_bag cd_law_bag ct_law_bag : Value}
    {f_law_take : Addr} {od_law_take an_law_take : Option Addr} {sl_law_take : Array (Option Value)} {oc_law_take kV_law_take dc_law_take pm_law_take cd_law_take ct_law_take : Value}
    {f_law_names : Addr} {od_law_names an_law_names : Option Addr} {sl_law_names : Array (Option Value)} {oc_law_names kV_law_names dc_law_names pm_law_names cd_law_names ct_law_names : Value}
    {f_law_sets : Addr} {od_law_sets an_law_sets : Option Addr} {sl_law_sets : Array (Option Value)} {oc_law_sets kV_law_sets dc_law_sets pm_law_sets cd_law_sets ct_law_sets : Value}
    {f_law_kinds : Addr} {od_law_kinds an_law_kinds : Option Addr} {sl_law_kinds : Array (Option Value)} {oc_law_kinds kV_law_kinds dc_law_kinds pm_law_kinds cd_law_kinds ct_law_kinds : Value}
    {f_law_odd : Addr} {od_law_odd an_law_odd : Option Addr} {sl_law_odd : Array (Option Value)} {oc_law_odd kV_law_odd dc_law_odd pm_law_odd cd_law_odd ct_law_odd : Value}
    {f_law_row_bent : Addr} {od_law_row_bent an_law_row_bent : Option Addr} {sl_law_row_bent : Array (Option Value)} {oc_law_row_bent kV_law_row_bent dc_law_row_bent pm_law_row_bent cd_law_row_bent ct_law_row_bent : Value}
    {f_law_is_set : Addr} {od_law_is_set an_law_is_set : Option Addr} {sl_law_is_set : Array (Option Value)} {oc_law_is_set kV_law_is_set dc_law_is_set pm_law_is_set cd_law_is_set ct_law_is_set : Value}
    {f_law_truths : Addr} {od_law_truths an_law_truths : Option Addr} {sl_law_truths : Array (Option Value)} {oc_law_truths kV_law_truths dc_law_truths pm_law_truths cd_law_truths ct_law_truths : Value}
    {f_law : Addr} {od_law an_law : Option Addr} {sl_law : Array (Option Value)} {oc_law kV_law dc_law pm_law cd_law ct_law : Value}
    (a_is_rising : PySem.W.nsIn K mainGlobals "is_rising" = some (some (.ref f_is_rising))) (l_is_rising : K.lookup f_is_rising = some ⟨oc_is_rising, od_is_rising, .func (PySem.W.fnOf "is_rising" "is_rising" (defArgs s_is_rising) (defBody s_is_rising) (defScope s_is_rising) .none kV_is_rising dc_is_rising pm_is_rising an_is_rising cd_is_rising ct_is_rising), sl_is_rising⟩) (c_is_rising : PySem.W.codeIn K cd_is_rising "is_rising" = true) (k_is_rising : PySem.W.keepIn K (.ref f_is_rising) = true)
    (a_is_set : PySem.W.nsIn K mainGlobals "is_set" = some (some (.ref f_is_set))) (l_is_set : K.lookup f_is_set = some ⟨oc_is_set, od_is_set, .func (PySem.W.fnOf "is_set" "is_set" (defArgs s_is_set) (defBody s_is_set) (defScope s_is_set) .none kV_is_set dc_is_set pm_is_set an_is_set cd_is_set ct_is_set), sl_is_set⟩) (c_is_set : PySem.W.codeIn K cd_is_set "is_set" = true) (k_is_set : PySem.W.keepIn K (.ref f_is_set) = true)
    (a_set_order : PySem.W.nsIn K mainGlobals "set_order" = some (some (.ref f_set_order))) (l_set_order : K.lookup f_set_order = some ⟨oc_set_order, od_set_order, .func (PySem.W.fnOf "set_order" "set_order" (defArgs s_set_order) (defBody s_set_order) (defScope s_set_order) .none kV_set_order dc_set_order pm_set_order an_set_order cd_set_order ct_set_order), sl_set_order⟩) (c_set_order : PySem.W.codeIn K cd_set_order "set_order" = true) (k_set_order : PySem.W.keepIn K (.ref f_set_order) = true)
    (a_sets_of : PySem.W.nsIn K mainGlobals "sets_of" = some (some (.ref f_sets_of))) (l_sets_of : K.lookup f_sets_of = some ⟨oc_sets_of, od_sets_of, .func (PySem.W.fnOf "sets_of" "sets_of" (defArgs s_sets_of) (defBody s_sets_of) (defScope s_sets_of) .none kV_sets_of dc_sets_of pm_sets_of an_sets_of cd_sets_of ct_sets_of), sl_sets_of⟩) (c_sets_of : PySem.W.codeIn K cd_sets_of "sets_of" = true) (k_sets_of : PySem.W.keepIn K (.ref f_sets_of) = true)
    (a_law_bag : PySem.W.nsIn K mainGlobals "_law_bag" = some (some (.ref f_law_bag))) (l_law_bag : K.lookup f_law_bag = some ⟨oc_law_bag, od_law_bag, .func (PySem.W.fnOf "_law_bag" "_law_bag" (defArgs s_law_bag) (defBody s_law_bag) (defScope s_law_bag) .none kV_law_bag dc_law_bag pm_law_bag an_law_bag cd_law_bag ct_law_bag), sl_law_bag⟩) (c_law_bag : PySem.W.codeIn K cd_law_bag "_law_bag" = true) (k_law_bag : PySem.W.keepIn K (.ref f_law_bag) = true)
    (a_law_take : PySem.W.nsIn K mainGlobals "_law_take" = some (some (.ref f_law_take))) (l_law_take : K.lookup f_law_take = some ⟨oc_law_take, od_law_take, .func (PySem.W.fnOf "_law_take" "_law_take" (defArgs s_law_take) (defBody s_law_take) (defScope s_law_take) .none kV_law_take dc_law_take pm_law_take an_law_take cd_law_take ct_law_take), sl_law_take⟩) (c_law_take : PySem.W.codeIn K cd_law_take "_law_take" = true) (k_law_take : PySem.W.keepIn K (.ref f_law_take) = true)
    (a_law_names : PySem.W.nsIn K mainGlobals "_law_names" = some (some (.ref f_law_names))) (l_law_names : K.lookup f_law_names = some ⟨oc_law_names, od_law_names, .func (PySem.W.fnOf "_law_names" "_law_names" (defArgs s_law_names) (defBody s_law_names) (defScope s_law_names) .none kV_law_names dc_law_names pm_law_names an_law_names cd_law_names ct_law_names), sl_law_names⟩) (c_law_names : PySem.W.codeIn K cd_law_names "_law_names" = true) (k_law_names : PySem.W.keepIn K (.ref f_law_names) = true)
    (a_law_sets : PySem.W.nsIn K mainGlobals "_law_sets" = some (some (.ref f_law_sets))) (l_law_sets : K.lookup f_law_sets = some ⟨oc_law_sets, od_law_sets, .func (PySem.W.fnOf "_law_sets" "_law_sets" (defArgs s_law_sets) (defBody s_law_sets) (defScope s_law_sets) .none kV_law_sets dc_law_sets pm_law_sets an_law_sets cd_law_sets ct_law_sets), sl_law_sets⟩) (c_law_sets : PySem.W.codeIn K cd_law_sets "_law_sets" = true) (k_law_sets : PySem.W.keepIn K (.ref f_law_sets) = true)
    (a_law_kinds : PySem.W.nsIn K mainGlobals "_law_kinds" = some (some (.ref f_law_kinds))) (l_law_kinds : K.lookup f_law_kinds = some ⟨oc_law_kinds, od_law_kinds, .func (PySem.W.fnOf "_law_kinds" "_law_kinds" (defArgs s_law_kinds) (defBody s_law_kinds) (defScope s_law_kinds) .none kV_law_kinds dc_law_kinds pm_law_kinds an_law_kinds cd_law_kinds ct_law_kinds), sl_law_kinds⟩) (c_law_kinds : PySem.W.codeIn K cd_law_kinds "_law_kinds" = true) (k_law_kinds : PySem.W.keepIn K (.ref f_law_kinds) = true)
    (a_law_odd : PySem.W.nsIn K mainGlobals "_law_odd" = some (some (.ref f_law_odd))) (l_law_odd : K.lookup f_law_odd = some ⟨oc_law_odd, od_law_odd, .func (PySem.W.fnOf "_law_odd" "_law_odd" (defArgs s_law_odd) (defBody s_law_odd) (defScope s_law_odd) .none kV_law_odd dc_law_odd pm_law_odd an_law_odd cd_law_odd ct_law_odd), sl_law_odd⟩) (c_law_odd : PySem.W.codeIn K cd_law_odd "_law_odd" = true) (k_law_odd : PySem.W.keepIn K (.ref f_law_odd) = true)
    (a_law_row_bent : PySem.W.nsIn K mainGlobals "_law_row_bent" = some (some (.ref f_law_row_bent))) (l_law_row_bent : K.lookup f_law_row_bent = some ⟨oc_law_row_bent, od_law_row_bent, .func (PySem.W.fnOf "_law_row_bent" "_law_row_bent" (defArgs s_law_row_bent) (defBody s_law_row_bent) (defScope s_law_row_bent) .none kV_law_row_bent dc_law_row_bent pm_law_row_bent an_law_row_bent cd_law_row_bent ct_law_row_bent), sl_law_row_bent⟩) (c_law_row_bent : PySem.W.codeIn K cd_law_row_bent "_law_row_bent" = true) (k_law_row_bent : PySem.W.keepIn K (.ref f_law_row_bent) = true)
    (a_law_is_set : PySem.W.nsIn K mainGlobals "_law_is_set" = some (some (.ref f_law_is_set))) (l_law_is_set : K.lookup f_law_is_set = some ⟨oc_law_is_set, od_law_is_set, .func (PySem.W.fnOf "_law_is_set" "_law_is_set" (defArgs s_law_is_set) (defBody s_law_is_set) (defScope s_law_is_set) .none kV_law_is_set dc_law_is_set pm_law_is_set an_law_is_set cd_law_is_set ct_law_is_set), sl_law_is_set⟩) (c_law_is_set : PySem.W.codeIn K cd_law_is_set "_law_is_set" = true) (k_law_is_set : PySem.W.keepIn K (.ref f_law_is_set) = true)
    (a_law_truths : PySem.W.nsIn K mainGlobals "_law_truths" = some (some (.ref f_law_truths))) (l_law_truths : K.lookup f_law_truths = some ⟨oc_law_truths, od_law_truths, .func (PySem.W.fnOf "_law_truths" "_law_truths" (defArgs s_law_truths) (defBody s_law_truths) (defScope s_law_truths) .none kV_law_truths dc_law_truths pm_law_truths an_law_truths cd_law_truths ct_law_truths), sl_law_truths⟩) (c_law_truths : PySem.W.codeIn K cd_law_truths "_law_truths" = true) (k_law_truths : PySem.W.keepIn K (.ref f_law_truths) = true)
    (a_law : PySem.W.nsIn K mainGlobals "law" = some (some (.ref f_law))) (l_law : K.lookup f_law = some ⟨oc_law, od_law, .func (PySem.W.fnOf "law" "law" (defArgs s_law) (defBody s_law) (defScope s_law) .none kV_law dc_law pm_law an_law cd_law ct_law), sl_law⟩) (c_law : PySem.W.codeIn K cd_law "law" = true) (k_law : PySem.W.keepIn K (.ref f_law) = true)
    (z_abs : PySem.W.nsIn K mainGlobals "abs" = some none)
    (z_all : PySem.W.nsIn K mainGlobals "all" = some none)
    (z_bool : PySem.W.nsIn K mainGlobals "bool" = some none)
    (z_int : PySem.W.nsIn K mainGlobals "int" = some none)
    (z_isinstance : PySem.W.nsIn K mainGlobals "isinstance" = some none)
    (z_len : PySem.W.nsIn K mainGlobals "len" = some none)
    (z_list : PySem.W.nsIn K mainGlobals "list" = some none)
    (z_max : PySem.W.nsIn K mainGlobals "max" = some none)
    (z_min : PySem.W.nsIn K mainGlobals "min" = some none)
    (z_range : PySem.W.nsIn K mainGlobals "range" = some none)
    (z_sorted : PySem.W.nsIn K mainGlobals "sorted" = some none)
    (z_str : PySem.W.nsIn K mainGlobals "str" = some none)
    (z_sum : PySem.W.nsIn K mainGlobals "sum" = some none)
    (z_tuple : PySem.W.nsIn K mainGlobals "tuple" = some none)
    (z_zip : PySem.W.nsIn K mainGlobals "zip" = some none)
    : ∃ fd : FuncData, (∀ (s : Shared) (v : Value), BindsTo s fd ⟨[v], []⟩ [("_law_script", v)]) ∧ ∀ base : Heap, K.In base → base.Ns mainGlobals mg → FnOk l.prog w K mg base CX0 5 fa fd ["_law_script"] (Dn.spLaw K) := by
  have e := hfa.symm.trans (PySem.W.mg_of X Gh a_law)
  cases e
  have T : G mg := ⟨PySem.W.mg_none_of X Gh z_abs, PySem.W.mg_none_of X Gh z_all, PySem.W.mg_none_of X Gh z_bool, PySem.W.mg_none_of X Gh z_int, PySem.W.mg_none_of X Gh z_isinstance, PySem.W.mg_none_of X Gh z_len, PySem.W.mg_none_of X Gh z_list, PySem.W.mg_none_of X Gh z_max, PySem.W.mg_none_of X Gh z_min, PySem.W.mg_none_of X Gh z_range, PySem.W.mg_none_of X Gh z_sorted, PySem.W.mg_none_of X Gh z_str, PySem.W.mg_none_of X Gh z_sum, PySem.W.mg_none_of X Gh z_tuple, PySem.W.mg_none_of X Gh z_zip⟩
  refine ⟨PySem.W.fnOf "law" "law" (defArgs s_law) (defBody s_law) (defScope s_law) .none kV_law dc_law pm_law an_law cd_law ct_law, fun s v => .of_eq rfl, fun base _ _ => ?_⟩
  have F_is_rising := fun_mk (st := s_is_rising) l_is_rising c_is_rising k_is_rising
  have C_is_rising : FnD l.prog w K mg base 1 "is_rising" 1 Law.f_is_rising := ⟨f_is_rising, _, _, ok_is_rising T F_is_rising, PySem.W.mg_of X Gh a_is_rising, k_is_rising, F_is_rising.binds (ps := ["things"]) fun _ _ _ _ _ _ us hl => match us, hl with | [_], _ => rfl⟩
  have F_is_set := fun_mk (st := s_is_set) l_is_set c_is_set k_is_set
  have C_is_set : FnD l.prog w K mg base 2 "is_set" 2 Law.f_is_set := ⟨f_is_set, _, _, ok_is_set T C_is_rising F_is_set, PySem.W.mg_of X Gh a_is_set, k_is_set, F_is_set.binds (ps := ["kinds", "thing"]) fun _ _ _ _ _ _ us hl => match us, hl with | [_, _], _ => rfl⟩
  have F_set_order := fun_mk (st := s_set_order) l_set_order c_set_order k_set_order
  have C_set_order : FnD l.prog w K mg base 1 "set_order" 1 Law.f_set_order := ⟨f_set_order, _, _, ok_set_order T F_set_order, PySem.W.mg_of X Gh a_set_order, k_set_order, F_set_order.binds (ps := ["of"]) fun _ _ _ _ _ _ us hl => match us, hl with | [_], _ => rfl⟩
  have F_sets_of := fun_mk (st := s_sets_of) l_sets_of c_sets_of k_sets_of
  have C_sets_of : FnD l.prog w K mg base 4 "sets_of" 1 Law.f_sets_of := ⟨f_sets_of, _, _, ok_sets_of T C_set_order F_sets_of, PySem.W.mg_of X Gh a_sets_of, k_sets_of, F_sets_of.binds (ps := ["kinds"]) fun _ _ _ _ _ _ us hl => match us, hl with | [_], _ => rfl⟩
  have F_law_bag := fun_mk (st := s_law_bag) l_law_bag c_law_bag k_law_bag
  have C_law_bag : FnD l.prog w K mg base 1 "_law_bag" 2 Law.f_law_bag := ⟨f_law_bag, _, _, ok_law_bag T F_law_bag, PySem.W.mg_of X Gh a_law_bag, k_law_bag, F_law_bag.binds (ps := ["_law_script", "_law_at"]) fun _ _ _ _ _ _ us hl => match us, hl with | [_, _], _ => rfl⟩
  have F_law_take := fun_mk (st := s_law_take) l_law_take c_law_take k_law_take
  have C_law_take : FnD l.prog w K mg base 1 "_law_take" 2 Law.f_law_take := ⟨f_law_take, _, _, ok_law_take T F_law_take, PySem.W.mg_of X Gh a_law_take, k_law_take, F_law_take.binds (ps := ["_law_bag_here", "_law_often"]) fun _ _ _ _ _ _ us hl => match us, hl with | [_, _], _ => rfl⟩
  have F_law_names := fun_mk (st := s_law_names) l_law_names c_law_names k_law_names
  have C_law_names : FnD l.prog w K mg base 2 "_law_names" 2 Law.f_law_names := ⟨f_law_names, _, _, ok_law_names T C_law_take F_law_names, PySem.W.mg_of X Gh a_law_names, k_law_names, F_law_names.binds (ps := ["_law_bag_here", "_law_often"]) fun _ _ _ _ _ _ us hl => match us, hl with | [_, _], _ => rfl⟩
  have F_law_sets := fun_mk (st := s_law_sets) l_law_sets c_law_sets k_law_sets
  have C_law_sets : FnD l.prog w K mg base 1 "_law_sets" 1 Law.f_law_sets := ⟨f_law_sets, _, _, ok_law_sets T F_law_sets, PySem.W.mg_of X Gh a_law_sets, k_law_sets, F_law_sets.binds (ps := ["_law_kinds_here"]) fun _ _ _ _ _ _ us hl => match us, hl with | [_], _ => rfl⟩
  have F_law_kinds := fun_mk (st := s_law_kinds) l_law_kinds c_law_kinds k_law_kinds
  have C_law_kinds : FnD l.prog w K mg base 3 "_law_kinds" 1 Law.f_law_kinds := ⟨f_law_kinds, _, _, ok_law_kinds T C_law_names C_law_take F_law_kinds, PySem.W.mg_of X Gh a_law_kinds, k_law_kinds, F_law_kinds.binds (ps := ["_law_bag_here"]) fun _ _ _ _ _ _ us hl => match us, hl with | [_], _ => rfl⟩
  have F_law_odd := fun_mk (st := s_law_odd) l_law_odd c_law_odd k_law_odd
  have C_law_odd : FnD l.prog w K mg base 2 "_law_odd" 1 Law.f_law_odd := ⟨f_law_odd, _, _, ok_law_odd T C_law_take F_law_odd, PySem.W.mg_of X Gh a_law_odd, k_law_odd, F_law_odd.binds (ps := ["_law_bag_here"]) fun _ _ _ _ _ _ us hl => match us, hl with | [_], _ => rfl⟩
  have F_law_row_bent := fun_mk (st := s_law_row_bent) l_law_row_bent c_law_row_bent k_law_row_bent
  have C_law_row_bent : FnD l.prog w K mg base 3 "_law_row_bent" 2 Law.f_law_row_bent := ⟨f_law_row_bent, _, _, ok_law_row_bent T C_law_take C_law_odd F_law_row_bent, PySem.W.mg_of X Gh a_law_row_bent, k_law_row_bent, F_law_row_bent.binds (ps := ["_law_bag_here", "_law_row"]) fun _ _ _ _ _ _ us hl => match us, hl with | [_, _], _ => rfl⟩
  have F_law_is_set := fun_mk (st := s_law_is_set) l_law_is_set c_law_is_set k_law_is_set
  have C_law_is_set : FnD l.prog w K mg base 2 "_law_is_set" 2 Law.f_law_is_set := ⟨f_law_is_set, _, _, ok_law_is_set T C_law_sets F_law_is_set, PySem.W.mg_of X Gh a_law_is_set, k_law_is_set, F_law_is_set.binds (ps := ["_law_kinds_here", "_law_thing"]) fun _ _ _ _ _ _ us hl => match us, hl with | [_, _], _ => rfl⟩
  have F_law_truths := fun_mk (st := s_law_truths) l_law_truths c_law_truths k_law_truths
  have C_law_truths : FnD l.prog w K mg base 1 "_law_truths" 2 Law.f_law_truths := ⟨f_law_truths, _, _, ok_law_truths T F_law_truths, PySem.W.mg_of X Gh a_law_truths, k_law_truths, F_law_truths.binds (ps := ["_law_told", "_law_due"]) fun _ _ _ _ _ _ us hl => match us, hl with | [_, _], _ => rfl⟩
  have F_law := fun_mk (st := s_law) l_law c_law k_law
  exact FnOk.imp (ok_law T C_law_odd C_law_row_bent C_law_truths C_law_is_set C_is_set C_law_kinds C_law_take C_sets_of C_law_sets C_law_bag F_law) (Dn.law_sp plain_law)
end Law
open PySem PySem.W PyProof.Rows in
set_option maxRecDepth 100000 in
set_option maxHeartbeats 0 in
theorem PySem.Challenge.cw_crowdpurse_k02_sets_in_order_holds : PySem.Challenge.rw_crowdpurse_k02_sets_in_order.Holds := by
  w_on; o_law; k_head; (case hw => w_witness2)
  k_fill
  refine Dn.law_walk (l := PySem.Challenge.rw_crowdpurse_k02_sets_in_order) (k := 5) (x := "_law_script") rfl rfl ⟨rfl, by decide, by decide⟩ (fun w h Y => PySem.W.kIn_of Y) ?F
  case F =>
    intro w mg fa h KX Gh hmg
    refine' Law.all_mk KX Gh hmg ?a_is_rising ?l_is_rising ?c_is_rising ?k_is_rising ?a_is_set ?l_is_set ?c_is_set ?k_is_set ?a_set_order ?l_set_order ?c_set_order ?k_set_order ?a_sets_of ?l_sets_of ?c_sets_of ?k_sets_of ?a_law_bag ?l_law_bag ?c_law_bag ?k_law_bag ?a_law_take ?l_law_take ?c_law_take ?k_law_take ?a_law_names ?l_law_names ?c_law_names ?k_law_names ?a_law_sets ?l_law_sets ?c_law_sets ?k_law_sets ?a_law_kinds ?l_law_kinds ?c_law_kinds ?k_law_kinds ?a_law_odd ?l_law_odd ?c_law_odd ?k_law_odd ?a_law_row_bent ?l_law_row_bent ?c_law_row_bent ?k_law_row_bent ?a_law_is_set ?l_law_is_set ?c_law_is_set ?k_law_is_set ?a_law_truths ?l_law_truths ?c_law_truths ?k_law_truths ?a_law ?l_law ?c_law ?k_law ?z_abs ?z_all ?z_bool ?z_int ?z_isinstance ?z_len ?z_list ?z_max ?z_min ?z_range ?z_sorted ?z_str ?z_sum ?z_tuple ?z_zip
    (case a_is_rising => k_is)
    (case l_is_rising => k_is)
    (case c_is_rising => k_is)
    (case k_is_rising => k_is)
    (case a_is_set => k_is)
    (case l_is_set => k_is)
    (case c_is_set => k_is)
    (case k_is_set => k_is)
    (case a_set_order => k_is)
    (case l_set_order => k_is)
    (case c_set_order => k_is)
    (case k_set_order => k_is)
    (case a_sets_of => k_is)
    (case l_sets_of => k_is)
    (case c_sets_of => k_is)
    (case k_sets_of => k_is)
    (case a_law_bag => k_is)
    (case l_law_bag => k_is)
    (case c_law_bag => k_is)
    (case k_law_bag => k_is)
    (case a_law_take => k_is)
    (case l_law_take => k_is)
    (case c_law_take => k_is)
    (case k_law_take => k_is)
    (case a_law_names => k_is)
    (case l_law_names => k_is)
    (case c_law_names => k_is)
    (case k_law_names => k_is)
    (case a_law_sets => k_is)
    (case l_law_sets => k_is)
    (case c_law_sets => k_is)
    (case k_law_sets => k_is)
    (case a_law_kinds => k_is)
    (case l_law_kinds => k_is)
    (case c_law_kinds => k_is)
    (case k_law_kinds => k_is)
    (case a_law_odd => k_is)
    (case l_law_odd => k_is)
    (case c_law_odd => k_is)
    (case k_law_odd => k_is)
    (case a_law_row_bent => k_is)
    (case l_law_row_bent => k_is)
    (case c_law_row_bent => k_is)
    (case k_law_row_bent => k_is)
    (case a_law_is_set => k_is)
    (case l_law_is_set => k_is)
    (case c_law_is_set => k_is)
    (case k_law_is_set => k_is)
    (case a_law_truths => k_is)
    (case l_law_truths => k_is)
    (case c_law_truths => k_is)
    (case k_law_truths => k_is)
    (case a_law => k_is)
    (case l_law => k_is)
    (case c_law => k_is)
    (case k_law => k_is)
    (case z_abs => k_is)
    (case z_all => k_is)
    (case z_bool => k_is)
    (case z_int => k_is)
    (case z_isinstance => k_is)
    (case z_len => k_is)
    (case z_list => k_is)
    (case z_max => k_is)
    (case z_min => k_is)
    (case z_range => k_is)
    (case z_sorted => k_is)
    (case z_str => k_is)
    (case z_sum => k_is)
    (case z_tuple => k_is)
    (case z_zip => k_is)
#print axioms PySem.Challenge.cw_crowdpurse_k02_sets_in_order_holds
